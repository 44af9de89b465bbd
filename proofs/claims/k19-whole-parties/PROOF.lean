import PyProof.Rows.All
import Wide.All
import OpenK.AllK
import Wide.FinOn
import HandS.ForMost
import HandS.AnyAll
import HandS.GenList
import HandS.Star
import HandS.Conv
import HandS.Deep
import HandS.TupAny
import HandS.Gcd
import HandS.Wide
import HandS.WideBits
import HandS.IsInst
import HandS.Style
import HandS.Zip
import HandS.RevRange
import KE.GoesEnum
import KE.GoesMore
import KE.DataMinMax
import HandS.EndTab
import HandS.Head0
import HandS.Head1
import HandS.Head2
import HandS.Head3
import HandS.HeadEnd
import HandS.HeadHook1
import HandS.HeadHook2
import HandS.HeadHook3
import HandS.HeadHook4
import HandS.HeadWalk
import PySem.Challenge.RW_chiefdeeds_k19_whole_parties
set_option Elab.async false
set_option linter.all false
set_option maxRecDepth 100000
section
set_option maxHeartbeats 4000000
/-! generator expressions whose element may call defs: all, any, sum over them -/
namespace WG
open PySem PySem.Spec PyProof.Rows L2 GenW
open GxR (TabB TabG Tabbed inv_tab sh_eta)

/-- the running context of a generator expression's element -/
def gcx (X : Cx) (A : Around) (s : Shared) (H : Hp) (cenv : Env) (fp : List Addr) (pn : List (Addr × Obj)) : Cx where
  prog := X.prog
  w := X.w
  K := X.K
  mg := X.mg
  base := X.base
  A := A
  N := X.N
  s_0 := s
  H_0 := H
  env := cenv
  outer := X.stack
  stack := cenv :: X.stack
  ex := fp
  fn := fun _ => false
  calm := true
  pn := pn
  xe := fun _ _ => False

theorem setG {X : Cx} {pins : List (Addr × Obj)} {σ : L2.St} {H : Hp} {s : Shared} {g' : Array GenState} (I : Inv X pins σ H s) (h : AllBare g') : Inv X pins σ H { s with gens := g' } :=
  ⟨I.ok, I.os, h, I.base, I.loc, I.cell, I.free, I.freeC, I.pin, I.hok, I.len⟩

abbrev goObj (v0 v1 v2 : Value) : Obj := { cls := .type "generator", data := .fields #[v0, v1, v2] }

section
variable {X : Cx} {pins : List (Addr × Obj)} {σ : L2.St} {H : Hp} {s : Shared}
theorem gen_start {scope : Scope} {own : List (Str × Nat)} {fp : List Addr} {A' : Around} {code itv : Value} {h1 : Heap} {v0 v1 v2 : Value} {g' : Array GenState} {t' : Nat}
    (I : Inv X pins σ H s) (ok : BlkOk X.N X.env.scope scope own) (hcell : ∀ y ∈ scope.names, y.2 ≠ .cell) (hN : X.N.Nodup)
    (hfp : ∀ b ∈ fp, FpOk X pins H b ∧ b < s.heap.objs.size)
    (hd : A'.handled = none) (hfr : A'.frames = some (genEnv scope (cloFrom X.env.cells scope.names []) s.heap.objs.size code builtinsNs X.env :: X.stack))
    (hn1 : h1.Ns s.heap.objs.size (fun y => if y = ".0" then some itv else none))
    (hs1 : Heap.SameBut s.heap.objs.size (s.heap.push { cls := .type "frame", data := .dict #[] }) h1)
    (hg' : AllBare g') :
    Inv (gcx X A' s H (genEnv scope (cloFrom X.env.cells scope.names []) s.heap.objs.size code builtinsNs X.env) fp [(h1.objs.size, goObj v0 v1 v2)]) [] (wipe σ (own.map (·.2))) H
      { s with gens := g', toks := t', heap := h1.push (goObj v0 v1 v2) } := by
  have hfree : ∀ y ∈ scope.names, y.2 = .free → ∃ c, X.env.cells.lookup y.1 = some c := fun y hy e => by
    rcases ok.free y hy e with k | k
    · exact I.ok.has _ (.inl k)
    · exact I.ok.has _ (.inr k)
  have cm : ∀ {y c}, (cloFrom X.env.cells scope.names []).lookup y = some c → X.env.cells.lookup y = some c := fun {y c} e => by
    rcases cloFrom_mem (PySem.mem_of_lookup e) with hm | ⟨h1, h2⟩
    · cases hm
    · obtain ⟨c1, hc⟩ := hfree _ h1 rfl
      have hc : X.env.cells.lookup y = some c1 := hc
      have e2 : c = c1 := by
        rw [h2, hc] <;> rfl
      rw [e2]
      exact hc
  have look : ∀ {y}, scope.names.lookup y = some .free → ∃ c, (cloFrom X.env.cells scope.names []).lookup y = some c := fun {y} hl => by
    have hy : (y, NameKind.free) ∈ scope.names := PySem.mem_of_lookup hl
    exact mem_lookup (cloFrom_has (cells := X.env.cells) (acc := []) hy)
  have kp : ∀ b o, s.heap.get? b = some o → (h1.push (goObj v0 v1 v2)).get? b = some o := fun b o e =>
    Heap.get?_push_of_some _ (hs1.extBut b o (Nat.ne_of_lt (Heap.lt_size e)) (Heap.get?_push_of_some _ e))
  have hsz : h1.objs.size = s.heap.objs.size + 1 := by rw [hs1.1, Heap.size_push]
  have clt : ∀ {y c}, X.env.cells.lookup y = some c → c < s.heap.objs.size := fun {y c} e => by
    obtain ⟨w, z⟩ := I.cell _ _ e
    exact z.lt
  have noB : ∀ b, s.heap.objs.size ≤ b → b ∉ frs X.stack := fun b hb z => by
    rcases List.mem_cons.mp (I.stkSub b z) with e | e
    · have h1 := I.lt
      rw [← e] at h1
      exact Nat.lt_irrefl _ (Nat.lt_of_lt_of_le h1 hb)
    · exact I.nofs hb e
  refine ⟨⟨I.ok.mod, ok.kind, I.ok.glob, rfl, Nat.le_refl _, fun y z c e1 e2 => I.ok.inj y z c (cm e1) (cm e2), fun y hy => ?_, fun y c z _ => ?_, fun _ => hd, hfr, .inr ⟨rfl, rfl⟩, fun b hb => ⟨?_, fun y c e => ?_⟩, I.bs, Nat.le_trans I.ok.bsz I.sz, fun b o e hb => ?_, fun b hb z => ?_, I.stack, I.stkFree⟩,
    rfl, hg', Un.kept kp, ⟨_, hn1.push _, fun i y v e1 e2 e3 => ?_⟩, fun y c e => ?_, I.hok.fresh (Nat.le_refl _), fun y c e => I.freeC y c (cm e), fun p hp => ?_, I.hok.kept kp, by rw [wipe_length]; exact I.len⟩
  · have hy : scope.names.lookup y = some .cell ∨ scope.names.lookup y = some .free := hy
    rcases hy with hy | hy
    · exact absurd rfl (hcell _ (PySem.mem_of_lookup hy))
    · exact look hy
  · have z : false = true := z
    cases z
  · show b ≠ s.heap.objs.size
    exact Nat.ne_of_lt (hfp b hb).2
  · exact (hfp b hb).1.2.2.2.2.1 y c (cm e)
  · rcases (hfp b hb).1.2.2.2.1 with z | z
    · exact I.ok.noex b o e z
    · exact absurd (Nat.lt_of_lt_of_le (Heap.lt_size e) (Nat.le_trans I.ok.bsz z)) (Nat.lt_irrefl _)
  · rcases List.mem_cons.mp (I.stkSub b z) with z | z
    · exact (hfp b hb).1.2.1 z
    · exact (hfp b hb).1.2.2.1 z
  · obtain ⟨e2, hne⟩ := wipe_some e2
    have e3 : Vis scope y := e3
    have no : ∀ k, scope.names.lookup y = some k → ¬ (k = .local ∨ k = .cell) := fun k e hh => by
      rcases ok.own _ (PySem.mem_of_lookup e) hh with e' | e'
      · obtain ⟨p, hp, hpy⟩ := List.mem_map.mp e'
        have e3 := ok.ix p hp
        have : p.1 = y := hpy
        rw [this] at e3
        exact hne (List.mem_map.mpr ⟨p, hp, nodup_ix hN e3 e1⟩)
      · exact e' (List.mem_of_getElem? e1)
    rcases e3 with k | k | k
    · exact absurd (.inl rfl) (no _ k)
    · exact absurd (.inr rfl) (no _ k)
    · obtain ⟨m, hn, hl⟩ := I.loc
      have hvis : Vis X.env.scope y := (ok.free _ (PySem.mem_of_lookup k) rfl).elim (fun k => .inr (.inl k)) (fun k => .inr (.inr k))
      obtain ⟨w', r, q⟩ := hl i y v e1 e2 hvis
      obtain ⟨c2, h2⟩ := look k
      refine ⟨w', r, .inr ⟨.inr k, c2, h2, ?_⟩⟩
      have c1 := cm h2
      rcases q with ⟨k', _⟩ | ⟨_, c3, e', z⟩
      · have k' : X.env.scope.names.lookup y = some .local := k'
        rcases ok.free _ (PySem.mem_of_lookup k) rfl with k2 | k2 <;> rw [show X.env.scope.names.lookup y = _ from k2] at k' <;> cases k'
      · rw [c1] at e'
        cases e'
        exact z.keeps kp
  · obtain ⟨w', z⟩ := I.cell y c (cm e)
    exact ⟨w', z.keeps kp⟩
  · have hp : p ∈ [(h1.objs.size, goObj v0 v1 v2)] := by
      have hp : p ∈ [(h1.objs.size, goObj v0 v1 v2)] ++ [] := hp
      simpa using hp
    rw [List.mem_singleton.mp hp]
    refine ⟨Heap.get?_push_size _ rfl, I.hok.fresh (by omega), ?_, noB _ (by omega), fun v q => by cases q⟩
    show h1.objs.size ≠ s.heap.objs.size
    omega
end

/-! ### the run of its code -/
theorem over_gen {A : Around} {elt : Expr} {gens : List Comprehension} {scope : Scope} {pos : Pos} {it acc : Value} {env : Env} :
    A.over (.compLoop (.GeneratorExp elt gens scope pos) 0 it acc env) [] = A.deeper env := by
  first
    | rfl
    | (obtain ⟨hd, d, fr, gs, u⟩ := A; simp [Around.over, Around.deeper, marksOver, frameCount, unitsOf, envsOf, guardsOf, pushEnvs, pushGuards, Code.envs, Code.env?, Code.isFrame, Code.guards, Code.isGuard, Code.weight, Code.frames, Code.isCreation, Code.isCaller, Code.cUnits])
theorem over_genS {A : Around} {elt : Expr} {gens : List Comprehension} {scope : Scope} {pos : Pos} {it acc : Value} {env : Env} :
    A.over (.compStart (.GeneratorExp elt gens scope pos) 0 it acc env) [] = A.deeper env := by
  first
    | rfl
    | (obtain ⟨hd, d, fr, gs, u⟩ := A; simp [Around.over, Around.deeper, marksOver, frameCount, unitsOf, envsOf, guardsOf, pushEnvs, pushGuards, Code.envs, Code.env?, Code.isFrame, Code.guards, Code.isGuard, Code.weight, Code.frames, Code.isCreation, Code.isCaller, Code.cUnits])

/-- its end, by what the reading says of the end -/
def gEnd (Xg : Cx) (C : Nat) (σw : L2.St) (End : Nat → Hp → Prop) : Nat → Shared → Shared → Prop := fun n _ s1 => ∃ i H', i + n = C ∧ Inv Xg [] σw H' s1 ∧ End i H'
/-- an item is out; Sp: the consumer's own addresses, as they stood when the code was woken -/
def gYield (Xg : Cx) (C : Nat) (Sp : List Addr) (σw : L2.St) (tn : Nat → Heap → Prop) (fp : List Addr) (W : Nat → Nat → Hp → Prop) (Post : Nat → Nat → V → Hp → Prop) : Protocol := fun n s₀ v s1 kap =>
  ∃ i m y H4, i + n + 1 = C ∧ m ≤ n + 1 ∧ RelV y v ∧ Inv Xg (pinsAt Sp s₀.heap) σw H4 s1 ∧ tn (i + 1) s1.heap ∧ (∀ b ∈ fp, H4 b = none) ∧ Post i m y H4 ∧
    ∀ m' s'', m' ≤ n → Inv Xg (pinsAt Sp s''.heap) σw H4 s'' → tn (i + 1) s''.heap → W (i + 1) m' H4 → kap (.send .none) s''

section
variable {X Xg : Cx} {elt iter : Expr} {x : Str} {px pos : Pos} {scope : Scope} {it : Addr} {cenv : Env} {fp Sp : List Addr} {tn : Nat → Heap → Prop} {J : It} {σw : L2.St} {ix C : Nat} {te : TE} {Ag : Around}
  {W : Nat → Nat → Hp → Prop} {End : Nat → Hp → Prop} {Post : Nat → Nat → V → Hp → Prop}
/-- what is fixed of a generator expression's run -/
structure GRun (Xg : Cx) (Ag : Around) (elt : Expr) (x : Str) (px : Pos) (it : Addr) (cenv : Env) (fp Sp : List Addr) (tn : Nat → Heap → Prop) (J : It) (σw : L2.St) (ix : Nat) (te : TE) (W : Nat → Nat → Hp → Prop) (End : Nat → Hp → Prop) (Post : Nat → Nat → V → Hp → Prop) : Prop where
  hXA : Xg.A = Ag.deeper cenv
  hXe : Xg.env = cenv
  hXc : Xg.calm = true
  hXx : Xg.xe = fun _ _ => False
  hex : Xg.ex = fp
  hpn : ∀ p ∈ Xg.pn, ∀ b ∈ fp, p.1 ≠ b
  hSp : ∀ S ∈ Sp, ∀ b ∈ fp, S ≠ b
  T : Turn Xg.prog Xg.w Xg.K (.Name x px) J fp it tn
  hN : Xg.N.Nodup
  hix : Xg.N[ix]? = some x
  hx : cenv.scope.names.lookup x = some .local
  hco : cenv.scope.isCoroutine = false
  he : PE Xg elt te
  hw : σw[ix]? = some none
  turn : ∀ i m H, W i m H → (J.stop i H ∧ End i H) ∨ (0 < m ∧ J.go i H ∧ ∀ v H', J.yld i H v H' → te (σw.set ix (some v)) H' fun y H4 => Post i m y H4)

theorem gen_seg (G : GRun Xg Ag elt x px it cenv fp Sp tn J σw ix te W End Post) :
    ∀ (n i m : Nat) (H' : Hp) (s₀ s' : Shared), i + n = C → m ≤ n → W i m H' → Inv Xg (pinsAt Sp s₀.heap) σw H' s' → tn i s'.heap → (∀ b ∈ fp, H' b = none) →
      Seg (model Xg.prog Xg.w) Ag (fun n s₀ r s1 => r = .ok .next ∧ gEnd Xg C σw End n s₀ s1) (gYield Xg C Sp σw tn fp W Post) n s₀ (.compLoop (.GeneratorExp elt [⟨.Name x px, iter, [], 0⟩] scope pos) 0 (.ref it) .none cenv)
        ((model Xg.prog Xg.w).den (.compLoop (.GeneratorExp elt [⟨.Name x px, iter, [], 0⟩] scope pos) 0 (.ref it) .none cenv)) [] s' := by
  obtain ⟨hXA, hXe, hXc, hXx, hex, hpn, hSp, T, hN, hix, hx, hco, he, hw, turn⟩ := G
  have hov : Ag.over (.compLoop (.GeneratorExp elt [⟨.Name x px, iter, [], 0⟩] scope pos) 0 (.ref it) .none cenv) [] = Xg.A := by rw [over_gen, hXA]
  have stat : ∀ {h0 : Heap} {σ' : L2.St} {H' : Hp} {s' : Shared}, Inv Xg (pinsAt Sp h0) σ' H' s' → (∀ b ∈ fp, H' b = none) → ∀ b ∈ fp, FpOk Xg (pinsAt Sp h0) H' b := fun {h0 σ' H' s'} I' hn b hb => by
    have hb' : b ∈ Xg.ex := by rw [hex]; exact hb
    exact ⟨hn b hb, (I'.ok.exf b hb').1, I'.ok.exfs b hb', .inl hb', fun x c e => (I'.ok.exf b hb').2 x c e, fun p hp => (List.mem_append.mp hp).elim (fun z => hpn p z b hb) fun z => hSp p.1 (of_pinsAt z).1 b hb⟩
  intro n
  induction n with
  | zero =>
    intro i m H' s₀ s' hC hm w I st nf
    show Seg _ Ag _ _ _ s₀ _ ((compTurn (.GeneratorExp elt [⟨.Name x px, iter, [], 0⟩] scope pos) 0 (.ref it) .none cenv).onRaise (leaving cenv)) [] s'
    rw [compTurn_gen, Sem.onRaise_eq_wrap]
    refine seg_bind_wrap (wpAny_standAt ?_)
    refine seg_bind_wrap ?_
    rw [hov]
    rcases turn i m H' w with ⟨stop, hE⟩ | ⟨hm', _, _⟩
    · refine thnF (T.done Xg rfl rfl rfl hXc i _ s' σw H' (fun _ _ => False) I (stat I nf) st stop) fun r s1 ⟨hr, I1⟩ => ?_
      subst hr
      exact seg_end (.ok .next) ⟨rfl, i, H', hC, I1.pins_of (fun p hp => absurd hp (by simp)), hE⟩
    · omega
  | succ n ih =>
    intro i m H' s₀ s' hC hm w I st nf
    show Seg _ Ag _ _ _ s₀ _ ((compTurn (.GeneratorExp elt [⟨.Name x px, iter, [], 0⟩] scope pos) 0 (.ref it) .none cenv).onRaise (leaving cenv)) [] s'
    rw [compTurn_gen, Sem.onRaise_eq_wrap]
    refine seg_bind_wrap (wpAny_standAt ?_)
    refine seg_bind_wrap ?_
    rw [hov]
    rcases turn i m H' w with ⟨stop, hE⟩ | ⟨hm', go, step⟩
    · refine thnF (T.done Xg rfl rfl rfl hXc i _ s' σw H' (fun _ _ => False) I (stat I nf) st stop) fun r s1 ⟨hr, I1⟩ => ?_
      subst hr
      exact seg_end (.ok .next) ⟨rfl, i, H', hC, I1.pins_of (fun p hp => absurd hp (by simp)), hE⟩
    · refine thnF (T.item Xg rfl rfl rfl hXc i _ s' σw H' (fun _ _ => False) I (stat I nf) st go) fun r s1 ⟨u, hr, h1⟩ => ?_
      subst hr
      refine seg_bind_wrap ?_
      rw [hov]
      refine thnF h1 fun _ s2 ⟨xv, H2, I2, r2, y2, st2, n2⟩ => ?_
      have I2' := I2.pinned (stat I2 n2) (T.obj _ _ st2)
      have pg : PG Xg (.Name x px) (gName ix) := pg_name hN hix (.inl (by rw [hXe]; exact hx)) (.inr (by rw [hXe]; exact hx))
      refine seg_bind_wrap ?_
      rw [hov, ← hXe]
      have pr := pg.run _ s2 σw H2 xv u (fun σ' H'' => σ' = σw.set ix (some xv) ∧ H'' = H2) I2' r2 ⟨rfl, rfl⟩
      rw [hXx] at pr
      refine thnF pr fun _ s3 ⟨σ3, H3, I3, e3, e3'⟩ => ?_
      subst e3 e3'
      refine seg_bind_wrap ?_
      simp only [List.forIn_nil]
      refine wpAny_pure ?_
      simp only [if_true]
      have hy : ∀ v, yieldOut cenv v = yieldValue v := fun v => by simp only [yieldOut, hco, Bool.false_eq_true, if_false]
      rw [hXe]
      simp only [hy]
      rw [Sem.bind_eq_wrap', Sem.bind_eq_wrap', Sem.wrap_wrap, Sem.wrap_wrap]
      refine seg_wrap ?_
      rw [hov, ← hXe]
      have pe := he.run _ s3 _ H3 (fun y H4 => Post i m y H4) I3 (step xv H3 y2)
      rw [hXx] at pe
      refine thnF pe fun z s4 ⟨yv, H4, I4, r4, post⟩ => ?_
      have pin' : ∀ b ∈ fp, ∀ o, s2.heap.get? b = some o → s4.heap.get? b = some o ∧ H4 b = none := fun b hb o e =>
        let z := I4.pin (b, o) (List.mem_append_right _ (List.mem_append_right _ (mem_pinsAt hb e)))
        ⟨z.1, z.2.1⟩
      have I4' : Inv Xg (pinsAt Sp s₀.heap) σw H4 s4 := I4.unpinned.weak (by rw [List.length_set]) fun j v e => by
        by_cases hj : j = ix
        · rw [hj, hw] at e
          cases e
        · rw [List.getElem?_set_ne (Ne.symm hj)]
          exact e
      have st4 : tn (i + 1) s4.heap := T.keep _ _ _ st2 fun b hb o e => (pin' b hb o e).1
      have n4 : ∀ b ∈ fp, H4 b = none := fun b hb => by
        obtain ⟨o, e, _⟩ := T.obj _ _ st2 b hb
        exact (pin' b hb o e).2
      refine seg_at (seg_yield rfl rfl rfl ⟨i, m, yv, H4, by omega, hm, r4, I4', st4, n4, post, fun m' s'' hm'' I'' st'' w'' => ?_⟩)
      exact seg_again rfl (hXe ▸ ih (i + 1) m' H4 s'' s'' (by omega) hm'' w'' I'' st'' n4)

theorem gen_segS (G : GRun Xg Ag elt x px it cenv fp Sp tn J σw ix te W End Post) (hh : Ag.handled = none) {n m : Nat} {H' : Hp} {s₀ s' : Shared} (hC : n = C) (hm : m ≤ n) (w : W 0 m H') (I : Inv Xg (pinsAt Sp s₀.heap) σw H' s') (st : tn 0 s'.heap) (nf : ∀ b ∈ fp, H' b = none) :
    Seg (model Xg.prog Xg.w) Ag (fun n s₀ r s1 => r = .ok .next ∧ gEnd Xg C σw End n s₀ s1) (gYield Xg C Sp σw tn fp W Post) n s₀ (.compStart (.GeneratorExp elt [⟨.Name x px, iter, [], 0⟩] scope pos) 0 (.ref it) .none cenv)
        ((model Xg.prog Xg.w).den (.compStart (.GeneratorExp elt [⟨.Name x px, iter, [], 0⟩] scope pos) 0 (.ref it) .none cenv)) [] s' := by
  have loop := gen_seg (C := C) (iter := iter) (scope := scope) (pos := pos) G n 0 m H' s₀ s' (by omega) hm w I st nf
  show Seg _ Ag _ _ _ s₀ _ ((compStart (.GeneratorExp elt [⟨.Name x px, iter, [], 0⟩] scope pos) 0 (.ref it) .none cenv).onRaise (leaving cenv)) [] s'
  unfold compStart
  rw [Sem.onRaise_eq_wrap]
  show Seg _ Ag _ _ _ s₀ _ ((ask >>= _).wrap _ _ _ _) [] s'
  refine seg_bind_wrap (wpAny_askSetting ?_)
  split
  · exact seg_again rfl loop
  · first
      | exact seg_bind_wrap (wpAny_rule (seg_bind_wrap (wpAny_standAt (seg_bind_wrap (G.T.self _ 0 s' _ _ st (seg_again rfl loop))))))
      | (refine seg_bind_wrap (wpAny_rule ?_); show Seg _ Ag _ _ _ s₀ _ ((standAt iter.pos >>= _).wrap _ _ _ _) [] s'; exact seg_bind_wrap (wpAny_standAt (seg_bind_wrap (G.T.self _ 0 s' _ _ st (seg_again rfl loop)))))

/-! ### the generator woken -/
theorem isGen_of {h : Heap} {a g : Addr} {v1 v2 : Value} (e : h.get? a = some (goObj (.int g 0) v1 v2)) : h.IsGen a g := ⟨_, v1, v2, e, rfl, rfl, rfl⟩
theorem inv_gen {pins : List (Addr × Obj)} {σ : L2.St} {H : Hp} {s : Shared} {a : Addr} {go : Obj} (hp : (a, go) ∈ Xg.pn) (I : Inv Xg pins σ H s) : s.heap.get? a = some go := (I.pin (a, go) (List.mem_append_left _ hp)).1

theorem gen_next {A : Around} {E : Value → Shared → Prop} {a : Addr} {g n : Nat} {v1 v2 : Value} {H' : Hp} {gs : GenState} {s' : Shared} (hh : A.handled = none) (hroom : A.depth < recursionLimit) (hp : (a, goObj (.int g 0) v1 v2) ∈ Xg.pn)
    (I : Inv Xg (pinsAt Sp s'.heap) σw H' s') (hgs : s'.gens[g]? = some gs)
    (hgo : gs.Goes (model Xg.prog Xg.w) A.in1 (fun n s₀ r s1 => r = .ok .next ∧ gEnd Xg C σw End n s₀ s1) (gYield Xg C Sp σw tn fp W Post) n (.send .none) (s'.setGen g .running)) :
    wpAny (model Xg.prog Xg.w) A (pyNext (.ref a)) (fun r s1 => match r with
      | none => ∃ i H1, i + n = C ∧ Inv Xg [] σw H1 s1 ∧ End i H1
      | some v => ∃ i m y H4 gs', i + (n - 1) + 1 = C ∧ m ≤ n - 1 + 1 ∧ RelV y v ∧ Inv Xg (pinsAt Sp s'.heap) σw H4 s1 ∧ tn (i + 1) s1.heap ∧ (∀ b ∈ fp, H4 b = none) ∧ Post i m y H4 ∧ s1.gens[g]? = some gs' ∧
          ∀ m' s'', m' ≤ n - 1 → AllBare s''.gens → Inv Xg (pinsAt Sp s''.heap) σw H4 s'' → tn (i + 1) s''.heap → W (i + 1) m' H4 →
            match n with
            | 0 => False
            | k + 1 => gs'.Goes (model Xg.prog Xg.w) A.in1 (fun n s₀ r s1 => r = .ok .next ∧ gEnd Xg C σw End n s₀ s1) (gYield Xg C Sp σw tn fp W Post) k (.send .none) (s''.setGen g .running)) E s' := by
  have hgl : g < s'.gens.size := (Array.getElem?_eq_some_iff.mp hgs).1
  refine wpAny_gsz (n := g + 1) hgl (wpAny_pyNext_genexpQ (P := gEnd Xg C σw End) hh I.nolimit hroom (isGen_of (inv_gen hp I)) hgs hgo (fun v s1 gs' hb hv => ?_) (fun s1 hP h' hk => ?_))
  · intro hsz
    obtain ⟨i, m, y, H4, hC, hm, ry, I4, st4, n4, post, hk⟩ := hv
    have hsz1 : g < s1.gens.size := by
      have q : (s1.setGen g gs').gens.size = s1.gens.size := setGen_size _ _ _
      have hsz' : g + 1 ≤ (s1.setGen g gs').gens.size := hsz
      omega
    refine ⟨i, m, y, H4, gs', hC, hm, ry, setG I4 (allBare_setGen I4.bare hb), st4, n4, post, setGen_at hsz1, fun m' s'' hm' hb'' I'' st'' w'' => ?_⟩
    have q := hk m' (s''.setGen g .running) hm' (setG I'' (allBare_setGen hb'' rfl)) st'' w''
    cases n with
    | zero => exact q
    | succ n => exact q
  · intro _
    obtain ⟨i, H1, hC, I1, hE⟩ := hP
    exact ⟨i, H1, hC, (setG I1 (allBare_setGen I1.bare rfl)).kept (h' := h') (t' := s1.toks) hk, hE⟩
end
end WG
end
section
set_option maxHeartbeats 4000000
namespace WG
open PySem PySem.Spec PyProof.Rows L2 GenW
open GxR (TabB TabG Tabbed inv_tab sh_eta)

section
variable {Xg : Cx} {elt : Expr} {x : Str} {px : Pos} {it : Addr} {cenv : Env} {fp Sp : List Addr} {tn : Nat → Heap → Prop} {J : It} {σw : L2.St} {ix C : Nat} {te : TE}
  {W : Nat → Nat → Hp → Prop} {End : Nat → Hp → Prop} {Post : Nat → Nat → V → Hp → Prop}

/-- the generator's state at a turn -/
def GSt (Xg : Cx) (C : Nat) (A : Around) (g : Nat) (Sp fp : List Addr) (tn : Nat → Heap → Prop) (σw : L2.St) (W : Nat → Nat → Hp → Prop) (End : Nat → Hp → Prop) (Post : Nat → Nat → V → Hp → Prop) (n : Nat) (s : Shared) : Prop :=
  ∃ gs, s.gens[g]? = some gs ∧ gs.Goes (model Xg.prog Xg.w) A (fun n s₀ r s1 => r = .ok .next ∧ gEnd Xg C σw End n s₀ s1) (gYield Xg C Sp σw tn fp W Post) n (.send .none) (s.setGen g .running)

/-- all(..): Post says: a bool; go on, or False -/
theorem all_loop {A : Around} {R : Result → Shared → Prop} {a : Addr} {g : Nat} {v1 v2 : Value} (hh : A.handled = none) (hroom : A.depth < recursionLimit) (hp : (a, goObj (.int g 0) v1 v2) ∈ Xg.pn)
    (hT : ∀ i H s, Inv Xg [] σw H s → End i H → R (.ok (.ret (.bool true))) s)
    (hP : ∀ i m y H, Post i m y H → ∃ b, y = .bl b ∧ (b = true → ∃ m', m' < m ∧ W (i + 1) m' H) ∧ (b = false → ∀ s, Inv Xg [] σw H s → R (.ok (.ret (.bool false))) s)) :
    ∀ (n : Nat) (H' : Hp) (s : Shared), Inv Xg [] σw H' s → GSt Xg C A.in1.in1 g [] fp tn σw W End Post n s → codeAny (model Xg.prog Xg.w) A (.builtin "all.loop" ⟨[.ref a], []⟩) R s := by
  intro n
  induction n with
  | zero =>
    intro H' s I ⟨gs, hgs, hgo⟩
    refine codeAny_builtin F.entry_all_loop ?_
    rw [Around.under_plainId F.plain_all_loop _]
    show wpAny _ A.in1 (pyNext (.ref a) >>= _) _ _ s
    refine wpAny_bind (wpAny_mono (gen_next (A := A.in1) (Sp := []) hh hroom hp I hgs hgo) (fun r s1 hr => ?_) fun _ _ h => h)
    cases r with
    | none =>
      obtain ⟨i, H1, hC, I1, hE⟩ := hr
      exact wpAny_bind (wpAny_rule (wpAny_pure (hT i H1 s1 I1 hE)))
    | some v =>
      obtain ⟨i, m, y, H4, gs', hC, hm, ry, I4, st4, n4, post, hg', hk⟩ := hr
      obtain ⟨b, rfl, h1, h2⟩ := hP i m y H4 post
      cases ry
      refine wpAny_bind (wpAny_holding (wpAny_truthy_bool ?_))
      refine wpAny_bind (wpAny_letGo ?_)
      cases b with
      | true =>
        obtain ⟨m', hm', w'⟩ := h1 rfl
        exact (hk m' s1 (by omega) I4.bare I4 st4 w').elim
      | false => exact wpAny_bind (wpAny_rule (wpAny_pure (h2 rfl s1 I4)))
  | succ n ih =>
    intro H' s I ⟨gs, hgs, hgo⟩
    refine codeAny_builtin F.entry_all_loop ?_
    rw [Around.under_plainId F.plain_all_loop _]
    show wpAny _ A.in1 (pyNext (.ref a) >>= _) _ _ s
    refine wpAny_bind (wpAny_mono (gen_next (A := A.in1) (Sp := []) hh hroom hp I hgs hgo) (fun r s1 hr => ?_) fun _ _ h => h)
    cases r with
    | none =>
      obtain ⟨i, H1, hC, I1, hE⟩ := hr
      exact wpAny_bind (wpAny_rule (wpAny_pure (hT i H1 s1 I1 hE)))
    | some v =>
      obtain ⟨i, m, y, H4, gs', hC, hm, ry, I4, st4, n4, post, hg', hk⟩ := hr
      obtain ⟨b, rfl, h1, h2⟩ := hP i m y H4 post
      cases ry
      refine wpAny_bind (wpAny_holding (wpAny_truthy_bool ?_))
      refine wpAny_bind (wpAny_letGo ?_)
      cases b with
      | true =>
        obtain ⟨m', hm', w'⟩ := h1 rfl
        exact wpAny_pure ⟨plainId_quiet F.plain_all_loop _, ih H4 s1 I4 ⟨gs', hg', hk m' s1 (by omega) I4.bare I4 st4 w'⟩⟩
      | false => exact wpAny_bind (wpAny_rule (wpAny_pure (h2 rfl s1 I4)))
/-- any(..) -/
theorem any_loop {A : Around} {R : Result → Shared → Prop} {a : Addr} {g : Nat} {v1 v2 : Value} (hh : A.handled = none) (hroom : A.depth < recursionLimit) (hp : (a, goObj (.int g 0) v1 v2) ∈ Xg.pn)
    (hT : ∀ i H s, Inv Xg [] σw H s → End i H → R (.ok (.ret (.bool false))) s)
    (hP : ∀ i m y H, Post i m y H → ∃ b, y = .bl b ∧ (b = false → ∃ m', m' < m ∧ W (i + 1) m' H) ∧ (b = true → ∀ s, Inv Xg [] σw H s → R (.ok (.ret (.bool true))) s)) :
    ∀ (n : Nat) (H' : Hp) (s : Shared), Inv Xg [] σw H' s → GSt Xg C A.in1.in1 g [] fp tn σw W End Post n s → codeAny (model Xg.prog Xg.w) A (.builtin "any.loop" ⟨[.ref a], []⟩) R s := by
  intro n
  induction n with
  | zero =>
    intro H' s I ⟨gs, hgs, hgo⟩
    refine codeAny_builtin F.entry_any_loop ?_
    rw [Around.under_plainId F.plain_any_loop _]
    show wpAny _ A.in1 (pyNext (.ref a) >>= _) _ _ s
    refine wpAny_bind (wpAny_mono (gen_next (A := A.in1) (Sp := []) hh hroom hp I hgs hgo) (fun r s1 hr => ?_) fun _ _ h => h)
    cases r with
    | none =>
      obtain ⟨i, H1, hC, I1, hE⟩ := hr
      exact wpAny_bind (wpAny_rule (wpAny_pure (hT i H1 s1 I1 hE)))
    | some v =>
      obtain ⟨i, m, y, H4, gs', hC, hm, ry, I4, st4, n4, post, hg', hk⟩ := hr
      obtain ⟨b, rfl, h1, h2⟩ := hP i m y H4 post
      cases ry
      refine wpAny_bind (wpAny_holding (wpAny_truthy_bool ?_))
      refine wpAny_bind (wpAny_letGo ?_)
      cases b with
      | false =>
        obtain ⟨m', hm', w'⟩ := h1 rfl
        exact (hk m' s1 (by omega) I4.bare I4 st4 w').elim
      | true => exact wpAny_bind (wpAny_rule (wpAny_pure (h2 rfl s1 I4)))
  | succ n ih =>
    intro H' s I ⟨gs, hgs, hgo⟩
    refine codeAny_builtin F.entry_any_loop ?_
    rw [Around.under_plainId F.plain_any_loop _]
    show wpAny _ A.in1 (pyNext (.ref a) >>= _) _ _ s
    refine wpAny_bind (wpAny_mono (gen_next (A := A.in1) (Sp := []) hh hroom hp I hgs hgo) (fun r s1 hr => ?_) fun _ _ h => h)
    cases r with
    | none =>
      obtain ⟨i, H1, hC, I1, hE⟩ := hr
      exact wpAny_bind (wpAny_rule (wpAny_pure (hT i H1 s1 I1 hE)))
    | some v =>
      obtain ⟨i, m, y, H4, gs', hC, hm, ry, I4, st4, n4, post, hg', hk⟩ := hr
      obtain ⟨b, rfl, h1, h2⟩ := hP i m y H4 post
      cases ry
      refine wpAny_bind (wpAny_holding (wpAny_truthy_bool ?_))
      refine wpAny_bind (wpAny_letGo ?_)
      cases b with
      | false =>
        obtain ⟨m', hm', w'⟩ := h1 rfl
        exact wpAny_pure ⟨plainId_quiet F.plain_any_loop _, ih H4 s1 I4 ⟨gs', hg', hk m' s1 (by omega) I4.bare I4 st4 w'⟩⟩
      | true => exact wpAny_bind (wpAny_rule (wpAny_pure (h2 rfl s1 I4)))
/-- the consumer's own list S of one item is written -/
theorem own_write {S : Addr} {o o' : Obj} {H : Hp} {s : Shared} {h' : Heap} {t' : Nat} (hS : Xg.s_0.heap.objs.size ≤ S) (hL : S ≠ Xg.env.locals) (hC : ∀ x c, Xg.env.cells.lookup x = some c → c ≠ S) (hn : ∀ p ∈ Xg.pn, p.1 ≠ S)
    (he : s.heap.get? S = some o) (I : Inv Xg (pinsAt [S] s.heap) σw H s) (k : ∀ b o, b ≠ S → s.heap.get? b = some o → h'.get? b = some o) (e' : h'.get? S = some o') (hd : ∀ v, o'.data ≠ .cell v) :
    Inv Xg (pinsAt [S] h') σw H { s with heap := h', toks := t' } := by
  have hpS := I.pin (S, o) (List.mem_append_right _ (mem_pinsAt (List.mem_singleton.mpr rfl) he))
  have I0 : Inv Xg [] σw H s := I.pins_of (fun p hp => absurd hp (by simp))
  have I1 : Inv Xg [] σw H { s with heap := h', toks := t' } := I0.turned (t' := t') k hpS.2.1 hpS.2.2.1 (.inr hS) hC (fun p hp => hn p (by simpa using hp))
  refine I1.pins_of fun p hp => ?_
  obtain ⟨h1, h2⟩ := of_pinsAt hp
  have e1 : p.1 = S := List.mem_singleton.mp h1
  rw [e1] at h2
  have e2 : o' = p.2 := Option.some.inj (e'.symm.trans h2)
  rw [e1]
  exact ⟨h2, hpS.2.1, hpS.2.2.1, hpS.2.2.2.1, by rw [← e2]; exact hd⟩
abbrev sumObj (t : Int) (tk : Tok) (c : Nat) : Obj := { cls := .type "list", dict := none, data := .seq #[.int t tk] c, slots := #[] }
/-- sum(..): val the items by turn -/
theorem sum_loop {A : Around} {R : Result → Shared → Prop} {a S : Addr} {g : Nat} {v1 v2 : Value} (hh : A.handled = none) (hroom : A.depth < recursionLimit) (hp : (a, goObj (.int g 0) v1 v2) ∈ Xg.pn)
    (hS : Xg.s_0.heap.objs.size ≤ S) (hL : S ≠ Xg.env.locals) (hCc : ∀ x c, Xg.env.cells.lookup x = some c → c ≠ S) (hn : ∀ p ∈ Xg.pn, p.1 ≠ S) (htk : ∀ i h h', tn i h → (∀ b o, b ≠ S → h.get? b = some o → h'.get? b = some o) → tn i h') (val : Nat → Int)
    (hT : ∀ i H s tk, Inv Xg [] σw H s → End i H → R (.ok (.ret (.int (preSum val i) tk))) s)
    (hP : ∀ i m y H, Post i m y H → y = .int (val i) ∧ InLong (val i) ∧ InLong (preSum val (i + 1)) ∧ ∃ m', m' < m ∧ W (i + 1) m' H) :
    ∀ (n i : Nat) (H' : Hp) (s : Shared) (tA : Tok) (c : Nat), i + n = C → s.heap.get? S = some (sumObj (preSum val i) tA c) → Inv Xg (pinsAt [S] s.heap) σw H' s → GSt Xg C A.in1.in1 g [S] fp tn σw W End Post n s →
      codeAny (model Xg.prog Xg.w) A (.builtin "sum.loop" ⟨[.ref a, .ref S, rawInt 0, rawInt 0], []⟩) R s := by
  intro n
  induction n with
  | zero =>
    intro i H' s tA c hC hSo I ⟨gs, hgs, hgo⟩
    refine codeAny_builtin F.entry_sum_loop ?_
    rw [Around.under_plainId F.plain_sum_loop _]
    show wpAny _ A.in1 (seqItems? (.ref S) >>= _) _ _ s
    refine wpAny_bind (wpAny_seqItems hSo rfl ?_)
    show wpAny _ A.in1 (tryCatch (pyNext (.ref a)) _ >>= _) _ _ s
    refine wpAny_bind (wpAny_tryCatch (wpAny_mono (gen_next (A := A.in1) (Sp := [S]) hh hroom hp I hgs hgo) (fun r s1 hr => ?_) fun _ _ h => h))
    cases r with
    | none =>
      obtain ⟨i', H1, hC', I1, hE⟩ := hr
      have e : i' = i := by omega
      subst e
      exact wpAny_pure (hT i' H1 s1 tA I1 hE)
    | some v =>
      obtain ⟨i', m, y, H4, gs', hC', hm, ry, I4, st4, n4, post, hg', hk⟩ := hr
      obtain ⟨rfl, f1, f2, m', hm', w'⟩ := hP i' m y H4 post
      have hS' := (I4.pin (S, _) (List.mem_append_right _ (mem_pinsAt (List.mem_singleton.mpr rfl) hSo))).1
      refine (hk m' s1 (by omega) I4.bare (I4.pins_of fun p hp => ?_) st4 w').elim
      obtain ⟨h1, h2⟩ := of_pinsAt hp
      have e1 : p.1 = S := List.mem_singleton.mp h1
      have := I4.pin (S, _) (List.mem_append_right _ (mem_pinsAt (List.mem_singleton.mpr rfl) hSo))
      rw [e1] at h2
      have e2 := Option.some.inj (this.1.symm.trans h2)
      rw [e1]
      exact ⟨h2, this.2.1, this.2.2.1, this.2.2.2.1, by rw [← e2]; exact this.2.2.2.2⟩
  | succ n ih =>
    intro i H' s tA c hC hSo I ⟨gs, hgs, hgo⟩
    refine codeAny_builtin F.entry_sum_loop ?_
    rw [Around.under_plainId F.plain_sum_loop _]
    show wpAny _ A.in1 (seqItems? (.ref S) >>= _) _ _ s
    refine wpAny_bind (wpAny_seqItems hSo rfl ?_)
    show wpAny _ A.in1 (tryCatch (pyNext (.ref a)) _ >>= _) _ _ s
    refine wpAny_bind (wpAny_tryCatch (wpAny_mono (gen_next (A := A.in1) (Sp := [S]) hh hroom hp I hgs hgo) (fun r s1 hr => ?_) fun _ _ h => h))
    cases r with
    | none =>
      obtain ⟨i', H1, hC', I1, hE⟩ := hr
      have e : i' = i := by omega
      subst e
      exact wpAny_pure (hT i' H1 s1 tA I1 hE)
    | some v =>
      obtain ⟨i', m, y, H4, gs', hC', hm, ry, I4, st4, n4, post, hg', hk⟩ := hr
      have e : i' = i := by omega
      subst e
      obtain ⟨rfl, f12, f34, m', hm', w'⟩ := hP i' m y H4 post
      obtain ⟨f1, f2⟩ := f12
      obtain ⟨f3, f4⟩ := f34
      obtain ⟨t, rfl⟩ := ry
      have hS' := (I4.pin (S, _) (List.mem_append_right _ (mem_pinsAt (List.mem_singleton.mpr rfl) hSo))).1
      have I4' : Inv Xg (pinsAt [S] s1.heap) σw H4 s1 := I4.pins_of fun p hp => by
        obtain ⟨h1, h2⟩ := of_pinsAt hp
        have e1 : p.1 = S := List.mem_singleton.mp h1
        have := I4.pin (S, _) (List.mem_append_right _ (mem_pinsAt (List.mem_singleton.mpr rfl) hSo))
        rw [e1] at h2
        have e2 := Option.some.inj (this.1.symm.trans h2)
        rw [e1]
        exact ⟨h2, this.2.1, this.2.2.1, this.2.2.2.1, by rw [← e2]; exact this.2.2.2.2⟩
      have hc : ((decide (-(2 ^ 63) ≤ val i') && decide (val i' < 2 ^ 63)) && (decide (-(2 ^ 63) ≤ preSum val i' + val i') && decide (preSum val i' + val i' < 2 ^ 63))) = true := by
        simp only [preSum] at f3 f4
        simp only [Bool.and_eq_true, decide_eq_true_eq]
        exact ⟨⟨f1, f2⟩, f3, f4⟩
      show wpAny _ A.in1 (if (_ : Bool) = true then (mkInt (preSum val i' + val i') >>= _) else _) _ _ _
      split
      · refine wpAny_bind (wpAny_mkInt ?_)
        show wpAny _ A.in1 (updateSeq S (fun _ => #[.int (preSum val i' + val i') s1.toks]) >>= _) _ _ _
        refine wpAny_bind ?_
        obtain ⟨c', he'⟩ : ∃ c', (s1.heap.update S (Obj.mapSeq fun _ => #[.int (preSum val i' + val i') s1.toks])).get? S = some (sumObj (preSum val (i' + 1)) s1.toks c') := ⟨_, Heap.get?_update_self _ hS' rfl⟩
        have J := own_write (t' := s1.toks + 1) hS hL hCc hn hS' I4' (fun b o hb e => (Heap.get?_update_other _ _ (Ne.symm hb)).trans e) he' (fun v q => by cases q)
        refine wpAny_updateSeq hS' rfl (wpAny_pure ⟨plainId_quiet F.plain_sum_loop _, ih (i' + 1) H4 _ s1.toks _ (by omega) he' J ⟨gs', hg', ?_⟩⟩)
        refine hk m' _ (by omega) ?_ ?_ ?_ w'
        · exact I4.bare
        · exact J
        · exact htk _ _ _ st4 fun b o hb e => (Heap.get?_update_other _ _ (Ne.symm hb)).trans e
      · rename_i hneg
        exact absurd hc hneg
end
end WG
end
section
set_option maxHeartbeats 4000000
namespace WG
open PySem PySem.Spec PyProof.Rows L2 GenW
open GxR (TabB TabG Tabbed inv_tab sh_eta)

/-- a generator expression's own scope: one local name, no cell -/
structure GScp (sc scope : Scope) (x : Str) : Prop where
  kind : scope.kind = .function
  co : scope.isCoroutine = false
  cell : ∀ y ∈ scope.names, y.2 ≠ .cell
  dot : scope.names.lookup (".0" : Str) = some NameKind.local
  loc : scope.names.lookup x = some .local
def gscpB (scope : Scope) (x : Str) : Bool :=
  decide (scope.kind = .function) && !scope.isCoroutine && (scope.names.all fun y => !decide (y.2 = .cell)) && decide (scope.names.lookup (".0" : Str) = some NameKind.local) && decide (scope.names.lookup x = some .local)
theorem gscp_by {sc scope : Scope} {x : Str} (h : gscpB scope x = true) : GScp sc scope x := by
  unfold gscpB at h
  simp only [Bool.and_eq_true, Bool.not_eq_true', decide_eq_true_eq, decide_eq_false_iff_not, List.all_eq_true] at h
  obtain ⟨⟨⟨⟨h1, h2⟩, h3⟩, h4⟩, h5⟩ := h
  exact ⟨h1, h2, h3, h4, h5⟩

section
variable {X : Cx} {pins : List (Addr × Obj)} {σ : L2.St} {H : Hp} {s : Shared} {elt iter : Expr} {x : Str} {px gpos : Pos} {scope : Scope} {ix k : Nat} {c P : Addr} {wi : TI} {te : TE}

/-- a generator has been made -/
def GMd (X : Cx) (pins : List (Addr × Obj)) (σ : L2.St) (H2 : Hp) (elt iter : Expr) (x : Str) (px gpos : Pos) (scope : Scope) (ix : Nat) (J : It) (a : Addr) (s5 : Shared) : Prop :=
  ∃ (s4 : Shared) (g : Nat) (code v1 v2 : Value) (fp : List Addr) (tn : Nat → Heap → Prop) (it : Addr),
    Inv X pins σ H2 s4 ∧ (∀ b ∈ fp, FpOk X pins H2 b ∧ b < s4.heap.objs.size) ∧ Turn X.prog X.w X.K (.Name x px) J fp it tn ∧ tn 0 s5.heap ∧ s4.heap.objs.size < a ∧ s5.heap.objs.size = a + 1 ∧
    s5.gens[g]? = some (.fresh (.compStart (.GeneratorExp elt [⟨.Name x px, iter, [], 0⟩] scope gpos) 0 (.ref it) .none (genEnv scope (cloFrom X.env.cells scope.names []) s4.heap.objs.size code builtinsNs X.env))) ∧
    ∀ A' : Around, A'.handled = none → A'.frames = some (genEnv scope (cloFrom X.env.cells scope.names []) s4.heap.objs.size code builtinsNs X.env :: X.stack) →
      Inv (gcx X A' s4 H2 (genEnv scope (cloFrom X.env.cells scope.names []) s4.heap.objs.size code builtinsNs X.env) fp [(a, goObj (.int g 0) v1 v2)]) [] (σ.set ix none) H2 s5

theorem gen_make {Q' : Value → Shared → Prop} {R : It → Hp → Prop} (hr : Room k X.A) (TB : TabB X.base X.mg c P) (hcode : X.env.code = .ref c) (hN : X.N.Nodup) (hi : PI X (.Name x px) iter wi) (ok : BlkOk X.N X.env.scope scope [(x, ix)]) (S : GScp X.env.scope scope x)
    (hs : ∀ v, genFold iter X.env v = pure v) (I : Inv X pins σ H s) (h : wi σ H fun J H1 => TabG H1 P ∧ R J H1)
    (hQ : ∀ J H1 H2 a s5, R J H1 → Tabbed P H1 H2 → GMd X pins σ H2 elt iter x px gpos scope ix J a s5 → Q' (.ref a) s5) :
    wpAny (model X.prog X.w) X.A (eval (.GeneratorExp elt [⟨.Name x px, iter, [], 0⟩] scope gpos) X.env) Q' X.xe s := by
  have hfree : ∀ y ∈ scope.names, y.2 = .free → ∃ c, X.env.cells.lookup y.1 = some c := fun y hy e => by
    rcases ok.free y hy e with k | k
    · exact I.ok.has _ (.inl k)
    · exact I.ok.has _ (.inr k)
  refine wpAny_GeneratorExp_make S.co (closure_ok hfree) S.cell S.dot S.kind (by have := hr.dp; omega) ?_ hs
  refine thn (hi.run pins s σ H _ I h) fun xv s1 hx => thn hx fun itv s2 h2 => ?_
  obtain ⟨it, fp, tn, J, H1, e, I1, T, st2, f2, ⟨ps, hP, ht⟩, q1⟩ := h2
  subst e
  have hPs : s2.heap.get? P = some { cls := .none, data := .fields ps } := I1.hok P _ hP
  have hPlt : P < s2.heap.objs.size := Heap.lt_size hPs
  have cd : PySem.W.CodeHd s2.heap c P := TB.code.keeps fun b u e => I1.bk b u e
  have sz : ∀ b ∈ fp, b < s2.heap.objs.size := fun b hb => by
    obtain ⟨o, e, _⟩ := T.obj _ _ st2 b hb
    exact Heap.lt_size e
  have nP : ∀ b ∈ fp, b ≠ P := fun b hb z => by
    have q := (f2 b hb).1
    rw [z, hP] at q
    cases q
  have cont : ∀ (code : Value) (h3 : Heap) (tk : Nat) (ps' : Array Value), Heap.ExtBut P s2.heap h3 → s2.heap.objs.size ≤ h3.objs.size → h3.get? P = some { cls := .none, data := .fields ps' } → (∃ more, ps' = ps ++ more) → TriplesOk ps'.toList →
      wpAny (model X.prog X.w) X.A (builtinsFor X.env.globals X.env.builtins) (fun bi s₄ =>
        ∀ h', h'.Ns s₄.heap.objs.size (fun y => if y = ".0" then some (.ref it) else none) → Heap.SameBut s₄.heap.objs.size (s₄.heap.push { cls := .type "frame", data := .dict #[] }) h' →
          Q' (.ref h'.objs.size) { s₄ with
            gens := s₄.gens.push (.fresh (.compStart (.GeneratorExp elt [⟨.Name x px, iter, [], 0⟩] scope gpos) 0 (.ref it) .none (genEnv scope (cloFrom X.env.cells scope.names []) s₄.heap.objs.size code bi X.env))),
            toks := s₄.toks + 1 + 1 + 1,
            heap := h'.push { cls := .type "generator", data := .fields #[.int s₄.gens.size 0, .str "<genexpr>" (s₄.toks + 1), .str (X.env.qual ++ "<genexpr>") (s₄.toks + 1 + 1)] } }) X.xe { s2 with heap := h3, toks := tk } := by
    intro code h3 tk ps' hx hsz hP3 hmore ht3
    obtain ⟨bm, ob, e1, e2, e3, e4, e5, e6, e7, e8⟩ := TB.bm
    have keep3 : ∀ b u, b ≠ P → s2.heap.get? b = some u → h3.get? b = some u := fun b u hb e => hx b u hb e
    refine wpAny_builtinsFor (m := X.mg) (by rw [I1.ok.glob]; exact (I1.mod.glob.keeps I1.bk).extBut hx TB.gP) e1 e2 (keep3 _ _ e4 (I1.bk _ _ e5)) e6 e7 e8 ?_
    intro h' hn' hs'
    obtain ⟨more, em⟩ := hmore
    have J4 : Inv X pins σ (upd H1 P (.tbl (ps ++ more))) { s2 with heap := h3, toks := tk } :=
      inv_tab (more := more) (g' := s2.gens) (d' := s2.drawn) (t' := tk) I1 hP keep3 (by rw [← em]; exact hP3) I1.bare
    have tb : Tabbed P H1 (upd H1 P (.tbl (ps ++ more))) := ⟨⟨ps ++ more, upd_same, by rw [← em]; exact ht3⟩, fun b hb => upd_ne hb⟩
    have hsz' : h'.objs.size = h3.objs.size + 1 := by
      rw [hs'.1]
      exact Heap.size_push ..
    refine hQ J H1 _ _ _ q1 tb ⟨{ s2 with heap := h3, toks := tk }, s2.gens.size, code, .str "<genexpr>" (tk + 1), .str (X.env.qual ++ "<genexpr>") (tk + 1 + 1), fp, tn, it, J4, fun b hb => ⟨⟨?_, (f2 b hb).2⟩, Nat.lt_of_lt_of_le (sz b hb) hsz⟩, T, ?_, ?_, ?_, Array.getElem?_push_size .., fun A' hd hfr => ?_⟩
    · rw [upd_ne (nP b hb)]
      exact (f2 b hb).1
    · refine T.keep _ _ _ st2 fun b hb o e => ?_
      have e3' : h3.get? b = some o := keep3 b o (nP b hb) e
      exact Heap.get?_push_of_some _ (hs'.extBut b o (Nat.ne_of_lt (Heap.lt_size e3')) (Heap.get?_push_of_some _ e3'))
    · show h3.objs.size < h'.objs.size
      omega
    · exact Heap.size_push ..
    · exact gen_start (own := [(x, ix)]) (g' := s2.gens.push _) (t' := tk + 1 + 1 + 1) J4 ok S.cell hN (fun b hb => ⟨⟨by rw [upd_ne (nP b hb)]; exact (f2 b hb).1, (f2 b hb).2⟩, Nat.lt_of_lt_of_le (sz b hb) hsz⟩) hd hfr hn' hs' (AllBare.push J4.bare rfl)
  refine ⟨I1.nolimit, ?_⟩
  cases hf : codeAmong gpos ps.toList with
  | none =>
    refine wpAny_genexprCodeX hcode (cd.code hPs ht) (cd.tab hPs) hf fun c' h' tk hx hge hlt hco' _ htab' _ => ?_
    obtain ⟨o1, vs, f1, tf, fl, tg, inF, tx, tt, op, _, _, _, _, _, _, _, _, _, htr, _⟩ := hco'
    exact cont _ h' tk _ hx (Nat.le_trans hge (Nat.le_of_lt hlt)) htab'.2 ⟨_, rfl⟩ htr
  | some cv =>
    refine wpAny_genexprCode_hit hcode (cd.code hPs ht) hf ?_
    exact cont cv s2.heap s2.toks ps (Heap.ExtBut.refl _ _) (Nat.le_refl _) hPs ⟨#[], by simp⟩ ht

/-- back in the def's context -/
theorem gen_back {H2 H' : Hp} {s4 s' : Shared} {A' : Around} {cenv : Env} {fp : List Addr} {pn : List (Addr × Obj)} {σw : L2.St} (I4 : Inv X pins σ H2 s4) (f4 : ∀ b ∈ fp, FpOk X pins H2 b ∧ b < s4.heap.objs.size) (I : Inv (gcx X A' s4 H2 cenv fp pn) [] σw H' s') : Inv X pins σ H' s' :=
  I4.call' (ch := fp) I.os I.base I.hok I.bare fun b hb => ⟨(f4 b hb).1.2.2.2.1, (f4 b hb).1.2.1, (f4 b hb).1.2.2.2.2.1, (f4 b hb).1.2.2.2.2.2⟩

def tAllG (P : Addr) (wi : TI) (ix : Nat) (te : TE) : TE := fun σ H Q => wi σ H fun J H1 => TabG H1 P ∧ ∀ H2, Tabbed P H1 H2 → ∃ W : Nat → Nat → Hp → Prop, (∃ m, W 0 m H2) ∧ ∀ i m H, W i m H →
  (J.stop i H ∧ Q (.bl true) H) ∨ (0 < m ∧ J.go i H ∧ ∀ v H', J.yld i H v H' → te ((σ.set ix none).set ix (some v)) H' fun y H4 => ∃ b, y = .bl b ∧ (b = true → ∃ m', m' < m ∧ W (i + 1) m' H4) ∧ (b = false → Q (.bl false) H4))
def tAnyG (P : Addr) (wi : TI) (ix : Nat) (te : TE) : TE := fun σ H Q => wi σ H fun J H1 => TabG H1 P ∧ ∀ H2, Tabbed P H1 H2 → ∃ W : Nat → Nat → Hp → Prop, (∃ m, W 0 m H2) ∧ ∀ i m H, W i m H →
  (J.stop i H ∧ Q (.bl false) H) ∨ (0 < m ∧ J.go i H ∧ ∀ v H', J.yld i H v H' → te ((σ.set ix none).set ix (some v)) H' fun y H4 => ∃ b, y = .bl b ∧ (b = false → ∃ m', m' < m ∧ W (i + 1) m' H4) ∧ (b = true → Q (.bl true) H4))
def tSumG (P : Addr) (wi : TI) (ix : Nat) (te : TE) : TE := fun σ H Q => wi σ H fun J H1 => TabG H1 P ∧ ∀ H2, Tabbed P H1 H2 → ∃ (val : Nat → Int) (W : Nat → Nat → Hp → Prop), (∃ m, W 0 m H2) ∧ ∀ i m H, W i m H →
  (J.stop i H ∧ Q (.int (preSum val i)) H) ∨ (0 < m ∧ J.go i H ∧ ∀ v H', J.yld i H v H' → te ((σ.set ix none).set ix (some v)) H' fun y H4 => y = .int (val i) ∧ InLong (val i) ∧ InLong (preSum val (i + 1)) ∧ ∃ m', m' < m ∧ W (i + 1) m' H4)

theorem len_ix {v : Option V} (I : Inv X pins σ H s) (hix : X.N[ix]? = some x) : (σ.set ix v)[ix]? = some v := by
  have h1 : ix < X.N.length := (List.getElem?_eq_some_iff.mp hix).1
  rw [List.getElem?_set_self (by rw [I.len]; exact h1)]

theorem pe_allG {p pos : Pos} (hr : Room (k + 3) X.A) (hg : Gl X "all") (hm : X.mg "all" = none) (TB : TabB X.base X.mg c P) (hcode : X.env.code = .ref c) (hc : X.calm = true) (hN : X.N.Nodup) (hi : PI X (.Name x px) iter wi) (ok : BlkOk X.N X.env.scope scope [(x, ix)]) (S : GScp X.env.scope scope x)
    (he : ∀ (A' : Around) (s : Shared) (H : Hp) (C : Addr) (cl : List (Str × Addr)) (code : Value) (fp : List Addr) (pn : List (Addr × Obj)), Room k A' → PE (gcx X A' s H (genEnv scope cl C code builtinsNs X.env) fp pn) elt te)
    (hb : bootBuiltins "all" = some (.builtin "all") := by decide +kernel)
    (hs : ∀ v, genFold iter X.env v = pure v := by intro _; rfl)
    (hst : starEach [.GeneratorExp elt [⟨.Name x px, iter, [], 0⟩] scope gpos] X.env = (false, eval (.GeneratorExp elt [⟨.Name x px, iter, [], 0⟩] scope gpos) X.env) :: starEach [] X.env := by rfl) :
    PE X (.Call (.Name "all" p) [.GeneratorExp elt [⟨.Name x px, iter, [], 0⟩] scope gpos] [] pos) (tAllG P wi ix te) := by
  refine ⟨fun pins s σ H Q I h => ?_⟩
  refine wpAny_Call_Name_kw (ld_blt I hg hm hb ?_)
  refine PyProof.Rows.callWith_builtin1 ?_ hst (by rfl)
  rw [hst]
  show wpAny _ _ (spliced ((false, eval (.GeneratorExp elt [⟨.Name x px, iter, [], 0⟩] scope gpos) X.env) :: backTo pos (starEach [] X.env))) _ _ s
  refine Calls.spliced_cons (gen_make (ix := ix) (R := fun J H1 => ∀ H2, Tabbed P H1 H2 → ∃ W : Nat → Nat → Hp → Prop, (∃ m, W 0 m H2) ∧ ∀ i m H, W i m H →
      (J.stop i H ∧ Q (.bl true) H) ∨ (0 < m ∧ J.go i H ∧ ∀ v H', J.yld i H v H' → te ((σ.set ix none).set ix (some v)) H' fun y H4 => ∃ b, y = .bl b ∧ (b = true → ∃ m', m' < m ∧ W (i + 1) m' H4) ∧ (b = false → Q (.bl false) H4)))
    hr TB hcode hN hi ok S hs I h fun J H1 H2 a s5 hR tb hG => ?_)
  obtain ⟨W, ⟨m0, w0⟩, turn⟩ := hR H2 tb
  obtain ⟨s4, g, code, v1, v2, fp, tn, it, I4, f4, T, st5, ha, hsz, hgs, hI⟩ := hG
  refine Calls.spliced_nil ?_
  have hh : X.A.handled = none := hr.hd
  have hA : X.A.in1.in1.handled = none := hh
  have hfr := Around.frames_deeper (env := genEnv scope (cloFrom X.env.cells scope.names []) s4.heap.objs.size code builtinsNs X.env) (A := X.A.in1.in1) (outer := X.stack) I.ok.frames
  have I5 := hI (X.A.in1.in1.deeper _) hh hfr
  have rk : Room k (X.A.in1.in1.deeper (genEnv scope (cloFrom X.env.cells scope.names []) s4.heap.objs.size code builtinsNs X.env)) := (hr.in1.in1).deeper _
  have hpn : (a, goObj (.int g 0) v1 v2) ∈ [(a, goObj (.int g 0) v1 v2)] := List.mem_singleton.mpr rfl
  have G : GRun (gcx X (X.A.in1.in1.deeper (genEnv scope (cloFrom X.env.cells scope.names []) s4.heap.objs.size code builtinsNs X.env)) s4 H2 (genEnv scope (cloFrom X.env.cells scope.names []) s4.heap.objs.size code builtinsNs X.env) fp [(a, goObj (.int g 0) v1 v2)])
      X.A.in1.in1 elt x px it (genEnv scope (cloFrom X.env.cells scope.names []) s4.heap.objs.size code builtinsNs X.env) fp [] tn J (σ.set ix none) ix te W (fun _ H => Q (.bl true) H)
      (fun i m y H4 => ∃ b, y = .bl b ∧ (b = true → ∃ m', m' < m ∧ W (i + 1) m' H4) ∧ (b = false → Q (.bl false) H4)) :=
    ⟨rfl, rfl, rfl, rfl, rfl, fun p hp b hb => by
        rw [List.mem_singleton.mp hp]
        exact Nat.ne_of_gt (Nat.lt_trans (f4 b hb).2 ha), fun S hS => absurd hS (by simp), T, hN, ok.ix (x, ix) (List.mem_singleton.mpr rfl), S.loc, S.co, he _ _ _ _ _ _ _ _ rk, len_ix I (ok.ix (x, ix) (List.mem_singleton.mpr rfl)), turn⟩
  have nf : ∀ b ∈ fp, H2 b = none := fun b hb => (f4 b hb).1.1
  refine call_function_tree F.kind_all F.plain_all F.entry_all (F.args_all1 _) ?_
  unfold Builtin.«all»
  refine wpAny_bind (m := oneArg "all" _) (wpAny_pure ?_)
  refine wpAny_bind (wpAny_pyIter_gen (isGen_of (inv_gen hpn I5)) ?_)
  refine wpAny_pure ⟨plainId_quiet F.plain_all_loop _, all_loop (Xg := gcx X (X.A.in1.in1.deeper (genEnv scope (cloFrom X.env.cells scope.names []) s4.heap.objs.size code builtinsNs X.env)) s4 H2 (genEnv scope (cloFrom X.env.cells scope.names []) s4.heap.objs.size code builtinsNs X.env) fp [(a, goObj (.int g 0) v1 v2)]) (C := m0) (Post := fun i m y H4 => ∃ b, y = .bl b ∧ (b = true → ∃ m', m' < m ∧ W (i + 1) m' H4) ∧ (b = false → Q (.bl false) H4)) (End := fun _ H => Q (.bl true) H) (W := W) (fp := fp) (tn := tn) hh (by have := hr.dp; show X.A.depth < _; omega) hpn
    (fun i H' s' J' q => ?_) (fun i m y H' post => ?_) m0 H2 s5 I5 ⟨_, hgs, rfl, gen_segS (C := m0) G hA rfl (Nat.le_refl _) w0 (setG I5 (allBare_setGen (s := s5) (g := g) (x := .running) I5.bare rfl)) st5 nf⟩⟩
  · exact ⟨.bl true, H', gen_back I4 f4 J', rfl, q⟩
  · obtain ⟨b, e, q1, q2⟩ := post
    exact ⟨b, e, q1, fun eb s' J' => ⟨.bl false, H', gen_back I4 f4 J', rfl, q2 eb⟩⟩

theorem pe_anyG {p pos : Pos} (hr : Room (k + 3) X.A) (hg : Gl X "any") (hm : X.mg "any" = none) (TB : TabB X.base X.mg c P) (hcode : X.env.code = .ref c) (hc : X.calm = true) (hN : X.N.Nodup) (hi : PI X (.Name x px) iter wi) (ok : BlkOk X.N X.env.scope scope [(x, ix)]) (S : GScp X.env.scope scope x)
    (he : ∀ (A' : Around) (s : Shared) (H : Hp) (C : Addr) (cl : List (Str × Addr)) (code : Value) (fp : List Addr) (pn : List (Addr × Obj)), Room k A' → PE (gcx X A' s H (genEnv scope cl C code builtinsNs X.env) fp pn) elt te)
    (hb : bootBuiltins "any" = some (.builtin "any") := by decide +kernel)
    (hs : ∀ v, genFold iter X.env v = pure v := by intro _; rfl)
    (hst : starEach [.GeneratorExp elt [⟨.Name x px, iter, [], 0⟩] scope gpos] X.env = (false, eval (.GeneratorExp elt [⟨.Name x px, iter, [], 0⟩] scope gpos) X.env) :: starEach [] X.env := by rfl) :
    PE X (.Call (.Name "any" p) [.GeneratorExp elt [⟨.Name x px, iter, [], 0⟩] scope gpos] [] pos) (tAnyG P wi ix te) := by
  refine ⟨fun pins s σ H Q I h => ?_⟩
  refine wpAny_Call_Name_kw (ld_blt I hg hm hb ?_)
  refine PyProof.Rows.callWith_builtin1 ?_ hst (by rfl)
  rw [hst]
  show wpAny _ _ (spliced ((false, eval (.GeneratorExp elt [⟨.Name x px, iter, [], 0⟩] scope gpos) X.env) :: backTo pos (starEach [] X.env))) _ _ s
  refine Calls.spliced_cons (gen_make (ix := ix) (R := fun J H1 => ∀ H2, Tabbed P H1 H2 → ∃ W : Nat → Nat → Hp → Prop, (∃ m, W 0 m H2) ∧ ∀ i m H, W i m H →
      (J.stop i H ∧ Q (.bl false) H) ∨ (0 < m ∧ J.go i H ∧ ∀ v H', J.yld i H v H' → te ((σ.set ix none).set ix (some v)) H' fun y H4 => ∃ b, y = .bl b ∧ (b = false → ∃ m', m' < m ∧ W (i + 1) m' H4) ∧ (b = true → Q (.bl true) H4)))
    hr TB hcode hN hi ok S hs I h fun J H1 H2 a s5 hR tb hG => ?_)
  obtain ⟨W, ⟨m0, w0⟩, turn⟩ := hR H2 tb
  obtain ⟨s4, g, code, v1, v2, fp, tn, it, I4, f4, T, st5, ha, hsz, hgs, hI⟩ := hG
  refine Calls.spliced_nil ?_
  have hh : X.A.handled = none := hr.hd
  have hA : X.A.in1.in1.handled = none := hh
  have hfr := Around.frames_deeper (env := genEnv scope (cloFrom X.env.cells scope.names []) s4.heap.objs.size code builtinsNs X.env) (A := X.A.in1.in1) (outer := X.stack) I.ok.frames
  have I5 := hI (X.A.in1.in1.deeper _) hh hfr
  have rk : Room k (X.A.in1.in1.deeper (genEnv scope (cloFrom X.env.cells scope.names []) s4.heap.objs.size code builtinsNs X.env)) := (hr.in1.in1).deeper _
  have hpn : (a, goObj (.int g 0) v1 v2) ∈ [(a, goObj (.int g 0) v1 v2)] := List.mem_singleton.mpr rfl
  have G : GRun (gcx X (X.A.in1.in1.deeper (genEnv scope (cloFrom X.env.cells scope.names []) s4.heap.objs.size code builtinsNs X.env)) s4 H2 (genEnv scope (cloFrom X.env.cells scope.names []) s4.heap.objs.size code builtinsNs X.env) fp [(a, goObj (.int g 0) v1 v2)])
      X.A.in1.in1 elt x px it (genEnv scope (cloFrom X.env.cells scope.names []) s4.heap.objs.size code builtinsNs X.env) fp [] tn J (σ.set ix none) ix te W (fun _ H => Q (.bl false) H)
      (fun i m y H4 => ∃ b, y = .bl b ∧ (b = false → ∃ m', m' < m ∧ W (i + 1) m' H4) ∧ (b = true → Q (.bl true) H4)) :=
    ⟨rfl, rfl, rfl, rfl, rfl, fun p hp b hb => by
        rw [List.mem_singleton.mp hp]
        exact Nat.ne_of_gt (Nat.lt_trans (f4 b hb).2 ha), fun S hS => absurd hS (by simp), T, hN, ok.ix (x, ix) (List.mem_singleton.mpr rfl), S.loc, S.co, he _ _ _ _ _ _ _ _ rk, len_ix I (ok.ix (x, ix) (List.mem_singleton.mpr rfl)), turn⟩
  have nf : ∀ b ∈ fp, H2 b = none := fun b hb => (f4 b hb).1.1
  refine call_function_tree F.kind_any F.plain_any F.entry_any (F.args_any1 _) ?_
  unfold Builtin.«any»
  refine wpAny_bind (m := oneArg "any" _) (wpAny_pure ?_)
  refine wpAny_bind (wpAny_pyIter_gen (isGen_of (inv_gen hpn I5)) ?_)
  refine wpAny_pure ⟨plainId_quiet F.plain_any_loop _, any_loop (Xg := gcx X (X.A.in1.in1.deeper (genEnv scope (cloFrom X.env.cells scope.names []) s4.heap.objs.size code builtinsNs X.env)) s4 H2 (genEnv scope (cloFrom X.env.cells scope.names []) s4.heap.objs.size code builtinsNs X.env) fp [(a, goObj (.int g 0) v1 v2)]) (C := m0) (Post := fun i m y H4 => ∃ b, y = .bl b ∧ (b = false → ∃ m', m' < m ∧ W (i + 1) m' H4) ∧ (b = true → Q (.bl true) H4)) (End := fun _ H => Q (.bl false) H) (W := W) (fp := fp) (tn := tn) hh (by have := hr.dp; show X.A.depth < _; omega) hpn
    (fun i H' s' J' q => ?_) (fun i m y H' post => ?_) m0 H2 s5 I5 ⟨_, hgs, rfl, gen_segS (C := m0) G hA rfl (Nat.le_refl _) w0 (setG I5 (allBare_setGen (s := s5) (g := g) (x := .running) I5.bare rfl)) st5 nf⟩⟩
  · exact ⟨.bl false, H', gen_back I4 f4 J', rfl, q⟩
  · obtain ⟨b, e, q1, q2⟩ := post
    exact ⟨b, e, q1, fun eb s' J' => ⟨.bl true, H', gen_back I4 f4 J', rfl, q2 eb⟩⟩

theorem pe_sumG {p pos : Pos} (hr : Room (k + 3) X.A) (hg : Gl X "sum") (hm : X.mg "sum" = none) (TB : TabB X.base X.mg c P) (hcode : X.env.code = .ref c) (hc : X.calm = true) (hN : X.N.Nodup) (hi : PI X (.Name x px) iter wi) (ok : BlkOk X.N X.env.scope scope [(x, ix)]) (S : GScp X.env.scope scope x)
    (he : ∀ (A' : Around) (s : Shared) (H : Hp) (C : Addr) (cl : List (Str × Addr)) (code : Value) (fp : List Addr) (pn : List (Addr × Obj)), Room k A' → PE (gcx X A' s H (genEnv scope cl C code builtinsNs X.env) fp pn) elt te)
    (hb : bootBuiltins "sum" = some (.builtin "sum") := by decide +kernel)
    (hs : ∀ v, genFold iter X.env v = pure v := by intro _; rfl)
    (hst : starEach [.GeneratorExp elt [⟨.Name x px, iter, [], 0⟩] scope gpos] X.env = (false, eval (.GeneratorExp elt [⟨.Name x px, iter, [], 0⟩] scope gpos) X.env) :: starEach [] X.env := by rfl) :
    PE X (.Call (.Name "sum" p) [.GeneratorExp elt [⟨.Name x px, iter, [], 0⟩] scope gpos] [] pos) (tSumG P wi ix te) := by
  refine ⟨fun pins s σ H Q I h => ?_⟩
  refine wpAny_Call_Name_kw (ld_blt I hg hm hb ?_)
  refine PyProof.Rows.callWith_builtin1 ?_ hst (by rfl)
  rw [hst]
  show wpAny _ _ (spliced ((false, eval (.GeneratorExp elt [⟨.Name x px, iter, [], 0⟩] scope gpos) X.env) :: backTo pos (starEach [] X.env))) _ _ s
  refine Calls.spliced_cons (gen_make (ix := ix) (R := fun J H1 => ∀ H2, Tabbed P H1 H2 → ∃ (val : Nat → Int) (W : Nat → Nat → Hp → Prop), (∃ m, W 0 m H2) ∧ ∀ i m H, W i m H →
      (J.stop i H ∧ Q (.int (preSum val i)) H) ∨ (0 < m ∧ J.go i H ∧ ∀ v H', J.yld i H v H' → te ((σ.set ix none).set ix (some v)) H' fun y H4 => y = .int (val i) ∧ InLong (val i) ∧ InLong (preSum val (i + 1)) ∧ ∃ m', m' < m ∧ W (i + 1) m' H4))
    hr TB hcode hN hi ok S hs I h fun J H1 H2 a s5 hR tb hG => ?_)
  obtain ⟨val, W, ⟨m0, w0⟩, turn⟩ := hR H2 tb
  obtain ⟨s4, g, code, v1, v2, fp, tn, it, I4, f4, T, st5, ha, hsz, hgs, hI⟩ := hG
  refine Calls.spliced_nil ?_
  have hh : X.A.handled = none := hr.hd
  have hA : X.A.in1.in1.handled = none := hh
  have hfr := Around.frames_deeper (env := genEnv scope (cloFrom X.env.cells scope.names []) s4.heap.objs.size code builtinsNs X.env) (A := X.A.in1.in1) (outer := X.stack) I.ok.frames
  have I5 := hI (X.A.in1.in1.deeper _) hh hfr
  have rk : Room k (X.A.in1.in1.deeper (genEnv scope (cloFrom X.env.cells scope.names []) s4.heap.objs.size code builtinsNs X.env)) := (hr.in1.in1).deeper _
  have hpn : (a, goObj (.int g 0) v1 v2) ∈ [(a, goObj (.int g 0) v1 v2)] := List.mem_singleton.mpr rfl
  have ha2 : s4.heap.objs.size + 1 < s5.heap.objs.size := by
    rw [hsz]
    exact Nat.succ_lt_succ ha
  have ha3 : a < s5.heap.objs.size := by
    rw [hsz]
    exact Nat.lt_succ_self _
  have hSn : s5.heap.objs.size ∉ fp := fun z => by
    have q : s5.heap.objs.size < s4.heap.objs.size := (f4 _ z).2
    omega
  have G : GRun (gcx X (X.A.in1.in1.deeper (genEnv scope (cloFrom X.env.cells scope.names []) s4.heap.objs.size code builtinsNs X.env)) s4 H2 (genEnv scope (cloFrom X.env.cells scope.names []) s4.heap.objs.size code builtinsNs X.env) fp [(a, goObj (.int g 0) v1 v2)])
      X.A.in1.in1 elt x px it (genEnv scope (cloFrom X.env.cells scope.names []) s4.heap.objs.size code builtinsNs X.env) fp [s5.heap.objs.size] tn J (σ.set ix none) ix te W (fun i H => Q (.int (preSum val i)) H)
      (fun i m y H4 => y = .int (val i) ∧ InLong (val i) ∧ InLong (preSum val (i + 1)) ∧ ∃ m', m' < m ∧ W (i + 1) m' H4) :=
    ⟨rfl, rfl, rfl, rfl, rfl, fun p hp b hb => by
        rw [List.mem_singleton.mp hp]
        exact Nat.ne_of_gt (Nat.lt_trans (f4 b hb).2 ha), fun S hS b hb z => hSn (by rw [← List.mem_singleton.mp hS, z]; exact hb), T, hN, ok.ix (x, ix) (List.mem_singleton.mpr rfl), S.loc, S.co, he _ _ _ _ _ _ _ _ rk, len_ix I (ok.ix (x, ix) (List.mem_singleton.mpr rfl)), turn⟩
  have nf : ∀ b ∈ fp, H2 b = none := fun b hb => (f4 b hb).1.1
  refine call_function_tree F.kind_sum F.plain_sum F.entry_sum (F.args_sum1 _) ?_
  unfold Builtin.«sum»
  simp only [List.length_cons, List.length_nil]
  rw [if_neg (by decide)]
  refine wpAny_bind (wpAny_of_eq (show Builtin.Builtins.bindParams "sum" ["start"] 0 { } = pure [none] from rfl) ?_)
  refine wpAny_bind (wpAny_pyIter_gen (isGen_of (inv_gen hpn I5)) ?_)
  refine wpAny_bind (wpAny_mkInt ?_)
  refine wpAny_bind (wpAny_pure ?_)
  simp only [List.forIn_cons, List.forIn_nil]
  refine wpAny_bind (wpAny_bind (wpAny_bind (wpAny_isInstance (T := "int") (b := false) (typeIs_int _ _ _) PySem.sub_int_str ?_)))
  simp only [Bool.false_eq_true, if_false]
  refine wpAny_pure (wpAny_bind (wpAny_bind (wpAny_isInstance (T := "int") (b := false) (typeIs_int _ _ _) PySem.sub_int_bytes ?_)))
  simp only [Bool.false_eq_true, if_false]
  refine wpAny_pure (wpAny_bind (wpAny_bind (wpAny_isInstance (T := "int") (b := false) (typeIs_int _ _ _) PySem.sub_int_bytearray ?_)))
  simp only [Bool.false_eq_true, if_false]
  refine wpAny_pure (wpAny_pure ?_)
  refine wpAny_bind (wpAny_newObj_type ?_)
  have clt : ∀ {y c}, X.env.cells.lookup y = some c → c < s4.heap.objs.size := fun {y c} e => by
    obtain ⟨w, z⟩ := I4.cell _ _ e
    exact z.lt
  have hfree : ∀ y ∈ scope.names, y.2 = .free → ∃ c, X.env.cells.lookup y.1 = some c := fun y hy e => by
    rcases ok.free y hy e with k | k
    · exact I4.ok.has _ (.inl k)
    · exact I4.ok.has _ (.inr k)
  have cm : ∀ {y c}, (cloFrom X.env.cells scope.names []).lookup y = some c → X.env.cells.lookup y = some c := fun {y c} e => by
    rcases cloFrom_mem (PySem.mem_of_lookup e) with hm | ⟨h1, h2⟩
    · cases hm
    · obtain ⟨c1, hc⟩ := hfree _ h1 rfl
      have hc : X.env.cells.lookup y = some c1 := hc
      have e2 : c = c1 := by
        rw [h2, hc] <;> rfl
      rw [e2]
      exact hc
  have hkp : ∀ b o, s5.heap.get? b = some o → (s5.heap.push { cls := .type "list", data := .seq ([.int 0 s5.toks] : List Value).toArray }).get? b = some o := fun b o e => Heap.get?_push_of_some _ e
  have hSo : (s5.heap.push { cls := .type "list", data := .seq ([.int 0 s5.toks] : List Value).toArray }).get? s5.heap.objs.size = some (sumObj 0 s5.toks 0) := Heap.get?_push_size _ rfl
  have hSl : s4.heap.objs.size ≤ s5.heap.objs.size := by omega
  have nS : H2 s5.heap.objs.size = none := I5.hok.fresh (Nat.le_refl _)
  have J6 := I5.kept (h' := s5.heap.push { cls := .type "list", data := .seq ([.int 0 s5.toks] : List Value).toArray }) (t' := s5.toks + 1) hkp
  have J7 : Inv (gcx X (X.A.in1.in1.deeper (genEnv scope (cloFrom X.env.cells scope.names []) s4.heap.objs.size code builtinsNs X.env)) s4 H2 (genEnv scope (cloFrom X.env.cells scope.names []) s4.heap.objs.size code builtinsNs X.env) fp [(a, goObj (.int g 0) v1 v2)])
      (pinsAt [s5.heap.objs.size] (s5.heap.push { cls := .type "list", data := .seq ([.int 0 s5.toks] : List Value).toArray })) (σ.set ix none) H2 { s5 with heap := s5.heap.push { cls := .type "list", data := .seq ([.int 0 s5.toks] : List Value).toArray }, toks := s5.toks + 1 } := J6.pins_of fun p hp => by
    obtain ⟨h1, h2⟩ := of_pinsAt hp
    have e1 : p.1 = s5.heap.objs.size := List.mem_singleton.mp h1
    rw [e1] at h2
    have e2 : sumObj 0 s5.toks 0 = p.2 := Option.some.inj (hSo.symm.trans h2)
    rw [e1]
    refine ⟨h2, nS, ?_, I5.nofs (Nat.le_refl _), by rw [← e2]; exact fun v q => by cases q⟩
    exact Nat.ne_of_gt (show s4.heap.objs.size < s5.heap.objs.size by omega)
  refine wpAny_pure ⟨plainId_quiet F.plain_sum_loop _, sum_loop (Xg := gcx X (X.A.in1.in1.deeper (genEnv scope (cloFrom X.env.cells scope.names []) s4.heap.objs.size code builtinsNs X.env)) s4 H2 (genEnv scope (cloFrom X.env.cells scope.names []) s4.heap.objs.size code builtinsNs X.env) fp [(a, goObj (.int g 0) v1 v2)]) (C := m0) (Post := fun i m y H4 => y = .int (val i) ∧ InLong (val i) ∧ InLong (preSum val (i + 1)) ∧ ∃ m', m' < m ∧ W (i + 1) m' H4) (End := fun i H => Q (.int (preSum val i)) H) (W := W) (fp := fp) (tn := tn) (S := s5.heap.objs.size) hh (by have := hr.dp; show X.A.depth < _; omega) hpn
    hSl (Nat.ne_of_gt (show s4.heap.objs.size < s5.heap.objs.size by omega)) (fun y c e => Nat.ne_of_lt (Nat.lt_of_lt_of_le (clt (cm e)) hSl)) (fun p hp => by rw [List.mem_singleton.mp hp]; exact Nat.ne_of_lt ha3)
    (fun i h h' st k => T.keep _ _ _ st fun b hb o e => k b o (fun z => hSn (by rw [← z]; exact hb)) e) val
    (fun i H' s' tk J' q => ?_) (fun i m y H' post => post) m0 0 H2 _ s5.toks 0 (Nat.zero_add _) hSo J7 ⟨_, hgs, rfl, gen_segS (C := m0) G hA rfl (Nat.le_refl _) w0 (setG J7 (allBare_setGen (s := { s5 with heap := s5.heap.push { cls := .type "list", data := .seq ([.int 0 s5.toks] : List Value).toArray }, toks := s5.toks + 1 }) J7.bare rfl)) (T.keep _ _ _ st5 fun b _ o e => hkp b o e) nf⟩⟩
  exact ⟨.int (preSum val i), H', gen_back I4 f4 J', ⟨_, rfl⟩, q⟩
end
end WG
end
section
set_option maxHeartbeats 4000000
/-! the data layer: pure expressions and statements by what they compute -/
namespace DL
open PySem PySem.Spec PyProof.Rows L2
open GxR (TabB TabG Tabbed)

/-- what data may not stand upon -/
abbrev Av := Addr → Bool
mutual
inductive DV (S : Av) (H : Hp) : V → PyData → Prop
  | non : DV S H .non .none
  | bl (b : Bool) : DV S H (.bl b) (.bool b)
  | int (i : Int) : DV S H (.int i) (.int i)
  | str (x : Str) : DV S H (.str x) (.str x)
  | lst {a : Addr} {xs : List V} {ds : List PyData} : S a = false → H a = some (.lst xs) → DVs S H xs ds → DV S H (.ref a) (.list ds)
  | tup {a : Addr} {xs : List V} {ds : List PyData} : S a = false → H a = some (.tup xs) → DVs S H xs ds → DV S H (.ref a) (.tuple ds)
inductive DVs (S : Av) (H : Hp) : List V → List PyData → Prop
  | nil : DVs S H [] []
  | cons {v : V} {vs : List V} {d : PyData} {ds : List PyData} : DV S H v d → DVs S H vs ds → DVs S H (v :: vs) (d :: ds)
end

def NT (o : HO) : Prop := ∀ ps, o ≠ .tbl ps
theorem nt_lst {xs} : NT (.lst xs) := fun _ h => by cases h
theorem nt_tup {xs} : NT (.tup xs) := fun _ h => by cases h
theorem nt_ins {C dx fs} : NT (.ins C dx fs) := fun _ h => by cases h

section
variable {S S' : Av} {H H' : Hp}
mutual
theorem DV.mono (k : ∀ a o, S a = false → H a = some o → NT o → S' a = false ∧ H' a = some o) : ∀ {v : V} {d : PyData}, DV S H v d → DV S' H' v d
  | _, _, .non => .non
  | _, _, .bl b => .bl b
  | _, _, .int i => .int i
  | _, _, .str x => .str x
  | _, _, .lst h1 h2 h3 => .lst (k _ _ h1 h2 nt_lst).1 (k _ _ h1 h2 nt_lst).2 (DVs.mono k h3)
  | _, _, .tup h1 h2 h3 => .tup (k _ _ h1 h2 nt_tup).1 (k _ _ h1 h2 nt_tup).2 (DVs.mono k h3)
theorem DVs.mono (k : ∀ a o, S a = false → H a = some o → NT o → S' a = false ∧ H' a = some o) : ∀ {vs : List V} {ds : List PyData}, DVs S H vs ds → DVs S' H' vs ds
  | _, _, .nil => .nil
  | _, _, .cons h1 h2 => .cons (DV.mono k h1) (DVs.mono k h2)
end
mutual
theorem DV.dp {K : PySem.W.Frag} : ∀ {v : V} {d : PyData}, DV S H v d → Dp K H v d
  | _, _, .non => .non
  | _, _, .bl b => .bl b
  | _, _, .int i => .int i
  | _, _, .str x => .str x
  | _, _, .lst h1 h2 h3 => .lst (.of h2) (DVs.dp h3)
  | _, _, .tup h1 h2 h3 => .tup (.of h2) (DVs.dp h3)
theorem DVs.dp {K : PySem.W.Frag} : ∀ {vs : List V} {ds : List PyData}, DVs S H vs ds → DpAll K H vs ds
  | _, _, .nil => .nil
  | _, _, .cons h1 h2 => .cons (DV.dp h1) (DVs.dp h2)
end
theorem DVs.length : ∀ {vs : List V} {ds : List PyData}, DVs S H vs ds → vs.length = ds.length
  | _, _, .nil => rfl
  | _, _, .cons _ h => by rw [List.length_cons, List.length_cons, DVs.length h]
theorem DVs.get : ∀ {vs : List V} {ds : List PyData} {i : Nat} {d : PyData}, DVs S H vs ds → ds[i]? = some d → ∃ v, vs[i]? = some v ∧ DV S H v d
  | _, _, _, _, .nil, e => by simp at e
  | _, _, 0, _, .cons h _, e => by
    have e := Option.some.inj e
    exact ⟨_, rfl, e ▸ h⟩
  | _, _, i + 1, d, .cons _ h, e => by
    obtain ⟨v, h1, h2⟩ := DVs.get (i := i) (d := d) h (by simpa using e)
    exact ⟨v, by simpa using h1, h2⟩
theorem DVs.getV : ∀ {vs : List V} {ds : List PyData} {i : Nat} {v : V}, DVs S H vs ds → vs[i]? = some v → ∃ d, ds[i]? = some d ∧ DV S H v d
  | _, _, _, _, .nil, e => by simp at e
  | _, _, 0, _, .cons h _, e => by
    have e := Option.some.inj e
    exact ⟨_, rfl, e ▸ h⟩
  | _, _, i + 1, v, .cons _ h, e => by
    obtain ⟨d, h1, h2⟩ := DVs.getV (i := i) (v := v) h (by simpa using e)
    exact ⟨d, by simpa using h1, h2⟩
theorem DVs.append : ∀ {vs ws : List V} {ds es : List PyData}, DVs S H vs ds → DVs S H ws es → DVs S H (vs ++ ws) (ds ++ es)
  | _, _, _, _, .nil, h => h
  | _, _, _, _, .cons h1 h2, h => .cons h1 (DVs.append h2 h)
theorem DVs.take : ∀ {vs : List V} {ds : List PyData} (n : Nat), DVs S H vs ds → DVs S H (vs.take n) (ds.take n)
  | _, _, 0, _ => .nil
  | _, _, _ + 1, .nil => .nil
  | _, _, n + 1, .cons h1 h2 => .cons h1 (DVs.take n h2)
theorem DVs.drop : ∀ {vs : List V} {ds : List PyData} (n : Nat), DVs S H vs ds → DVs S H (vs.drop n) (ds.drop n)
  | _, _, 0, h => h
  | _, _, _ + 1, .nil => .nil
  | _, _, n + 1, .cons _ h2 => DVs.drop n h2
theorem DVs.set {v : V} {d : PyData} (h : DV S H v d) : ∀ {vs : List V} {ds : List PyData} (i : Nat), DVs S H vs ds → DVs S H (vs.set i v) (ds.set i d)
  | _, _, _, .nil => .nil
  | _, _, 0, .cons _ h2 => .cons h h2
  | _, _, i + 1, .cons h1 h2 => .cons h1 (DVs.set h i h2)
theorem DVs.reverse {vs : List V} {ds : List PyData} (h : DVs S H vs ds) : DVs S H vs.reverse ds.reverse := by
  induction ds generalizing vs with
  | nil =>
    cases h
    exact .nil
  | cons d ds ih =>
    cases h with
    | cons h1 h2 =>
      rw [List.reverse_cons, List.reverse_cons]
      exact (ih h2).append (.cons h1 .nil)
theorem DVs.repl {v : V} {d : PyData} (h : DV S H v d) : ∀ n : Nat, DVs S H (List.replicate n v) (List.replicate n d)
  | 0 => .nil
  | n + 1 => .cons h (DVs.repl h n)
theorem DVs.ints (ns : List Int) : DVs S H (ns.map V.int) (ns.map PyData.int) := by
  induction ns with
  | nil => exact .nil
  | cons n ns ih => exact .cons (.int n) ih
theorem DVs.ints_inv : ∀ {vs : List V} (ns : List Int), DVs S H vs (ns.map PyData.int) → vs = ns.map V.int
  | _, [], h => by cases h; rfl
  | _, n :: ns, h => by
    cases h with
    | cons h1 h2 =>
      cases h1
      rw [DVs.ints_inv ns h2]
      rfl
theorem DVs.all {P : PyData → Prop} : ∀ {vs : List V} {ds : List PyData}, DVs S H vs ds → vs.length = ds.length
  | _, _, h => h.length
end

/-! ### how a pure step may change the heap -/
structure Grow (T : List Addr) (H H' : Hp) : Prop where
  keep : ∀ b o, H b = some o → NT o → H' b = some o
  tabs : (∀ P ∈ T, TabG H P) → ∀ P ∈ T, TabG H' P
  dom : ∀ b, H' b = none → H b = none
theorem Grow.refl {T : List Addr} {H : Hp} : Grow T H H := ⟨fun _ _ h _ => h, fun h => h, fun _ h => h⟩
theorem Grow.trans {T : List Addr} {H H1 H2 : Hp} (a : Grow T H H1) (b : Grow T H1 H2) : Grow T H H2 := ⟨fun c o h n => b.keep c o (a.keep c o h n) n, fun h => b.tabs (a.tabs h), fun c h => a.dom c (b.dom c h)⟩
theorem Grow.new {T : List Addr} {H : Hp} {p : Addr} {o : HO} (h : H p = none) : Grow T H (upd H p o) := ⟨fun b o e _ => by rw [upd_ne (ne_of_none e h)]; exact e, fun q P hP => by
  obtain ⟨ps, e, t⟩ := q P hP
  exact ⟨ps, by rw [upd_ne (ne_of_none e h)]; exact e, t⟩, fun b e => by
  by_cases hb : b = p
  · rw [hb, upd_same] at e
    cases e
  · rw [upd_ne hb] at e
    exact e⟩
theorem Grow.tab {T : List Addr} {H H' : Hp} {P : Addr} (hP : TabG H P) (t : Tabbed P H H') : Grow T H H' := ⟨fun b o e n => by
  by_cases hb : b = P
  · obtain ⟨ps, e2, _⟩ := hP
    rw [hb, e2] at e
    exact absurd (Option.some.inj e).symm (n ps)
  · rw [t.2 b hb]
    exact e, fun q P' hP' => by
  by_cases hb : P' = P
  · rw [hb]
    exact t.1
  · obtain ⟨ps, e, z⟩ := q P' hP'
    exact ⟨ps, by rw [t.2 P' hb]; exact e, z⟩, fun b e => by
  by_cases hb : b = P
  · obtain ⟨ps, e2, _⟩ := t.1
    rw [hb, e2] at e
    cases e
  · rw [t.2 b hb] at e
    exact e⟩

/-- what may be written is at Z -/
structure GrowM (T : List Addr) (Z : Av) (H H' : Hp) : Prop where
  keep : ∀ b o, Z b = false → H b = some o → NT o → H' b = some o
  tabs : (∀ P ∈ T, TabG H P) → ∀ P ∈ T, TabG H' P
  dom : ∀ b, H' b = none → H b = none
  has : ∀ b o, H b = some o → NT o → ∃ o', H' b = some o' ∧ NT o'
theorem Grow.gm {T : List Addr} {Z : Av} {H H' : Hp} (g : Grow T H H') : GrowM T Z H H' := ⟨fun b o _ e n => g.keep b o e n, g.tabs, g.dom, fun b o e n => ⟨o, g.keep b o e n, n⟩⟩
theorem GrowM.trans {T : List Addr} {Z : Av} {H H1 H2 : Hp} (a : GrowM T Z H H1) (b : GrowM T Z H1 H2) : GrowM T Z H H2 := ⟨fun c o z h n => b.keep c o z (a.keep c o z h n) n, fun h => b.tabs (a.tabs h), fun c h => a.dom c (b.dom c h), fun c o h n => let ⟨o', h', n'⟩ := a.has c o h n; b.has c o' h' n'⟩
theorem GrowM.refl {T : List Addr} {Z : Av} {H : Hp} : GrowM T Z H H := Grow.refl.gm
theorem GrowM.no {T : List Addr} {H H' : Hp} (g : GrowM T (fun _ => false) H H') : Grow T H H' := ⟨fun b o e n => g.keep b o rfl e n, g.tabs, g.dom⟩
theorem GrowM.mono {T : List Addr} {Z Z' : Av} {H H' : Hp} (g : GrowM T Z H H') (k : ∀ a, Z a = true → Z' a = true) : GrowM T Z' H H' := ⟨fun b o z e n => g.keep b o (by
  cases h : Z b with
  | false => rfl
  | true => rw [k b h] at z; cases z) e n, g.tabs, g.dom, g.has⟩
/-- the avoided addresses are of tracked objects -/
def SOk (S : Av) (H : Hp) : Prop := ∀ a, S a = true → ∃ o, H a = some o ∧ NT o
theorem SOk.grow {T : List Addr} {S : Av} {H H' : Hp} (s : SOk S H) (g : Grow T H H') : SOk S H' := fun a h => by
  obtain ⟨o, e, n⟩ := s a h
  exact ⟨o, g.keep a o e n, n⟩
theorem SOk.growM {T : List Addr} {S Z : Av} {H H' : Hp} (s : SOk S H) (g : GrowM T Z H H') : SOk S H' := fun a h => by
  obtain ⟨o, e, n⟩ := s a h
  exact g.has a o e n
theorem SOk.new {S : Av} {H : Hp} {p : Addr} (s : SOk S H) (h : H p = none) : S p = false := by
  cases e : S p with
  | false => rfl
  | true =>
    obtain ⟨o, q, _⟩ := s p e
    rw [h] at q
    cases q
theorem SOk.none {H : Hp} : SOk (fun _ => false) H := fun _ h => by cases h
theorem DV.grow {T : List Addr} {S : Av} {H H' : Hp} {v : V} {d : PyData} (h : DV S H v d) (g : Grow T H H') : DV S H' v d := h.mono fun a o hs e n => ⟨hs, g.keep a o e n⟩
theorem DVs.grow {T : List Addr} {S : Av} {H H' : Hp} {v : List V} {d : List PyData} (h : DVs S H v d) (g : Grow T H H') : DVs S H' v d := h.mono fun a o hs e n => ⟨hs, g.keep a o e n⟩
theorem DV.growM {T : List Addr} {S Z : Av} {H H' : Hp} {v : V} {d : PyData} (h : DV S H v d) (g : GrowM T Z H H') (k : ∀ a, Z a = true → S a = true) : DV S H' v d := h.mono fun a o hs e n => ⟨hs, g.keep a o (by
  cases z : Z a with
  | false => rfl
  | true => rw [k a z] at hs; cases hs) e n⟩
theorem DVs.growM {T : List Addr} {S Z : Av} {H H' : Hp} {v : List V} {d : List PyData} (h : DVs S H v d) (g : GrowM T Z H H') (k : ∀ a, Z a = true → S a = true) : DVs S H' v d := h.mono fun a o hs e n => ⟨hs, g.keep a o (by
  cases z : Z a with
  | false => rfl
  | true => rw [k a z] at hs; cases hs) e n⟩
theorem DV.newL {S : Av} {H : Hp} {p : Addr} {xs : List V} {ds : List PyData} (s : SOk S H) (h : H p = none) (r : DVs S H xs ds) : DV S (upd H p (.lst xs)) (.ref p) (.list ds) :=
  .lst (s.new h) upd_same (r.grow (T := []) (Grow.new h))
theorem DV.newT {S : Av} {H : Hp} {p : Addr} {xs : List V} {ds : List PyData} (s : SOk S H) (h : H p = none) (r : DVs S H xs ds) : DV S (upd H p (.tup xs)) (.ref p) (.tuple ds) :=
  .tup (s.new h) upd_same (r.grow (T := []) (Grow.new h))

/-! ### the environment -/
/-- the object that self is -/
structure SelfD where
  many : PyData
  signs : List PyData
  rows : List PyData
  basis : List PyData
  w : Bool
/-- slots; an object at slot mi; lists that are written, by their slots -/
structure En where
  sl : List (Option PyData)
  me : Option SelfD
  mi : Nat
  ow : List (Nat × List PyData)
  base : Bool
def En.meAt (i : Nat) (ρ : En) : Option SelfD := if ρ.mi = i then ρ.me else none
def flds (vm : V) (ps pr pb : Addr) : List (Str × V) := [("many", vm), ("signs", .ref ps), ("rows", .ref pr), ("basis", .ref pb)]
/-- self: rows and basis are lists that may be written -/
structure SelfR (C : Addr) (S : Av) (H : Hp) (p ps pr pb : Addr) (m : SelfD) : Prop where
  ob : ∃ vm dx, H p = some (.ins C dx (flds vm ps pr pb)) ∧ DV S H vm m.many
  sg : DV S H (.ref ps) (.list m.signs)
  rw : ∃ xr, H pr = some (.lst xr) ∧ DVs S H xr m.rows
  bs : ∃ xb, H pb = some (.lst xb) ∧ DVs S H xb m.basis
  av : S pr = true ∧ S pb = true ∧ S p = true
  ne : pr ≠ pb
theorem SelfR.grow {C : Addr} {T : List Addr} {S : Av} {H H' : Hp} {p ps pr pb : Addr} {m : SelfD} (h : SelfR C S H p ps pr pb m) (g : Grow T H H') : SelfR C S H' p ps pr pb m := by
  obtain ⟨⟨vm, dx, e1, d1⟩, h2, ⟨xr, e3, d3⟩, ⟨xb, e4, d4⟩, h5, h6⟩ := h
  exact ⟨⟨vm, dx, g.keep _ _ e1 nt_ins, d1.grow g⟩, h2.grow g, ⟨xr, g.keep _ _ e3 nt_lst, d3.grow g⟩, ⟨xb, g.keep _ _ e4 nt_lst, d4.grow g⟩, h5, h6⟩

structure EnR (C : Addr) (T : List Addr) (S : Av) (H : Hp) (σ : List (Option V)) (ρ : En) : Prop where
  tabs : ∀ P ∈ T, TabG H P
  sok : SOk S H
  len : ρ.sl.length = σ.length
  sl : ∀ (i : Nat) (d : PyData), ρ.sl[i]? = some (some d) → ∃ v : V, σ[i]? = some (some v) ∧ DV S H v d
  me : ∀ m, ρ.me = some m → ∃ p ps pr pb : Addr, σ[ρ.mi]? = some (some (.ref p)) ∧ SelfR C S H p ps pr pb m
  ow : ∀ (i : Nat) (ds : List PyData), ρ.ow.lookup i = some ds → ∃ (a : Addr) (xs : List V), σ[i]? = some (some (.ref a)) ∧ S a = true ∧ H a = some (.lst xs) ∧ DVs S H xs ds
theorem EnR.meAt {C : Addr} {T : List Addr} {S : Av} {H : Hp} {σ : List (Option V)} {ρ : En} (E : EnR C T S H σ ρ) {i : Nat} : ∀ m, ρ.meAt i = some m → ∃ p ps pr pb : Addr, σ[i]? = some (some (.ref p)) ∧ SelfR C S H p ps pr pb m := fun m h => by
  unfold En.meAt at h
  split at h
  · rename_i hi
    subst hi
    exact E.me m h
  · cases h
theorem EnR.grow {C : Addr} {T : List Addr} {S : Av} {H H' : Hp} {σ : List (Option V)} {ρ : En} (h : EnR C T S H σ ρ) (g : Grow T H H') : EnR C T S H' σ ρ :=
  ⟨g.tabs h.tabs, h.sok.grow g, h.len, fun i d e => let ⟨v, h1, h2⟩ := h.sl i d e; ⟨v, h1, h2.grow g⟩, fun m e => let ⟨p, ps, pr, pb, h1, h2⟩ := h.me m e; ⟨p, ps, pr, pb, h1, h2.grow g⟩,
   fun i ds e => let ⟨a, xs, h1, h2, h3, h4⟩ := h.ow i ds e; ⟨a, xs, h1, h2, g.keep _ _ h3 nt_lst, h4.grow g⟩⟩

/-! ### the judgements -/
def tD (C : Addr) (T : List Addr) (f : En → Option PyData) : TE := fun σ H Q => ∃ S ρ d, EnR C T S H σ ρ ∧ f ρ = some d ∧ ∀ v H', Grow T H H' → DV S H' v d → Q v H'
def tDB (C : Addr) (T : List Addr) (f : En → Option Bool) : TT := fun σ H Q => ∃ S ρ b, EnR C T S H σ ρ ∧ f ρ = some b ∧ ∀ H', Grow T H H' → Q b H'
def tDs (C : Addr) (T : List Addr) (f : En → Option (List PyData)) : TA := fun σ H Q => ∃ S ρ ds, EnR C T S H σ ρ ∧ f ρ = some ds ∧ ∀ vs H', Grow T H H' → DVs S H' vs ds → Q vs H'
abbrev PD (X : Cx) (C : Addr) (T : List Addr) (e : Expr) (f : En → Option PyData) : Prop := PE X e (tD C T f)
abbrev PDB (X : Cx) (C : Addr) (T : List Addr) (e : Expr) (f : En → Option Bool) : Prop := PT X e (tDB C T f)
abbrev PDs (X : Cx) (C : Addr) (T : List Addr) (es : List Expr) (f : En → Option (List PyData)) : Prop := PA X es (tDs C T f)
theorem PE.imp {X : Cx} {e : Expr} {t t' : TE} (h : PE X e t) (k : ∀ σ H Q, t' σ H Q → t σ H Q) : PE X e t' := ⟨fun pins s σ H Q I q => h.run pins s σ H Q I (k σ H Q q)⟩
theorem PT.imp {X : Cx} {e : Expr} {t t' : TT} (h : PT X e t) (k : ∀ σ H Q, t' σ H Q → t σ H Q) : PT X e t' := ⟨fun pins s σ H Q I q => h.run pins s σ H Q I (k σ H Q q)⟩
theorem PW.imp {X : Cx} {e : Expr} {t t' : TT} (h : PW X e t) (k : ∀ σ H Q, t' σ H Q → t σ H Q) : PW X e t' := ⟨fun wh pins s σ H Q I q => h.run wh pins s σ H Q I (k σ H Q q)⟩
theorem PA.imp {X : Cx} {e : List Expr} {t t' : TA} (h : PA X e t) (k : ∀ σ H Q, t' σ H Q → t σ H Q) : PA X e t' := ⟨fun pos pins s σ H Q I q => h.run pos pins s σ H Q I (k σ H Q q)⟩
theorem PS.imp {X : Cx} {e : Stmt} {t t' : TS} (h : PS X e t) (k : ∀ D σ H, t' D σ H → t D σ H) : PS X e t' := ⟨fun pins s σ H D I q => h.run pins s σ H D I (k D σ H q)⟩
theorem PSs.imp {X : Cx} {e : List Stmt} {t t' : TS} (h : PSs X e t) (k : ∀ D σ H, t' D σ H → t D σ H) : PSs X e t' := ⟨fun pins s σ H D I q => h.run pins s σ H D I (k D σ H q)⟩

/-- a binary operator on values, by data -/
def OpD (T : List Addr) (r : V → V → Hp → VK → Prop) (F : PyData → PyData → Option PyData) : Prop :=
  ∀ (S : Av) (H : Hp) (x y : V) (a b d : PyData) (Q : VK), SOk S H → DV S H x a → DV S H y b → F a b = some d → (∀ v H', Grow T H H' → DV S H' v d → Q v H') → r x y H Q
def bin2 (F : PyData → PyData → Option PyData) (f g : En → Option PyData) : En → Option PyData := fun ρ => (f ρ).bind fun a => (g ρ).bind fun b => F a b
theorem bin2_some {F : PyData → PyData → Option PyData} {f g : En → Option PyData} {ρ : En} {d : PyData} (h : bin2 F f g ρ = some d) : ∃ a b, f ρ = some a ∧ g ρ = some b ∧ F a b = some d := by
  unfold bin2 at h
  obtain ⟨a, h1, h⟩ := Option.bind_eq_some_iff.mp h
  obtain ⟨b, h2, h3⟩ := Option.bind_eq_some_iff.mp h
  exact ⟨a, b, h1, h2, h3⟩
section
variable {X : Cx} {C : Addr} {T : List Addr} {a b : Expr} {f g : En → Option PyData} {pos : Pos} {r : V → V → Hp → VK → Prop} {F : PyData → PyData → Option PyData}
theorem tOp_of (h : OpD T r F) {σ : List (Option V)} {H : Hp} {Q : VK} (q : tD C T (bin2 F f g) σ H Q) : tOp r (tD C T f) (tD C T g) σ H Q := by
  obtain ⟨S, ρ, d, E, e, q⟩ := q
  obtain ⟨a, b, e1, e2, e3⟩ := bin2_some e
  refine ⟨S, ρ, a, E, e1, fun x H1 g1 d1 => ⟨S, ρ, b, E.grow g1, e2, fun y H2 g2 d2 => ?_⟩⟩
  exact h S H2 x y a b d Q ((E.sok.grow g1).grow g2) (d1.grow g2) d2 e3 fun v H' g3 d3 => q v H' ((g1.trans g2).trans g3) d3
theorem pd_bin {op : Operator} (ho : OpR X (binaryOp op) r) (h : OpD T r F) (ha : PD X C T a f) (hb : PD X C T b g) : PD X C T (.BinOp a op b pos) (bin2 F f g) :=
  PE.imp (pe_op ho ha hb) fun σ H Q q => tOp_of h q
theorem pd_cmp {op : CmpOp} (ho : OpR X (compareOp op) r) (h : OpD T r F) (ha : PD X C T a f) (hb : PD X C T b g) (hm : behindInMarks op b = false) : PD X C T (.Compare a [op] [b] pos) (bin2 F f g) :=
  PE.imp (pe_cmpR ho ha hb hm) fun σ H Q q => tOp_of h q
def asB : PyData → Option Bool
  | .bool b => some b
  | _ => none
def bOf (f : En → Option PyData) : En → Option Bool := fun ρ => (f ρ).bind asB
theorem asB_some {d : PyData} {b : Bool} (h : asB d = some b) : d = .bool b := by
  cases d <;> simp [asB] at h
  rw [h]
theorem pdb_cmp {op : CmpOp} (ho : OpR X (compareOp op) r) (h : OpD T r F) (ha : PD X C T a f) (hb : PD X C T b g) (hm : behindInMarks op b = false) : PDB X C T (.Compare a [op] [b] pos) (bOf (bin2 F f g)) := by
  refine PT.imp (pt_cmpR ho ha hb hm) fun σ H Q q => ?_
  obtain ⟨S, ρ, d, E, e, q⟩ := q
  obtain ⟨x, e1, e2⟩ := Option.bind_eq_some_iff.mp e
  obtain rfl := asB_some e2
  refine tOp_of h ⟨S, ρ, _, E, e1, fun v H' g d => ?_⟩
  cases d
  exact ⟨_, rfl, q H' g⟩
/-- a test whose value is a bool -/
theorem pdb_val {e : Expr} {f : En → Option PyData} (h : PD X C T e f) (he : ∀ whole, isTrue e X.env whole = (do let v ← whole; standAt e.pos; holding [v] (truthy v)) := by intro _; rfl) : PDB X C T e (bOf f) := by
  refine PT.imp (pt_val h he) fun σ H Q q => ?_
  obtain ⟨S, ρ, d, E, e, q⟩ := q
  obtain ⟨x, e1, e2⟩ := Option.bind_eq_some_iff.mp e
  obtain rfl := asB_some e2
  refine ⟨S, ρ, _, E, e1, fun v H' g d => ?_⟩
  cases d
  exact ⟨_, rfl, q H' g⟩
end
end DL
end
section
set_option maxHeartbeats 4000000
namespace DL
open PySem PySem.Spec PyProof.Rows L2
open GxR (TabB TabG Tabbed)

/-! ### what the operators compute -/
abbrev LIM : Nat := 1000
theorem lim_size {n : Nat} (h : n ≤ LIM) : n < sizeLine := small1000 h
theorem lim_le {n : Nat} (h : n ≤ LIM) : n ≤ sizeLine := Nat.le_of_lt (small1000 h)
def dAdd : PyData → PyData → Option PyData
  | .int i, .int j => some (.int (i + j))
  | .list xs, .list ys => if xs.length + ys.length ≤ LIM then some (.list (xs ++ ys)) else none
  | .tuple xs, .tuple ys => if xs.length + ys.length ≤ LIM then some (.tuple (xs ++ ys)) else none
  | _, _ => none
def dSub : PyData → PyData → Option PyData
  | .int i, .int j => some (.int (i - j))
  | _, _ => none
def sm (i : Int) : Bool := decide (-(2 ^ 64) < i) && decide (i < 2 ^ 64)
def dMul : PyData → PyData → Option PyData
  | .int i, .int j => if sm i || sm j then some (.int (i * j)) else none
  | .list xs, .int k => if k ≤ 64 && decide (xs.length ≤ 8) && decide (-100 < k) then some (.list (List.replicate k.toNat xs).flatten) else none
  | _, _ => none
def dFdv : PyData → PyData → Option PyData
  | .int i, .int j => if j ≠ 0 ∧ j.natAbs < 1073741824 then some (.int (i.fdiv j)) else none
  | _, _ => none
def dMod : PyData → PyData → Option PyData
  | .int i, .int j => if j ≠ 0 then some (.int (i.fmod j)) else none
  | _, _ => none
def dLt : PyData → PyData → Option PyData
  | .int i, .int j => some (.bool (decide (i < j)))
  | _, _ => none
def dLe : PyData → PyData → Option PyData
  | .int i, .int j => some (.bool (decide (i ≤ j)))
  | _, _ => none
def dGt : PyData → PyData → Option PyData
  | .int i, .int j => some (.bool (decide (j < i)))
  | _, _ => none
def dGe : PyData → PyData → Option PyData
  | .int i, .int j => some (.bool (decide (j ≤ i)))
  | _, _ => none
def dEq : PyData → PyData → Option PyData := fun a b => if SeqAt.shaped a && SeqAt.shaped b then some (.bool (PyData.eqv a b)) else none
def dNe : PyData → PyData → Option PyData := fun a b => if SeqAt.shaped a && SeqAt.shaped b then some (.bool (!PyData.eqv a b)) else none
def asInt : PyData → Option Int
  | .int i => some i
  | _ => none
def asInts : List PyData → Option (List Int)
  | [] => some []
  | .int i :: r => (asInts r).map (i :: ·)
  | _ :: _ => none
theorem asInts_some : ∀ {ds : List PyData} {ns : List Int}, asInts ds = some ns → ds = ns.map PyData.int
  | [], ns, h => by
    cases h
    rfl
  | d :: r, ns, h => by
    cases d <;> simp [asInts] at h
    obtain ⟨ms, h1, rfl⟩ := h
    rw [asInts_some h1]
    rfl
theorem asInts_map (ns : List Int) : asInts (ns.map PyData.int) = some ns := by
  induction ns with
  | nil => rfl
  | cons n ns ih => simp [asInts, ih]
/-- x in y -/
def dIn : PyData → PyData → Option PyData
  | .int i, .list ys => (asInts ys).map fun ns => .bool (ns.any fun n => n == i)
  | .int i, .tuple ys => (asInts ys).map fun ns => .bool (ns.any fun n => n == i)
  | .tuple xs, .list ys => if SeqAt.shaped (.tuple xs) && SeqAt.shaped (.list ys) then some (.bool (ys.any fun z => PyData.eqv z (.tuple xs))) else none
  | _, _ => none
def neg1 : PyData → Option PyData
  | .bool b => some (.bool (!b))
  | _ => none
def dNotIn : PyData → PyData → Option PyData := fun a b => (dIn a b).bind neg1
def dIsN : PyData → PyData → Option PyData
  | a, .none => some (.bool (match a with | .none => true | _ => false))
  | _, _ => none
def dNotN : PyData → PyData → Option PyData := fun a b => (dIsN a b).bind neg1
def dIx : PyData → PyData → Option PyData
  | .list xs, .int i => atI xs i
  | .tuple xs, .int i => atI xs i
  | _, _ => none

theorem ixN_lt {n : Nat} {i : Int} {j : Nat} (h : ixN n i = some j) : j < n := (ixN_seq h).2.1
theorem atI_get {S : Av} {H : Hp} {xs : List V} {ds : List PyData} {i : Int} {d : PyData} (h : DVs S H xs ds) (e : atI ds i = some d) : ∃ v, atI xs i = some v ∧ DV S H v d := by
  unfold atI at e ⊢
  rw [h.length]
  obtain ⟨j, e1, e2⟩ := Option.bind_eq_some_iff.mp e
  obtain ⟨v, h1, h2⟩ := h.get e2
  exact ⟨v, by rw [e1]; exact h1, h2⟩
theorem atI_nat {α : Type} (xs : List α) (j : Nat) : atI xs (j : Int) = xs[j]? := by
  unfold atI ixN
  rw [if_pos (by omega)]
  by_cases h : j < xs.length
  · rw [if_pos (by omega)]
    rfl
  · rw [if_neg (by omega), List.getElem?_eq_none (by omega)]
    rfl
theorem atI_neg1 {α : Type} (xs : List α) (h : xs ≠ []) : atI xs (-1) = xs[xs.length - 1]? := by
  have : 0 < xs.length := List.length_pos_iff.mpr h
  unfold atI ixN
  rw [if_neg (by omega), if_pos (by omega)]
  show xs[((-1 : Int) + (xs.length : Int)).toNat]? = _
  congr 1
  omega

section
variable {T : List Addr} {K : PySem.W.Frag}
theorem sm_iff {i : Int} (h : sm i = true) : -(2 ^ 64) < i ∧ i < 2 ^ 64 := by
  unfold sm at h
  rw [Bool.and_eq_true, decide_eq_true_eq, decide_eq_true_eq] at h
  exact h
theorem opd_add : OpD T (fun x y H Q => (rI0 (fun i j => V.int (i + j))) x y H Q ∨ rCat x y H Q ∨ rCatA K x y H Q) dAdd := by
  intro S H x y a b d Q so dx dy e q
  cases dx <;> cases dy <;> simp only [dAdd] at e <;> try contradiction
  · cases e
    exact .inl ⟨_, _, rfl, rfl, q _ _ .refl (.int _)⟩
  · rename_i h1 h2 h3 _ _ _ g1 g2 g3
    split at e
    · rename_i hl
      cases e
      refine .inr (.inl ⟨_, _, _, _, rfl, rfl, h2, g2, ?_, fun p hp => q _ _ (.new hp) (.newL so hp (h3.append g3))⟩)
      rw [h3.length, g3.length]
      exact lim_le hl
    · cases e
  · rename_i h1 h2 h3 _ _ _ g1 g2 g3
    split at e
    · rename_i hl
      cases e
      refine .inr (.inr ⟨_, _, _, _, rfl, rfl, .of h2, .of g2, ?_, fun z => ?_, fun z1 z2 => ?_, fun _ _ p hp => q _ _ (.new hp) (.newT so hp (h3.append g3))⟩)
      · rw [h3.length, g3.length]
        exact lim_le hl
      · subst z
        cases h3
        exact q _ _ .refl (.tup g1 g2 g3)
      · subst z2
        cases g3
        rw [List.append_nil] at q
        exact q _ _ .refl (.tup h1 h2 h3)
    · cases e
theorem opd_sub : OpD T (rI0 (fun i j => V.int (i - j))) dSub := by
  intro S H x y a b d Q so dx dy e q
  cases dx <;> cases dy <;> simp only [dSub] at e <;> try contradiction
  cases e
  exact ⟨_, _, rfl, rfl, q _ _ .refl (.int _)⟩
theorem DVs.flat {S : Av} {H : Hp} {xs : List V} {ds : List PyData} (h : DVs S H xs ds) : ∀ n : Nat, DVs S H (List.replicate n xs).flatten (List.replicate n ds).flatten
  | 0 => .nil
  | n + 1 => by
    rw [List.replicate_succ, List.replicate_succ, List.flatten_cons, List.flatten_cons]
    exact h.append (DVs.flat h n)
theorem opd_mul : OpD T (fun x y H Q => (rI CMul (fun i j => V.int (i * j))) x y H Q ∨ rRep x y H Q) dMul := by
  intro S H x y a b d Q so dx dy e q
  cases dx <;> cases dy <;> simp only [dMul] at e <;> try contradiction
  · split at e
    · rename_i hl
      cases e
      refine .inl ⟨_, _, rfl, rfl, ?_, q _ _ .refl (.int _)⟩
      rw [Bool.or_eq_true] at hl
      exact hl.imp sm_iff sm_iff
    · cases e
  · rename_i h1 h2 h3 k
    split at e
    · rename_i hl
      cases e
      simp only [Bool.and_eq_true, decide_eq_true_eq] at hl
      refine .inr ⟨_, _, _, rfl, rfl, h2, by omega, by omega, ?_, fun p hp => q _ _ (.new hp) (.newL so hp (h3.flat _))⟩
      rw [h3.length]
      have h5 := Nat.mul_le_mul hl.1.2 (show k.toNat ≤ 64 by omega)
      exact lim_le (Nat.le_trans h5 (by decide))
    · cases e
theorem opd_fdv : OpD T (rI CDivN (fun i j => V.int (i.fdiv j))) dFdv := by
  intro S H x y a b d Q so dx dy e q
  cases dx <;> cases dy <;> simp only [dFdv] at e <;> try contradiction
  split at e
  · rename_i hl
    cases e
    exact ⟨_, _, rfl, rfl, hl, q _ _ .refl (.int _)⟩
  · cases e
theorem opd_mod : OpD T (rI (fun _ j => j ≠ 0) (fun i j => V.int (i.fmod j))) dMod := by
  intro S H x y a b d Q so dx dy e q
  cases dx <;> cases dy <;> simp only [dMod] at e <;> try contradiction
  split at e
  · rename_i hl
    cases e
    exact ⟨_, _, rfl, rfl, hl, q _ _ .refl (.int _)⟩
  · cases e
theorem opd_lt : OpD T (rI0 (fun i j => V.bl (decide (i < j)))) dLt := by
  intro S H x y a b d Q so dx dy e q
  cases dx <;> cases dy <;> simp only [dLt] at e <;> try contradiction
  cases e
  exact ⟨_, _, rfl, rfl, q _ _ .refl (.bl _)⟩
theorem opd_le : OpD T (rI0 (fun i j => V.bl (decide (i ≤ j)))) dLe := by
  intro S H x y a b d Q so dx dy e q
  cases dx <;> cases dy <;> simp only [dLe] at e <;> try contradiction
  cases e
  exact ⟨_, _, rfl, rfl, q _ _ .refl (.bl _)⟩
theorem opd_gt : OpD T (rI0 (fun i j => V.bl (decide (j < i)))) dGt := by
  intro S H x y a b d Q so dx dy e q
  cases dx <;> cases dy <;> simp only [dGt] at e <;> try contradiction
  cases e
  exact ⟨_, _, rfl, rfl, q _ _ .refl (.bl _)⟩
theorem opd_ge : OpD T (rI0 (fun i j => V.bl (decide (j ≤ i)))) dGe := by
  intro S H x y a b d Q so dx dy e q
  cases dx <;> cases dy <;> simp only [dGe] at e <;> try contradiction
  cases e
  exact ⟨_, _, rfl, rfl, q _ _ .refl (.bl _)⟩
theorem opd_eq : OpD T (rEqD K) dEq := by
  intro S H x y a b d Q so dx dy e q
  unfold dEq at e
  split at e
  · rename_i h
    cases e
    rw [Bool.and_eq_true] at h
    exact ⟨a, b, dx.dp, dy.dp, h.1, h.2, q _ _ .refl (.bl _)⟩
  · cases e
theorem opd_ne : OpD T (rNeD K) dNe := by
  intro S H x y a b d Q so dx dy e q
  unfold dNe at e
  split at e
  · rename_i h
    cases e
    rw [Bool.and_eq_true] at h
    exact ⟨a, b, dx.dp, dy.dp, h.1, h.2, q _ _ .refl (.bl _)⟩
  · cases e
theorem flat_ints (ns : List Int) : (ns.map V.int).all flatV = true := by
  rw [List.all_eq_true]
  intro v hv
  obtain ⟨n, _, rfl⟩ := List.mem_map.mp hv
  rfl
theorem inV_ints (i : Int) (ns : List Int) : inV (.int i) (ns.map V.int) = ns.any fun n => n == i := by
  unfold inV
  rw [List.any_map]
  congr 1
/-- x in y and x not in y -/
theorem in_cases {S : Av} {H : Hp} {x y : V} {a b d : PyData} {Q : VK} {K : PySem.W.Frag} (neg : Bool) (dx : DV S H x a) (dy : DV S H y b) (e : dIn a b = some d) (q : ∀ c, d = .bool c → Q (.bl (if neg then !c else c)) H) :
    rIn K neg x y H Q ∨ ∃ d ds, Dp K H x d ∧ Dp K H y (.list ds) ∧ SeqAt.shaped d = true ∧ SeqAt.shaped (.list ds) = true ∧ Q (.bl (if neg then !(ds.any fun z => PyData.eqv z d) else (ds.any fun z => PyData.eqv z d))) H := by
  cases dx with
  | non => simp [dIn] at e
  | bl _ => simp [dIn] at e
  | str _ => simp [dIn] at e
  | lst _ _ _ => simp [dIn] at e
  | int i =>
    cases dy with
    | non => simp [dIn] at e
    | bl _ => simp [dIn] at e
    | str _ => simp [dIn] at e
    | int _ => simp [dIn] at e
    | lst h1 h2 h3 =>
      simp only [dIn] at e
      obtain ⟨ns, e1, rfl⟩ := Option.map_eq_some_iff.mp e
      rw [asInts_some e1] at h3
      have hx := DVs.ints_inv ns h3
      subst hx
      refine .inl ⟨_, _, rfl, .inl (.of h2), rfl, flat_ints ns, ?_⟩
      rw [inV_ints]
      exact q _ rfl
    | tup h1 h2 h3 =>
      simp only [dIn] at e
      obtain ⟨ns, e1, rfl⟩ := Option.map_eq_some_iff.mp e
      rw [asInts_some e1] at h3
      have hx := DVs.ints_inv ns h3
      subst hx
      refine .inl ⟨_, _, rfl, .inr (.of h2), rfl, flat_ints ns, ?_⟩
      rw [inV_ints]
      exact q _ rfl
  | tup h1 h2 h3 =>
    cases dy with
    | non => simp [dIn] at e
    | bl _ => simp [dIn] at e
    | str _ => simp [dIn] at e
    | int _ => simp [dIn] at e
    | tup _ _ _ => simp [dIn] at e
    | lst g1 g2 g3 =>
      simp only [dIn] at e
      split at e
      · rename_i hs
        cases e
        rw [Bool.and_eq_true] at hs
        exact .inr ⟨_, _, (DV.tup h1 h2 h3).dp, (DV.lst g1 g2 g3).dp, hs.1, hs.2, q _ rfl⟩
      · cases e
theorem opd_in : OpD T (fun x y H Q => rIn K false x y H Q ∨ rInD K x y H Q) dIn := by
  intro S H x y a b d Q so dx dy e q
  refine in_cases (K := K) false dx dy e fun c ec => ?_
  subst ec
  exact q _ _ .refl (.bl _)
theorem opd_notIn : OpD T (fun x y H Q => rIn K true x y H Q ∨ rNotInD K x y H Q) dNotIn := by
  intro S H x y a b d Q so dx dy e q
  unfold dNotIn at e
  obtain ⟨d', e1, e2⟩ := Option.bind_eq_some_iff.mp e
  refine in_cases (K := K) true dx dy e1 fun c ec => ?_
  subst ec
  cases e2
  exact q _ _ .refl (.bl _)
theorem opd_isN : OpD T (fun x y H Q => y = .non ∧ Q (.bl (decide (x = .non))) H) dIsN := by
  intro S H x y a b d Q so dx dy e q
  cases dy <;> try contradiction
  cases e
  refine ⟨rfl, ?_⟩
  cases dx <;> exact q _ _ .refl (.bl _)
theorem opd_notN : OpD T (fun x y H Q => y = .non ∧ Q (.bl (!decide (x = .non))) H) dNotN := by
  intro S H x y a b d Q so dx dy e q
  cases dy <;> try contradiction
  refine ⟨rfl, ?_⟩
  cases dx <;> cases e <;> exact q _ _ .refl (.bl _)
end

section
variable {X : Cx} {C : Addr} {T : List Addr} {a b c : Expr} {f g h : En → Option PyData} {pos : Pos}
/-! ### names and constants -/
def dVar (i : Nat) : En → Option PyData := fun ρ => ρ.sl[i]?.join
def dC (d : PyData) : En → Option PyData := fun _ => some d
theorem pd_imp {e : Expr} {f f' : En → Option PyData} (h : PD X C T e f) (k : ∀ ρ d, f' ρ = some d → f ρ = some d) : PD X C T e f' := PE.imp h fun σ H Q ⟨S, ρ, d, E, e, q⟩ => ⟨S, ρ, d, E, k ρ d e, q⟩
theorem pd_var {i : Nat} {x : Str} (h : PE X (.Name x pos) (tVar i)) : PD X C T (.Name x pos) (dVar i) := PE.imp h fun σ H Q ⟨S, ρ, d, E, e, q⟩ => by
  have e1 : ρ.sl[i]? = some (some d) := by
    unfold dVar at e
    cases z : ρ.sl[i]? with
    | none =>
      rw [z] at e
      cases e
    | some y =>
      rw [z] at e
      rw [show y = some d from e]
  obtain ⟨v, h1, h2⟩ := E.sl i d e1
  exact ⟨v, h1, q v H .refl h2⟩
theorem pd_int {i : Int} {j : Nat} : PD X C T (.Constant (.int i) j pos) (dC (.int i)) := PE.imp pe_int fun σ H Q ⟨S, ρ, d, E, e, q⟩ => by
  cases e
  exact q _ H .refl (.int i)
theorem pd_bl {b : Bool} {j : Nat} : PD X C T (.Constant (.bool b) j pos) (dC (.bool b)) := PE.imp pe_bl fun σ H Q ⟨S, ρ, d, E, e, q⟩ => by
  cases e
  exact q _ H .refl (.bl b)
theorem pd_non {j : Nat} : PD X C T (.Constant .none j pos) (dC .none) := PE.imp pe_non fun σ H Q ⟨S, ρ, d, E, e, q⟩ => by
  cases e
  exact q _ H .refl .non
theorem pd_str {x : Str} {j : Nat} : PD X C T (.Constant (.str x) j pos) (dC (.str x)) := PE.imp pe_str fun σ H Q ⟨S, ρ, d, E, e, q⟩ => by
  cases e
  exact q _ H .refl (.str x)
/-- a module's constant that is an int -/
theorem pd_glob {x : Str} {i : Int} (hg : Gl X x) (hm : ∃ t, X.mg x = some (.int i t)) (hd : (x == ("__debug__" : Str)) = false := by decide) : PD X C T (.Name x pos) (dC (.int i)) := by
  obtain ⟨t, hm⟩ := hm
  refine PE.imp (pe_glob (v := .int i) hg hm ⟨t, rfl⟩ hd) fun σ H Q ⟨S, ρ, d, E, e, q⟩ => ?_
  cases e
  exact q _ H .refl (.int i)
/-! ### operators -/
theorem pd_add (ha : PD X C T a f) (hb : PD X C T b g) : PD X C T (.BinOp a .Add b pos) (bin2 dAdd f g) := pd_bin (OpR.or op_add (OpR.or op_cat op_catA)) opd_add ha hb
theorem pd_sub (ha : PD X C T a f) (hb : PD X C T b g) : PD X C T (.BinOp a .Sub b pos) (bin2 dSub f g) := pd_bin op_sub opd_sub ha hb
theorem pd_mul (ha : PD X C T a f) (hb : PD X C T b g) : PD X C T (.BinOp a .Mult b pos) (bin2 dMul f g) := pd_bin (OpR.or op_mul op_rep) opd_mul ha hb
theorem pd_fdv (ha : PD X C T a f) (hb : PD X C T b g) : PD X C T (.BinOp a .FloorDiv b pos) (bin2 dFdv f g) := pd_bin op_fdivN opd_fdv ha hb
theorem pd_mod (ha : PD X C T a f) (hb : PD X C T b g) : PD X C T (.BinOp a .Mod b pos) (bin2 dMod f g) := pd_bin op_modN opd_mod ha hb
theorem pd_lt (ha : PD X C T a f) (hb : PD X C T b g) : PD X C T (.Compare a [.Lt] [b] pos) (bin2 dLt f g) := pd_cmp op_lt opd_lt ha hb (nomark _)
theorem pd_le (ha : PD X C T a f) (hb : PD X C T b g) : PD X C T (.Compare a [.LtE] [b] pos) (bin2 dLe f g) := pd_cmp op_le opd_le ha hb (nomark _)
theorem pd_gt (ha : PD X C T a f) (hb : PD X C T b g) : PD X C T (.Compare a [.Gt] [b] pos) (bin2 dGt f g) := pd_cmp op_gt opd_gt ha hb (nomark _)
theorem pd_ge (ha : PD X C T a f) (hb : PD X C T b g) : PD X C T (.Compare a [.GtE] [b] pos) (bin2 dGe f g) := pd_cmp op_ge opd_ge ha hb (nomark _)
theorem pd_eq {k : Nat} (hr : Room k X.A) (ha : PD X C T a f) (hb : PD X C T b g) : PD X C T (.Compare a [.Eq] [b] pos) (bin2 dEq f g) := pd_cmp (op_eqD hr.units) opd_eq ha hb (nomark _)
theorem pd_ne {k : Nat} (hr : Room k X.A) (ha : PD X C T a f) (hb : PD X C T b g) : PD X C T (.Compare a [.NotEq] [b] pos) (bin2 dNe f g) := pd_cmp (op_neD hr.units) opd_ne ha hb (nomark _)
theorem units65 {k : Nat} (hr : Room k X.A) : X.A.units + 65 < cLine := by have := hr.un; omega
theorem pd_in {k : Nat} (hr : Room k X.A) (ha : PD X C T a f) (hb : PD X C T b g) (hm : behindInMarks .In b = false := by with_unfolding_all rfl) : PD X C T (.Compare a [.In] [b] pos) (bin2 dIn f g) := pd_cmp (OpR.or op_in_seq (op_inD (units65 hr))) opd_in ha hb hm
theorem pd_notIn {k : Nat} (hr : Room k X.A) (ha : PD X C T a f) (hb : PD X C T b g) (hm : behindInMarks .NotIn b = false := by with_unfolding_all rfl) : PD X C T (.Compare a [.NotIn] [b] pos) (bin2 dNotIn f g) := pd_cmp (OpR.or op_notIn_seq (op_notInD (units65 hr))) opd_notIn ha hb hm
theorem pd_isN (ha : PD X C T a f) (hb : PD X C T b g) : PD X C T (.Compare a [.Is] [b] pos) (bin2 dIsN f g) := pd_cmp op_isN opd_isN ha hb (nomark _)
theorem pd_notN (ha : PD X C T a f) (hb : PD X C T b g) : PD X C T (.Compare a [.IsNot] [b] pos) (bin2 dNotN f g) := pd_cmp op_notN opd_notN ha hb (nomark _)
/-- the same as tests -/
theorem pt_lt (ha : PD X C T a f) (hb : PD X C T b g) : PDB X C T (.Compare a [.Lt] [b] pos) (bOf (bin2 dLt f g)) := pdb_cmp op_lt opd_lt ha hb (nomark _)
theorem pt_le (ha : PD X C T a f) (hb : PD X C T b g) : PDB X C T (.Compare a [.LtE] [b] pos) (bOf (bin2 dLe f g)) := pdb_cmp op_le opd_le ha hb (nomark _)
theorem pt_gt (ha : PD X C T a f) (hb : PD X C T b g) : PDB X C T (.Compare a [.Gt] [b] pos) (bOf (bin2 dGt f g)) := pdb_cmp op_gt opd_gt ha hb (nomark _)
theorem pt_ge (ha : PD X C T a f) (hb : PD X C T b g) : PDB X C T (.Compare a [.GtE] [b] pos) (bOf (bin2 dGe f g)) := pdb_cmp op_ge opd_ge ha hb (nomark _)
theorem pt_eq {k : Nat} (hr : Room k X.A) (ha : PD X C T a f) (hb : PD X C T b g) : PDB X C T (.Compare a [.Eq] [b] pos) (bOf (bin2 dEq f g)) := pdb_cmp (op_eqD hr.units) opd_eq ha hb (nomark _)
theorem pt_ne {k : Nat} (hr : Room k X.A) (ha : PD X C T a f) (hb : PD X C T b g) : PDB X C T (.Compare a [.NotEq] [b] pos) (bOf (bin2 dNe f g)) := pdb_cmp (op_neD hr.units) opd_ne ha hb (nomark _)
theorem pt_in {k : Nat} (hr : Room k X.A) (ha : PD X C T a f) (hb : PD X C T b g) (hm : behindInMarks .In b = false := by with_unfolding_all rfl) : PDB X C T (.Compare a [.In] [b] pos) (bOf (bin2 dIn f g)) := pdb_cmp (OpR.or op_in_seq (op_inD (units65 hr))) opd_in ha hb hm
theorem pt_notIn {k : Nat} (hr : Room k X.A) (ha : PD X C T a f) (hb : PD X C T b g) (hm : behindInMarks .NotIn b = false := by with_unfolding_all rfl) : PDB X C T (.Compare a [.NotIn] [b] pos) (bOf (bin2 dNotIn f g)) := pdb_cmp (OpR.or op_notIn_seq (op_notInD (units65 hr))) opd_notIn ha hb hm
theorem pt_isN (ha : PD X C T a f) (hb : PD X C T b g) : PDB X C T (.Compare a [.Is] [b] pos) (bOf (bin2 dIsN f g)) := pdb_cmp op_isN opd_isN ha hb (nomark _)
theorem pt_notN (ha : PD X C T a f) (hb : PD X C T b g) : PDB X C T (.Compare a [.IsNot] [b] pos) (bOf (bin2 dNotN f g)) := pdb_cmp op_notN opd_notN ha hb (nomark _)
/-! ### -1 -/
def dNeg (f : En → Option PyData) : En → Option PyData := fun ρ => (f ρ).bind fun
  | .int i => some (.int (-i))
  | _ => none
theorem pd_neg (ha : PD X C T a f) : PD X C T (.UnaryOp .USub a pos) (dNeg f) := PE.imp (pe_un un_neg ha) fun σ H Q ⟨S, ρ, d, E, e, q⟩ => by
  unfold dNeg at e
  obtain ⟨x, e1, e2⟩ := Option.bind_eq_some_iff.mp e
  refine ⟨S, ρ, x, E, e1, fun v H' g dv => ?_⟩
  cases dv <;> simp at e2
  subst e2
  exact ⟨_, rfl, q _ H' g (.int _)⟩
/-! ### a subscript -/
theorem pd_ix (ha : PD X C T a f) (hb : PD X C T b g) (hs : PlainIx b) : PD X C T (.Subscript a b pos) (bin2 dIx f g) := by
  refine PE.imp (pe_ix (IxR.or ix_list ix_tup) ha hb hs) fun σ H Q q => ?_
  refine tOp_of (F := dIx) (fun S H x y a b d Q so dx dy e q => ?_) q
  cases dx <;> try contradiction
  · rename_i h1 h2 h3
    cases dy <;> try contradiction
    obtain ⟨v, e1, e2⟩ := atI_get h3 e
    exact .inl ⟨_, _, _, v, rfl, rfl, .of h2, e1, q v H .refl e2⟩
  · rename_i h1 h2 h3
    cases dy <;> try contradiction
    obtain ⟨v, e1, e2⟩ := atI_get h3 e
    exact .inr ⟨_, _, _, v, rfl, rfl, .of h2, e1, q v H .refl e2⟩
end
end DL
end
section
set_option maxHeartbeats 4000000
namespace DL
open PySem PySem.Spec PyProof.Rows L2
open GxR (TabB TabG Tabbed)

/-! ### t[::-1] of a tuple -/
section
variable {prog : Program} {w : World} {A : Around} {E : Value → Shared → Prop} {s : Shared}
theorem sliceApplied_rev {sl : Addr} {vl vu vs : Value} {n : Nat} {Q : Int × Int × Nat → Shared → Prop} (hs : s.heap.IsSliceOf sl vl vu vs) (pl : IsPart vl none) (pu : IsPart vu none) (ps : IsPart vs (some (-1)))
    (h : Q ((n : Int) - 1, -1, n) s) : wpAny (model prog w) A (Builtin.Slice.sliceApplied (.ref sl) (pure (n : Int))) Q E s := by
  obtain ⟨os, hos, hcs, hds⟩ := id hs
  unfold Builtin.Slice.sliceApplied Builtin.Slice.sliceFields
  refine wpAny_bind (wpAny_bind (wpAny_field hos hds (x := vl) rfl (wpAny_bind (wpAny_field hos hds (x := vu) rfl (wpAny_bind (wpAny_field hos hds (x := vs) rfl (wpAny_pure ?_)))))))
  refine wpAny_bind (HT.slicePart_ ps ?_)
  show wpAny _ _ (if ((-1 : Int) == 0) = true then _ else _) _ _ s
  rw [if_neg (by decide)]
  refine wpAny_bind (HT.slicePart_ pl (wpAny_bind (HT.slicePart_ pu (wpAny_bind (wpAny_pure ?_)))))
  show wpAny _ _ (match Builtin.Slice.sliceAdjust none none (-1) (n : Int) with | (lo, hi) => pure (lo, (-1 : Int), Builtin.Slice.slicePlaces lo hi (-1))) _ _ s
  have e1 : Builtin.Slice.sliceAdjust none none (-1) (n : Int) = ((n : Int) - 1, -1) := by
    unfold Builtin.Slice.sliceAdjust
    rfl
  rw [e1]
  show wpAny _ _ (pure ((n : Int) - 1, (-1 : Int), Builtin.Slice.slicePlaces ((n : Int) - 1) (-1) (-1))) _ _ s
  have e2 : Builtin.Slice.slicePlaces ((n : Int) - 1) (-1) (-1) = n := by
    unfold Builtin.Slice.slicePlaces
    have h1 : ¬ ((-1 : Int) > 0) := by omega
    simp only [h1, if_false]
    split
    · have : ((n : Int) - 1 - -1 - 1) / (- -1) + 1 = (n : Int) := by
        rw [show (- -1 : Int) = 1 by decide, Int.ediv_one]
        omega
      first
        | (rw [this]; rfl)
        | omega
    · omega
  rw [e2]
  exact wpAny_pure h
theorem fm_congr {α β : Type} {f g : α → Option β} : ∀ {l : List α}, (∀ x ∈ l, f x = g x) → l.filterMap f = l.filterMap g
  | [], _ => rfl
  | a :: l, h => by
    rw [List.filterMap_cons, List.filterMap_cons, h a List.mem_cons_self, fm_congr (l := l) fun x hx => h x (List.mem_cons_of_mem _ hx)]
theorem pick_rev (xs : Array Value) : ((List.range xs.size).filterMap fun (m : Nat) => xs[((xs.size : Int) - 1 + (m : Int) * (-1)).toNat]?).toArray = xs.toList.reverse.toArray := by
  have h := PySem.W.krv_pick xs
  rw [← h]
  unfold slicePick
  rw [PySem.W.krv_bounds]
  show _ = ((sliceRange ((xs.size : Int) - 1) (-1) (-1)).filterMap (xs[·]?)).toArray
  rw [PySem.W.krv_sliceRange, List.filterMap_map]
  congr 1
  apply fm_congr
  intro m hm
  have := List.mem_range.mp hm
  show xs[((xs.size : Int) - 1 + (m : Int) * (-1)).toNat]? = xs[xs.size - 1 - m]?
  congr 1
  omega
theorem getItem_tuple_rev {t sl : Addr} {items : Array Value} {vl vu vs : Value} {Q : Value → Shared → Prop} (ht : IsTup s.heap t items) (hs : s.heap.IsSliceOf sl vl vu vs) (pl : IsPart vl none) (pu : IsPart vu none) (ps : IsPart vs (some (-1)))
    (h : Q (.ref s.heap.objs.size) { s with heap := s.heap.push { cls := .type "tuple", data := .seq items.toList.reverse.toArray } })
    (hsz : items.size ≤ sizeLine) : wpAny (model prog w) A (getItem (.ref t) (.ref sl)) Q E s := by
  have htake : sizeOk (.seq items.toList.reverse.toArray) := by
    show items.toList.reverse.toArray.size ≤ sizeLine
    rw [List.size_toArray, List.length_reverse, Array.length_toList]
    omega
  obtain ⟨os, hos, hcs, hds⟩ := id hs
  have hTs : s.TypeIs (.ref sl) "slice" := ⟨os, hos, hcs⟩
  unfold getItem
  try with_reducible refine wpAny_holding ?_
  first | refine wpAny_bind (wpAny_pure ?_) | skip
  refine wpAny_bind (wpAny_sequenceKey ht.typeIs (by decide) ?_)
  refine wpAny_bind (wpAny_callSpecial?_slot (name := Str.ofString "__getitem__") ht.typeIs PyProof.Rows.slot_tuple_getitem
    (wpAny_call_entry PyProof.Rows.slot_tuple_getitem ht.typeIs entry_tuple_getitem ?_ (args_tuple_getitem _ _)))
  show wpAny _ _ (Builtin.Tuple.tupleItemsOf (.ref t) >>= _) _ _ s
  refine wpAny_bind (tupleItemsOf_ ht ?_)
  refine wpAny_bind (wpAny_typeOf hTs ?_)
  rw [if_pos (by decide)]
  refine wpAny_bind (sliceApplied_rev hs pl pu ps ?_)
  have hno : ¬ (((((items.size : Nat) : Int) - 1) == 0 && (-1 : Int) == 1 && items.size == items.size) = true) := by
    intro q
    rw [Bool.and_eq_true, Bool.and_eq_true] at q
    exact absurd q.1.2 (by decide)
  show wpAny _ _ (if ((((items.size : Nat) : Int) - 1) == 0 && (-1 : Int) == 1 && items.size == items.size) = true then _ else _) _ _ s
  rw [if_neg hno, pick_rev]
  first
    | exact wpAny_bind (m := Builtin.Tuple.tupleExact _) (wpAny_newObj_type (wpAny_pure ⟨_, rfl, wpAny_pure h⟩) htake)
    | exact wpAny_bind (m := Builtin.Tuple.tupleExact _) (wpAny_newObj_type (wpAny_bind (wpAny_pure (wpAny_pure ⟨_, rfl, wpAny_pure h⟩))) htake)
    | exact wpAny_bind (wpAny_bind (m := Builtin.Tuple.tupleExact _) (wpAny_newObj_type (wpAny_pure (wpAny_pure ⟨_, rfl, wpAny_pure h⟩)) htake))
    | exact wpAny_bind (wpAny_bind (m := Builtin.Tuple.tupleExact _) (wpAny_newObj_type (wpAny_pure ⟨_, rfl, wpAny_pure h⟩) htake))
end
section
variable {X : Cx}
def tRevT (K : PySem.W.Frag) (te : TE) : TE := fun σ H Q => te σ H fun x H1 => ∃ a xs, x = .ref a ∧ SqT K H1 a xs ∧ ∀ p, H1 p = none → Q (.ref p) (upd H1 p (.tup xs.reverse))
theorem pe_revT {e : Expr} {te : TE} {k : Nat} {p1 p2 p3 pos : Pos} (he : PE X e te) : PE X (.Subscript e (.Slice none none (some (.UnaryOp .USub (.Constant (.int 1) k p1) p2)) p3) pos) (tRevT X.K te) := by
  refine ⟨fun pins s σ H Q I h => ?_⟩
  refine Subscript_ (thn (he.run pins s σ H _ I h) fun v s1 ⟨x, H1, I1, r1, q1⟩ => ?_)
  obtain ⟨a, xs, ex, hx, q⟩ := q1
  subst ex
  cases r1
  have hst : PO X (some (.UnaryOp .USub (.Constant (.int 1) k p1) p2)) (tPart (tUn (rU fun i => .int (-i)) (tC (.int 1)))) := po_some (pe_un un_neg pe_int)
  refine wpAny_Slice (thn (po_none.run pins s1 σ H1 (fun o H2 => o = none ∧ H2 = H1) I1 ⟨rfl, rfl⟩) fun vl s2 ⟨l, H2, I2, pl, el, e2⟩ => ?_)
  subst el e2
  refine thn (po_none.run pins s2 σ H2 (fun o H3 => o = none ∧ H3 = H2) I2 ⟨rfl, rfl⟩) fun vu s3 ⟨u, H3, I3, pu, eu, e3⟩ => ?_
  subst eu e3
  refine thn (hst.run pins s3 σ H3 (fun o H4 => o = some (-1) ∧ H4 = H3) I3 ⟨1, rfl, -1, rfl, rfl, rfl⟩) fun vs s4 ⟨o, H4, I4, ps, eo, e4⟩ => ?_
  subst eo e4
  have I5 : Inv X pins σ H4 { s4 with heap := s4.heap.push { cls := .type "slice", data := .fields #[vl, vu, vs] } } := I4.kept (t' := s4.toks) fun b ob q => Heap.get?_push_of_some _ q
  obtain ⟨its, r, ht, hz⟩ := I5.tuple hx
  have hlen := r.length
  show wpAny (model X.prog X.w) X.A (subscriptTail e (.Slice none none (some (.UnaryOp .USub (.Constant (.int 1) k p1) p2)) p3) (.ref a) (.ref s4.heap.objs.size)) (EP X pins σ Q) X.xe { s4 with heap := s4.heap.push { cls := .type "slice", data := .fields #[vl, vu, vs] } }
  refine tail_any (ops := [.ref a, .ref s4.heap.objs.size]) ht.typeIs (PyProof.Rows.slot_tuple_getitem.lookup) ?_ (by with_unfolding_all rfl)
  refine getItem_tuple_rev ht (Heap.IsSliceOf.new _ vl vu vs) pl pu ps ?_ (by rw [List.size_toArray]; omega)
  refine ⟨.ref _, _, I5.laid (t' := s4.toks) (o := .tup xs.reverse) (fun b ob q => Heap.get?_push_of_some _ q) (Nat.le_refl _) ?_, rfl, q _ (I5.hok.fresh (Nat.le_refl _))⟩
  exact ⟨by rw [List.length_reverse]; exact hz, _, r.reverse, ⟨_, Heap.get?_push_size _ rfl, rfl, _, rfl⟩⟩
end
end DL
end
section
set_option maxHeartbeats 4000000
namespace DL
open PySem PySem.Spec PyProof.Rows L2
open GxR (TabB TabG Tabbed)
section
variable {X : Cx} {C : Addr} {T : List Addr} {a b c : Expr} {f g h : En → Option PyData} {pos : Pos} {t u : En → Option Bool} {rest : List Expr}
/-! ### and, or, not, if -/
abbrev PWB (X : Cx) (C : Addr) (T : List Addr) (e : Expr) (f : En → Option Bool) : Prop := PW X e (tDB C T f)
def bAnd (t u : En → Option Bool) : En → Option Bool := fun ρ => (t ρ).bind fun c => if c = true then u ρ else some false
def bOr (t u : En → Option Bool) : En → Option Bool := fun ρ => (t ρ).bind fun c => if c = true then some true else u ρ
def bNot (t : En → Option Bool) : En → Option Bool := fun ρ => (t ρ).map (!·)
theorem ptb_of (h : PWB X C T a t) : PDB X C T a t := h.pt
theorem pwb_and1 (ha : PDB X C T a t) : PWB X C T (.BoolOp .And [a] pos) t := pw_and1 ha
theorem pwb_or1 (ha : PDB X C T a t) : PWB X C T (.BoolOp .Or [a] pos) t := pw_or1 ha
theorem pwb_and (ha : PDB X C T a t) (hb : PWB X C T (.BoolOp .And (b :: rest) pos) u) : PWB X C T (.BoolOp .And (a :: b :: rest) pos) (bAnd t u) := by
  refine PW.imp (pw_and ha hb) fun σ H Q ⟨S, ρ, d, E, e, q⟩ => ?_
  obtain ⟨c, e1, e2⟩ := Option.bind_eq_some_iff.mp e
  refine ⟨S, ρ, c, E, e1, fun H1 g1 => ?_⟩
  cases c with
  | true => exact ⟨S, ρ, d, E.grow g1, e2, fun H2 g2 => q H2 (g1.trans g2)⟩
  | false =>
    cases e2
    exact q H1 g1
theorem pwb_or (ha : PDB X C T a t) (hb : PWB X C T (.BoolOp .Or (b :: rest) pos) u) : PWB X C T (.BoolOp .Or (a :: b :: rest) pos) (bOr t u) := by
  refine PW.imp (pw_or ha hb) fun σ H Q ⟨S, ρ, d, E, e, q⟩ => ?_
  obtain ⟨c, e1, e2⟩ := Option.bind_eq_some_iff.mp e
  refine ⟨S, ρ, c, E, e1, fun H1 g1 => ?_⟩
  cases c with
  | false => exact ⟨S, ρ, d, E.grow g1, e2, fun H2 g2 => q H2 (g1.trans g2)⟩
  | true =>
    cases e2
    exact q H1 g1
theorem ptb_not (ha : PDB X C T a t) : PDB X C T (.UnaryOp .Not a pos) (bNot t) := by
  refine PT.imp (pt_not ha) fun σ H Q ⟨S, ρ, d, E, e, q⟩ => ?_
  obtain ⟨c, e1, rfl⟩ := Option.map_eq_some_iff.mp e
  exact ⟨S, ρ, c, E, e1, fun H1 g1 => q H1 g1⟩
/-- as values (bools) -/
def vAnd (f g : En → Option PyData) : En → Option PyData := fun ρ => ((f ρ).bind asB).bind fun c => if c = true then g ρ else some (.bool false)
def vOr (f g : En → Option PyData) : En → Option PyData := fun ρ => ((f ρ).bind asB).bind fun c => if c = true then some (.bool true) else g ρ
def vNot (f : En → Option PyData) : En → Option PyData := fun ρ => (f ρ).bind neg1
theorem pd_one {op} (ha : PD X C T a f) : PD X C T (.BoolOp op [a] pos) f := pe_one ha
theorem pd_and (ha : PD X C T a f) (hb : PD X C T (.BoolOp .And (b :: rest) pos) g) : PD X C T (.BoolOp .And (a :: b :: rest) pos) (vAnd f g) := by
  refine PE.imp (pe_and ha hb) fun σ H Q ⟨S, ρ, d, E, e, q⟩ => ?_
  obtain ⟨c, e1, e2⟩ := Option.bind_eq_some_iff.mp e
  obtain ⟨x, e0, e1⟩ := Option.bind_eq_some_iff.mp e1
  obtain rfl := asB_some e1
  refine ⟨S, ρ, _, E, e0, fun v H1 g1 dv => ?_⟩
  cases dv
  refine ⟨c, rfl, ?_⟩
  cases c with
  | true => exact ⟨S, ρ, d, E.grow g1, e2, fun v H2 g2 dv => q v H2 (g1.trans g2) dv⟩
  | false =>
    cases e2
    exact q _ H1 g1 (.bl _)
theorem pd_or (ha : PD X C T a f) (hb : PD X C T (.BoolOp .Or (b :: rest) pos) g) : PD X C T (.BoolOp .Or (a :: b :: rest) pos) (vOr f g) := by
  refine PE.imp (pe_or ha hb) fun σ H Q ⟨S, ρ, d, E, e, q⟩ => ?_
  obtain ⟨c, e1, e2⟩ := Option.bind_eq_some_iff.mp e
  obtain ⟨x, e0, e1⟩ := Option.bind_eq_some_iff.mp e1
  obtain rfl := asB_some e1
  refine ⟨S, ρ, _, E, e0, fun v H1 g1 dv => ?_⟩
  cases dv
  refine ⟨c, rfl, ?_⟩
  cases c with
  | false => exact ⟨S, ρ, d, E.grow g1, e2, fun v H2 g2 dv => q v H2 (g1.trans g2) dv⟩
  | true =>
    cases e2
    exact q _ H1 g1 (.bl _)
theorem pd_not (ha : PD X C T a f) : PD X C T (.UnaryOp .Not a pos) (vNot f) := by
  refine PE.imp (pe_not ha) fun σ H Q ⟨S, ρ, d, E, e, q⟩ => ?_
  obtain ⟨x, e1, e2⟩ := Option.bind_eq_some_iff.mp e
  refine ⟨S, ρ, x, E, e1, fun v H1 g1 dv => ?_⟩
  cases dv <;> simp [neg1] at e2
  subst e2
  exact ⟨_, rfl, q _ H1 g1 (.bl _)⟩
def dIf (t : En → Option Bool) (f g : En → Option PyData) : En → Option PyData := fun ρ => (t ρ).bind fun c => if c = true then f ρ else g ρ
theorem pd_if (hc : PDB X C T c t) (ha : PD X C T a f) (hb : PD X C T b g) : PD X C T (.IfExp c a b pos) (dIf t f g) := by
  refine PE.imp (pe_ifExp hc ha hb) fun σ H Q ⟨S, ρ, d, E, e, q⟩ => ?_
  obtain ⟨k, e1, e2⟩ := Option.bind_eq_some_iff.mp e
  refine ⟨S, ρ, k, E, e1, fun H1 g1 => ?_⟩
  cases k with
  | true => exact ⟨S, ρ, d, E.grow g1, e2, fun v H2 g2 dv => q v H2 (g1.trans g2) dv⟩
  | false => exact ⟨S, ρ, d, E.grow g1, e2, fun v H2 g2 dv => q v H2 (g1.trans g2) dv⟩
/-- truth of a list -/
def dTruL (f : En → Option PyData) : En → Option Bool := fun ρ => (f ρ).bind fun
  | .list ds => some (!ds.isEmpty)
  | _ => none
theorem pdb_truth (ha : PD X C T a f) (he : ∀ whole, isTrue a X.env whole = (do let v ← whole; standAt a.pos; holding [v] (truthy v)) := by intro _; rfl) : PDB X C T a (dTruL f) := by
  refine PT.imp (pt_truth ha he) fun σ H Q ⟨S, ρ, d, E, e, q⟩ => ?_
  obtain ⟨x, e1, e2⟩ := Option.bind_eq_some_iff.mp e
  refine ⟨S, ρ, x, E, e1, fun v H1 g1 dv => ?_⟩
  cases dv <;> cases e2
  rename_i h1 h2 h3
  refine ⟨_, .inl ⟨_, .of h2, rfl⟩, ?_⟩
  have q' := q H1 g1
  cases h3 <;> exact q'
/-! ### argument lists and displays -/
def sNil : En → Option (List PyData) := fun _ => some []
def sCons (f : En → Option PyData) (fs : En → Option (List PyData)) : En → Option (List PyData) := fun ρ => (f ρ).bind fun d => (fs ρ).map (d :: ·)
def items : PyData → Option (List PyData)
  | .list ds => some ds
  | .tuple ds => some ds
  | _ => none
def sStar (f : En → Option PyData) (fs : En → Option (List PyData)) : En → Option (List PyData) := fun ρ => ((f ρ).bind items).bind fun ds => (fs ρ).map (ds ++ ·)
variable {e : Expr} {es : List Expr} {fs : En → Option (List PyData)}
theorem pds_nil : PDs X C T [] sNil := PA.imp pa_nil fun σ H Q ⟨S, ρ, d, E, e, q⟩ => by
  cases e
  exact q [] H .refl .nil
theorem pds_cons (ha : PD X C T e f) (hr : PDs X C T es fs) (hs : starEach (e :: es) X.env = (false, eval e X.env) :: starEach es X.env := by rfl) : PDs X C T (e :: es) (sCons f fs) := by
  refine PA.imp (pa_cons ha hr hs) fun σ H Q ⟨S, ρ, d, E, e, q⟩ => ?_
  obtain ⟨x, e1, e2⟩ := Option.bind_eq_some_iff.mp e
  obtain ⟨xs, e3, rfl⟩ := Option.map_eq_some_iff.mp e2
  refine ⟨S, ρ, x, E, e1, fun v H1 g1 dv => ⟨S, ρ, xs, E.grow g1, e3, fun vs H2 g2 dvs => ?_⟩⟩
  exact q _ H2 (g1.trans g2) (.cons (dv.grow g2) dvs)
theorem pds_star {p : Pos} (ha : PD X C T e f) (hr : PDs X C T es fs) (hs : starEach (.Starred e p :: es) X.env = (true, eval e X.env) :: starEach es X.env := by rfl) : PDs X C T (.Starred e p :: es) (sStar f fs) := by
  refine PA.imp (StX.pa_star ha hr hs) fun σ H Q ⟨S, ρ, d, E, e, q⟩ => ?_
  obtain ⟨x, e1, e2⟩ := Option.bind_eq_some_iff.mp e
  obtain ⟨y, e0, e1⟩ := Option.bind_eq_some_iff.mp e1
  obtain ⟨xs, e3, rfl⟩ := Option.map_eq_some_iff.mp e2
  refine ⟨S, ρ, y, E, e0, fun v H1 g1 dv => ?_⟩
  cases dv <;> simp [items] at e1
  · rename_i h1 h2 h3
    subst e1
    exact ⟨_, _, rfl, .inr (.of h2), S, ρ, xs, E.grow g1, e3, fun vs H2 g2 dvs => q _ H2 (g1.trans g2) ((h3.grow g2).append dvs)⟩
  · rename_i h1 h2 h3
    subst e1
    exact ⟨_, _, rfl, .inl (.of h2), S, ρ, xs, E.grow g1, e3, fun vs H2 g2 dvs => q _ H2 (g1.trans g2) ((h3.grow g2).append dvs)⟩
def dTup (fs : En → Option (List PyData)) : En → Option PyData := fun ρ => (fs ρ).bind fun ds => if ds.length ≤ LIM then some (.tuple ds) else none
def dLst (fs : En → Option (List PyData)) : En → Option PyData := fun ρ => (fs ρ).bind fun ds => if ds.length ≤ LIM then some (.list ds) else none
theorem pd_tup {x1} (h : PDs X C T es fs) : PD X C T (.Tuple es x1 pos) (dTup fs) := by
  refine PE.imp (pe_tup h) fun σ H Q ⟨S, ρ, d, E, e, q⟩ => ?_
  obtain ⟨x, e1, e2⟩ := Option.bind_eq_some_iff.mp e
  split at e2
  · rename_i hl
    cases e2
    refine ⟨S, ρ, x, E, e1, fun vs H1 g1 dv => ⟨by rw [dv.length]; exact lim_le hl, fun p hp => q _ _ (g1.trans (.new hp)) (.newT (E.sok.grow g1) hp dv)⟩⟩
  · cases e2
theorem pd_lst (h : PDs X C T es fs) : PD X C T (.List es pos) (dLst fs) := by
  refine PE.imp (pe_lst h) fun σ H Q ⟨S, ρ, d, E, e, q⟩ => ?_
  obtain ⟨x, e1, e2⟩ := Option.bind_eq_some_iff.mp e
  split at e2
  · rename_i hl
    cases e2
    refine ⟨S, ρ, x, E, e1, fun vs H1 g1 dv => ⟨by rw [dv.length]; exact lim_le hl, fun p hp => q _ _ (g1.trans (.new hp)) (.newL (E.sok.grow g1) hp dv)⟩⟩
  · cases e2
/-! ### built-ins called with one argument -/
def dFun (F : PyData → Option PyData) (f : En → Option PyData) : En → Option PyData := fun ρ => (f ρ).bind F
def FnD (T : List Addr) (r : List V → Hp → VK → Prop) (F : PyData → Option PyData) : Prop :=
  ∀ (S : Av) (H : Hp) (x : V) (a d : PyData) (Q : VK), SOk S H → DV S H x a → F a = some d → (∀ v H', Grow T H H' → DV S H' v d → Q v H') → r [x] H Q
theorem tCB_of {r : List V → Hp → VK → Prop} {F : PyData → Option PyData} (h : FnD T r F) {σ : List (Option V)} {H : Hp} {Q : VK} (q : tD C T (dFun F f) σ H Q) : tCB r (tDs C T (sCons f sNil)) σ H Q := by
  obtain ⟨S, ρ, d, E, e, q⟩ := q
  obtain ⟨x, e1, e2⟩ := Option.bind_eq_some_iff.mp e
  refine ⟨S, ρ, [x], E, ?_, fun vs H1 g1 dvs => ?_⟩
  · unfold sCons sNil
    rw [e1]
    rfl
  · cases dvs with
    | cons dv r =>
      cases r
      exact h S H1 _ x d Q (E.sok.grow g1) dv e2 fun v H2 g2 dv2 => q v H2 (g1.trans g2) dv2
def fLen : PyData → Option PyData
  | .list ds => some (.int ds.length)
  | .tuple ds => some (.int ds.length)
  | _ => none
theorem fnd_len {K : PySem.W.Frag} : FnD T (fun xs H Q => ∃ p ys, xs = [.ref p] ∧ (SqL K H p ys ∨ SqT K H p ys) ∧ Q (.int ys.length) H) fLen := by
  intro S H x a d Q so dv e q
  cases dv <;> simp [fLen] at e
  · rename_i h1 h2 h3
    subst e
    refine ⟨_, _, rfl, .inl (.of h2), ?_⟩
    rw [h3.length]
    exact q _ _ .refl (.int _)
  · rename_i h1 h2 h3
    subst e
    refine ⟨_, _, rfl, .inr (.of h2), ?_⟩
    rw [h3.length]
    exact q _ _ .refl (.int _)
theorem pd_len {p : Pos} (hg : Gl X "len") (hm : X.mg "len" = none) (ha : PD X C T a f) (he : starEach (a :: []) X.env = (false, eval a X.env) :: starEach [] X.env := by rfl) : PD X C T (.Call (.Name "len" p) [a] [] pos) (dFun fLen f) :=
  PE.imp (pe_callB call_len_seq hg hm PySem.boot_len (pds_cons ha pds_nil he) (he := he)) fun σ H Q q => tCB_of fnd_len q
def fList : PyData → Option PyData
  | .list ds => some (.list ds)
  | .tuple ds => some (.list ds)
  | _ => none
theorem fnd_list {K : PySem.W.Frag} : FnD T (fun xs H Q => ∃ p ys, xs = [.ref p] ∧ (SqL K H p ys ∨ SqT K H p ys) ∧ ∀ l, H l = none → Q (.ref l) (upd H l (.lst ys))) fList := by
  intro S H x a d Q so dv e q
  cases dv <;> simp [fList] at e
  · rename_i h1 h2 h3
    subst e
    exact ⟨_, _, rfl, .inl (.of h2), fun l hl => q _ _ (.new hl) (.newL so hl h3)⟩
  · rename_i h1 h2 h3
    subst e
    exact ⟨_, _, rfl, .inr (.of h2), fun l hl => q _ _ (.new hl) (.newL so hl h3)⟩
theorem pd_list {p : Pos} (hg : Gl X "list") (hm : X.mg "list" = none) (ha : PD X C T a f) (hb : bootBuiltins "list" = some (.type "list") := by decide +kernel) (he : starEach (a :: []) X.env = (false, eval a X.env) :: starEach [] X.env := by rfl) : PD X C T (.Call (.Name "list" p) [a] [] pos) (dFun fList f) :=
  PE.imp (pe_callTy call_list_of hg hm hb (pds_cons ha pds_nil he) (he := he)) fun σ H Q q => tCB_of fnd_list q
def fTup : PyData → Option PyData
  | .list ds => some (.tuple ds)
  | .tuple ds => some (.tuple ds)
  | _ => none
theorem fnd_tup {K : PySem.W.Frag} : FnD T (fun xs H Q => ∃ p ys, xs = [.ref p] ∧ ((SqL K H p ys ∧ ∀ l, H l = none → Q (.ref l) (upd H l (.tup ys))) ∨ (SqT K H p ys ∧ Q (.ref p) H))) fTup := by
  intro S H x a d Q so dv e q
  cases dv <;> simp [fTup] at e
  · rename_i h1 h2 h3
    subst e
    exact ⟨_, _, rfl, .inl ⟨.of h2, fun l hl => q _ _ (.new hl) (.newT so hl h3)⟩⟩
  · rename_i h1 h2 h3
    subst e
    exact ⟨_, _, rfl, .inr ⟨.of h2, q _ _ .refl (.tup h1 h2 h3)⟩⟩
theorem pd_tuple {p : Pos} (hg : Gl X "tuple") (hm : X.mg "tuple" = none) (ha : PD X C T a f) (hb : bootBuiltins "tuple" = some (.type "tuple") := by decide +kernel) (he : starEach (a :: []) X.env = (false, eval a X.env) :: starEach [] X.env := by rfl) : PD X C T (.Call (.Name "tuple" p) [a] [] pos) (dFun fTup f) :=
  PE.imp (pe_callTy call_tuple_of hg hm hb (pds_cons ha pds_nil he) (he := he)) fun σ H Q q => tCB_of fnd_tup q
def fInt : PyData → Option PyData
  | .int i => some (.int i)
  | .bool b => some (.int (if b then 1 else 0))
  | _ => none
theorem fnd_int : FnD T (fun xs H Q => (∃ i, xs = [.int i] ∧ Q (.int i) H) ∨ ∃ k, xs = [.bl k] ∧ Q (.int (if k then 1 else 0)) H) fInt := by
  intro S H x a d Q so dv e q
  cases dv <;> simp [fInt] at e
  · subst e
    exact .inr ⟨_, rfl, q _ _ .refl (.int _)⟩
  · subst e
    exact .inl ⟨_, rfl, q _ _ .refl (.int _)⟩
theorem pd_intc {p : Pos} (hg : Gl X "int") (hm : X.mg "int" = none) (ha : PD X C T a f) (hb : bootBuiltins "int" = some (.type "int") := by decide +kernel) (he : starEach (a :: []) X.env = (false, eval a X.env) :: starEach [] X.env := by rfl) : PD X C T (.Call (.Name "int" p) [a] [] pos) (dFun fInt f) :=
  PE.imp (pe_callTy call_int1 hg hm hb (pds_cons ha pds_nil he) (he := he)) fun σ H Q q => tCB_of fnd_int q
def fAbs : PyData → Option PyData
  | .int i => some (.int (if i < 0 then -i else i))
  | _ => none
theorem fnd_abs : FnD T (fun xs H Q => ∃ i, xs = [.int i] ∧ Q (.int (if i < 0 then -i else i)) H) fAbs := by
  intro S H x a d Q so dv e q
  cases dv <;> simp [fAbs] at e
  subst e
  exact ⟨_, rfl, q _ _ .refl (.int _)⟩
theorem pd_abs {p : Pos} (hg : Gl X "abs") (hm : X.mg "abs" = none) (ha : PD X C T a f) (hb : bootBuiltins "abs" = some (.builtin "abs") := by decide +kernel) (he : starEach (a :: []) X.env = (false, eval a X.env) :: starEach [] X.env := by rfl) : PD X C T (.Call (.Name "abs" p) [a] [] pos) (dFun fAbs f) :=
  PE.imp (pe_callB call_abs hg hm hb (pds_cons ha pds_nil he) (he := he)) fun σ H Q q => tCB_of fnd_abs q
def fSum : PyData → Option PyData
  | .list ds => (asInts ds).map fun ns => .int ns.sum
  | _ => none
theorem fnd_sum {K : PySem.W.Frag} : FnD T (rSum K) fSum := by
  intro S H x a d Q so dv e q
  cases dv <;> simp only [fSum] at e <;> try contradiction
  rename_i h1 h2 h3
  obtain ⟨ns, e1, rfl⟩ := Option.map_eq_some_iff.mp e
  rw [asInts_some e1] at h3
  have hx := DVs.ints_inv ns h3
  subst hx
  exact ⟨_, ns, rfl, .of h2, q _ _ .refl (.int _)⟩
theorem pd_sum {p : Pos} (hc : X.calm = true) (hg : Gl X "sum") (hm : X.mg "sum" = none) (ha : PD X C T a f) (hb : bootBuiltins "sum" = some (.builtin "sum") := by decide +kernel) (he : starEach (a :: []) X.env = (false, eval a X.env) :: starEach [] X.env := by rfl) : PD X C T (.Call (.Name "sum" p) [a] [] pos) (dFun fSum f) :=
  PE.imp (pe_callB (cr_sum hc) hg hm hb (pds_cons ha pds_nil he) (he := he)) fun σ H Q q => tCB_of fnd_sum q
/-- the greatest, the least of a list of ints -/
def maxI : List Int → Int
  | [] => 0
  | [x] => x
  | x :: r => max x (maxI r)
def minI : List Int → Int
  | [] => 0
  | [x] => x
  | x :: r => min x (minI r)
theorem maxI_mem : ∀ {ns : List Int}, ns ≠ [] → maxI ns ∈ ns
  | [x], _ => by simp [maxI]
  | x :: y :: r, _ => by
    have := maxI_mem (ns := y :: r) (by simp)
    show max x (maxI (y :: r)) ∈ _
    rcases Int.le_total x (maxI (y :: r)) with h | h
    · rw [Int.max_eq_right h]
      exact List.mem_cons_of_mem _ this
    · rw [Int.max_eq_left h]
      exact List.mem_cons_self
theorem maxI_ge : ∀ {ns : List Int} {y : Int}, y ∈ ns → y ≤ maxI ns
  | [x], y, h => by
    rw [List.mem_singleton.mp h]
    exact Int.le_refl _
  | x :: z :: r, y, h => by
    show y ≤ max x (maxI (z :: r))
    rcases List.mem_cons.mp h with h | h
    · rw [h]
      exact Int.le_max_left _ _
    · exact Int.le_trans (maxI_ge h) (Int.le_max_right _ _)
theorem minI_mem : ∀ {ns : List Int}, ns ≠ [] → minI ns ∈ ns
  | [x], _ => by simp [minI]
  | x :: y :: r, _ => by
    have := minI_mem (ns := y :: r) (by simp)
    show min x (minI (y :: r)) ∈ _
    rcases Int.le_total x (minI (y :: r)) with h | h
    · rw [Int.min_eq_left h]
      exact List.mem_cons_self
    · rw [Int.min_eq_right h]
      exact List.mem_cons_of_mem _ this
theorem minI_le : ∀ {ns : List Int} {y : Int}, y ∈ ns → minI ns ≤ y
  | [x], y, h => by
    rw [List.mem_singleton.mp h]
    exact Int.le_refl _
  | x :: z :: r, y, h => by
    show min x (minI (z :: r)) ≤ y
    rcases List.mem_cons.mp h with h | h
    · rw [h]
      exact Int.min_le_left _ _
    · exact Int.le_trans (Int.min_le_right _ _) (minI_le h)
def fMax : PyData → Option PyData
  | .list ds => (asInts ds).bind fun ns => if ns = [] then none else some (.int (maxI ns))
  | _ => none
def fMin : PyData → Option PyData
  | .list ds => (asInts ds).bind fun ns => if ns = [] then none else some (.int (minI ns))
  | _ => none
theorem fnd_max {K : PySem.W.Frag} : FnD T (rMax K) fMax := by
  intro S H x a d Q so dv e q
  cases dv <;> simp only [fMax] at e <;> try contradiction
  rename_i h1 h2 h3
  obtain ⟨ns, e1, e2⟩ := Option.bind_eq_some_iff.mp e
  split at e2
  · cases e2
  · rename_i hne
    cases e2
    rw [asInts_some e1] at h3
    have hx := DVs.ints_inv ns h3
    subst hx
    refine ⟨_, ns, rfl, .of h2, List.length_pos_iff.mpr hne, fun m hm1 hm2 => ?_⟩
    have : m = maxI ns := Int.le_antisymm (maxI_ge hm1) (hm2 _ (maxI_mem hne))
    rw [this]
    exact q _ _ .refl (.int _)
theorem fnd_min {K : PySem.W.Frag} : FnD T (rMin K) fMin := by
  intro S H x a d Q so dv e q
  cases dv <;> simp only [fMin] at e <;> try contradiction
  rename_i h1 h2 h3
  obtain ⟨ns, e1, e2⟩ := Option.bind_eq_some_iff.mp e
  split at e2
  · cases e2
  · rename_i hne
    cases e2
    rw [asInts_some e1] at h3
    have hx := DVs.ints_inv ns h3
    subst hx
    refine ⟨_, ns, rfl, .of h2, List.length_pos_iff.mpr hne, fun m hm1 hm2 => ?_⟩
    have : m = minI ns := Int.le_antisymm (hm2 _ (minI_mem hne)) (minI_le hm1)
    rw [this]
    exact q _ _ .refl (.int _)
theorem pd_max {p : Pos} (hc : X.calm = true) (hg : Gl X "max") (hm : X.mg "max" = none) (ha : PD X C T a f) (hb : bootBuiltins "max" = some (.builtin "max") := by decide +kernel) (he : starEach (a :: []) X.env = (false, eval a X.env) :: starEach [] X.env := by rfl) : PD X C T (.Call (.Name "max" p) [a] [] pos) (dFun fMax f) :=
  PE.imp (pe_callB (cr_max hc) hg hm hb (pds_cons ha pds_nil he) (he := he)) fun σ H Q q => tCB_of fnd_max q
theorem pd_min {p : Pos} (hc : X.calm = true) (hg : Gl X "min") (hm : X.mg "min" = none) (ha : PD X C T a f) (hb : bootBuiltins "min" = some (.builtin "min") := by decide +kernel) (he : starEach (a :: []) X.env = (false, eval a X.env) :: starEach [] X.env := by rfl) : PD X C T (.Call (.Name "min" p) [a] [] pos) (dFun fMin f) :=
  PE.imp (pe_callB (cr_min hc) hg hm hb (pds_cons ha pds_nil he) (he := he)) fun σ H Q q => tCB_of fnd_min q
/-! ### gcd -/
def dGcd : PyData → PyData → Option PyData
  | .int a, .int b => some (.int ((Nat.gcd a.natAbs b.natAbs : Nat) : Int))
  | _, _ => none
theorem pd_gcd {x : Str} {p : Pos} (hg : Gl X x) (hm : X.mg x = some (.builtin "math.gcd")) (ha : PD X C T a f) (hb : PD X C T b g) (hdb : (x == ("__debug__" : Str)) = false := by decide)
    (he : starEach (a :: [b]) X.env = (false, eval a X.env) :: starEach [b] X.env := by rfl) (he2 : starEach (b :: []) X.env = (false, eval b X.env) :: starEach [] X.env := by rfl) (hpl : (backTo pos (starEach [b] X.env)).any (·.1) = false := by rfl) :
    PD X C T (.Call (.Name x p) [a, b] [] pos) (bin2 dGcd f g) := by
  refine PE.imp (pe_callBfun cr_gcd hg hm (pds_cons ha (pds_cons hb pds_nil he2) he) (hdb := hdb) (he := he) (hpl := hpl)) fun σ H Q ⟨S, ρ, d, E, e, q⟩ => ?_
  obtain ⟨x, y, e1, e2, e3⟩ := bin2_some e
  refine ⟨S, ρ, [x, y], E, ?_, fun vs H1 g1 dvs => ?_⟩
  · unfold sCons sNil
    simp only [e1, e2]
    rfl
  · cases dvs with
    | cons dv r =>
      cases r with
      | cons dv2 r =>
        cases r
        cases dv <;> cases dv2 <;> simp only [dGcd] at e3 <;> try contradiction
        cases e3
        exact ⟨_, _, rfl, q _ H1 g1 (.int _)⟩
end
end DL
end
section
set_option maxHeartbeats 4000000
namespace DL
open PySem PySem.Spec PyProof.Rows L2
open GxR (TabB TabG Tabbed)
section
variable {X : Cx} {C : Addr} {T : List Addr} {a b c : Expr} {f g h : En → Option PyData} {pos : Pos} {t u : En → Option Bool} {rest es : List Expr} {e : Expr} {fs : En → Option (List PyData)}
/-! ### slices -/
def cutP (xs : List PyData) (lo hi : Option Int) : List PyData := (xs.drop (HT.sIx xs.length 0 lo)).take (HT.sIx xs.length xs.length hi - HT.sIx xs.length 0 lo)
theorem cutP_len (xs : List PyData) (lo hi : Option Int) : (cutP xs lo hi).length ≤ xs.length := by
  unfold cutP
  rw [List.length_take, List.length_drop]
  omega
theorem DVs.cut {S : Av} {H : Hp} {vs : List V} {ds : List PyData} (h : DVs S H vs ds) (lo hi : Option Int) : DVs S H (cutV vs lo hi) (cutP ds lo hi) := by
  unfold cutV cutP
  rw [h.length]
  exact (h.drop _).take _
def tDo (C : Addr) (T : List Addr) (o : En → Option (Option Int)) : TO := fun σ H Q => ∃ S ρ k, EnR C T S H σ ρ ∧ o ρ = some k ∧ ∀ H', Grow T H H' → Q k H'
def oNo : En → Option (Option Int) := fun _ => some none
def oSo (f : En → Option PyData) : En → Option (Option Int) := fun ρ => (f ρ).bind fun
  | .int i => some (some i)
  | _ => none
theorem PO.imp {e : Option Expr} {t t' : TO} (h : PO X e t) (k : ∀ σ H Q, t' σ H Q → t σ H Q) : PO X e t' := ⟨fun pins s σ H Q I q => h.run pins s σ H Q I (k σ H Q q)⟩
theorem pdo_none : PO X none (tDo C T oNo) := PO.imp po_none fun σ H Q ⟨S, ρ, d, E, e, q⟩ => by
  cases e
  exact q H .refl
theorem pdo_some (ha : PD X C T a f) : PO X (some a) (tDo C T (oSo f)) := PO.imp (po_some ha) fun σ H Q ⟨S, ρ, d, E, e, q⟩ => by
  obtain ⟨x, e1, e2⟩ := Option.bind_eq_some_iff.mp e
  refine ⟨S, ρ, x, E, e1, fun v H1 g1 dv => ?_⟩
  cases dv <;> cases e2
  exact ⟨_, rfl, q H1 g1⟩
def dSl (f : En → Option PyData) (lo hi : En → Option (Option Int)) : En → Option PyData := fun ρ => (f ρ).bind fun d => (lo ρ).bind fun l => (hi ρ).bind fun u => match d with
  | .list ds => some (.list (cutP ds l u))
  | .tuple ds => some (.tuple (cutP ds l u))
  | _ => none
theorem cut_whole {ds : List PyData} {l u : Option Int} (h : HT.sIx ds.length 0 l = 0 ∧ HT.sIx ds.length ds.length u = ds.length) : cutP ds l u = ds := by
  unfold cutP
  rw [h.1, h.2, List.drop_zero, Nat.sub_zero, List.take_length]
theorem pd_sl {lo hi : Option Expr} {l u : En → Option (Option Int)} {p2 : Pos} (ha : PD X C T a f) (hl : PO X lo (tDo C T l)) (hu : PO X hi (tDo C T u)) : PD X C T (.Subscript a (.Slice lo hi none p2) pos) (dSl f l u) := by
  refine PE.imp (pe_slice (SlR.or sl_list sl_tupA) ha hl hu) fun σ H Q ⟨S, ρ, d, E, e, q⟩ => ?_
  obtain ⟨x, e1, e4⟩ := Option.bind_eq_some_iff.mp e
  obtain ⟨k, e2, e5⟩ := Option.bind_eq_some_iff.mp e4
  obtain ⟨m, e3, e6⟩ := Option.bind_eq_some_iff.mp e5
  clear e e4 e5
  refine ⟨S, ρ, x, E, e1, fun v H1 g1 dv => ⟨S, ρ, k, E.grow g1, e2, fun H2 g2 => ⟨S, ρ, m, (E.grow g1).grow g2, e3, fun H3 g3 => ?_⟩⟩⟩
  have dv3 := (dv.grow g2).grow g3
  have gg := (g1.trans g2).trans g3
  have so := (((E.sok).grow g1).grow g2).grow g3
  cases dv3 <;> cases e6
  · rename_i h1 h2 h3
    exact .inl ⟨_, _, rfl, .of h2, fun p hp => q _ _ (gg.trans (.new hp)) (.newL so hp (h3.cut _ _))⟩
  · rename_i h1 h2 h3
    refine .inr ⟨_, _, rfl, .of h2, fun hw => ?_, fun _ p hp => q _ _ (gg.trans (.new hp)) (.newT so hp (h3.cut _ _))⟩
    rw [h3.length] at hw
    rw [cut_whole hw] at q
    exact q _ _ gg (.tup h1 h2 h3)
/-- t[::-1] of a tuple -/
def dRevT (f : En → Option PyData) : En → Option PyData := fun ρ => (f ρ).bind fun
  | .tuple ds => some (.tuple ds.reverse)
  | _ => none
theorem pd_revT {k : Nat} {p1 p2 p3 : Pos} (ha : PD X C T a f) : PD X C T (.Subscript a (.Slice none none (some (.UnaryOp .USub (.Constant (.int 1) k p1) p2)) p3) pos) (dRevT f) := by
  refine PE.imp (pe_revT ha) fun σ H Q ⟨S, ρ, d, E, e, q⟩ => ?_
  obtain ⟨x, e1, e2⟩ := Option.bind_eq_some_iff.mp e
  refine ⟨S, ρ, x, E, e1, fun v H1 g1 dv => ?_⟩
  cases dv <;> cases e2
  rename_i h1 h2 h3
  exact ⟨_, _, rfl, .of h2, fun p hp => q _ _ (g1.trans (.new hp)) (.newT (E.sok.grow g1) hp h3.reverse)⟩
/-! ### isinstance -/
def tyName : PyData → String
  | .none => "NoneType"
  | .bool _ => "bool"
  | .int _ => "int"
  | .str _ => "str"
  | .list _ => "list"
  | .tuple _ => "tuple"
  | .dict _ => "dict"
theorem DV.ty {K : PySem.W.Frag} {S : Av} {H : Hp} {v : V} {d : PyData} (h : DV S H v d) : TyX K H v (.type (tyName d)) := by
  cases h with
  | non => exact .base .non
  | bl b => exact .base (.bl b)
  | int i => exact .base (.int i)
  | str x => exact .base (.str x)
  | lst h1 h2 h3 => exact .base (.lst h2)
  | tup h1 h2 h3 => exact .base (.tup h2)
def isTy (t : String) : PyData → Bool
  | .bool _ => t == "bool" || t == "int"
  | .int _ => t == "int"
  | .str _ => t == "str"
  | .list _ => t == "list"
  | .tuple _ => t == "tuple"
  | _ => false
def TyOk (t : String) : Prop := ∀ d : PyData, (∀ kvs, d ≠ .dict kvs) → kitB (tyName d) t = some (isTy t d)
theorem tyOk_int : TyOk "int" := fun d h => by
  cases d <;> first | exact (by decide +kernel : kitB "NoneType" "int" = some false) | exact (by decide +kernel : kitB "bool" "int" = some true) | exact (by decide +kernel : kitB "int" "int" = some true) | exact (by decide +kernel : kitB "str" "int" = some false) | exact (by decide +kernel : kitB "list" "int" = some false) | exact (by decide +kernel : kitB "tuple" "int" = some false) | exact absurd rfl (h _)
theorem tyOk_bool : TyOk "bool" := fun d h => by
  cases d <;> first | exact (by decide +kernel : kitB "NoneType" "bool" = some false) | exact (by decide +kernel : kitB "bool" "bool" = some true) | exact (by decide +kernel : kitB "int" "bool" = some false) | exact (by decide +kernel : kitB "str" "bool" = some false) | exact (by decide +kernel : kitB "list" "bool" = some false) | exact (by decide +kernel : kitB "tuple" "bool" = some false) | exact absurd rfl (h _)
theorem tyOk_str : TyOk "str" := fun d h => by
  cases d <;> first | exact (by decide +kernel : kitB "NoneType" "str" = some false) | exact (by decide +kernel : kitB "bool" "str" = some false) | exact (by decide +kernel : kitB "int" "str" = some false) | exact (by decide +kernel : kitB "str" "str" = some true) | exact (by decide +kernel : kitB "list" "str" = some false) | exact (by decide +kernel : kitB "tuple" "str" = some false) | exact absurd rfl (h _)
theorem tyOk_list : TyOk "list" := fun d h => by
  cases d <;> first | exact (by decide +kernel : kitB "NoneType" "list" = some false) | exact (by decide +kernel : kitB "bool" "list" = some false) | exact (by decide +kernel : kitB "int" "list" = some false) | exact (by decide +kernel : kitB "str" "list" = some false) | exact (by decide +kernel : kitB "list" "list" = some true) | exact (by decide +kernel : kitB "tuple" "list" = some false) | exact absurd rfl (h _)
theorem tyOk_tuple : TyOk "tuple" := fun d h => by
  cases d <;> first | exact (by decide +kernel : kitB "NoneType" "tuple" = some false) | exact (by decide +kernel : kitB "bool" "tuple" = some false) | exact (by decide +kernel : kitB "int" "tuple" = some false) | exact (by decide +kernel : kitB "str" "tuple" = some false) | exact (by decide +kernel : kitB "list" "tuple" = some false) | exact (by decide +kernel : kitB "tuple" "tuple" = some true) | exact absurd rfl (h _)
def dIsi (t : String) (f : En → Option PyData) : En → Option PyData := fun ρ => (f ρ).map fun d => .bool (isTy t d)
def dIsi2 (t1 t2 : String) (f : En → Option PyData) : En → Option PyData := fun ρ => (f ρ).map fun d => .bool (isTy t1 d || isTy t2 d)
theorem DV.nodict {S : Av} {H : Hp} {v : V} {d : PyData} (h : DV S H v d) : ∀ kvs, d ≠ .dict kvs := fun kvs z => by
  subst z
  cases h
theorem pd_isi {x : Str} {n : String} {p p1 : Pos} (ok : TyOk n) (hg : Gl X "isinstance") (hm : X.mg "isinstance" = none) (hg1 : Gl X x) (hm1 : X.mg x = none) (ha : PD X C T a f)
    (hb1 : bootBuiltins x = some (.type n) := by decide +kernel) (hn1 : x ≠ "__name__" := by decide) (hd1 : (x == ("__debug__" : Str)) = false := by decide) (hb : bootBuiltins "isinstance" = some (.builtin "isinstance") := by decide +kernel)
    (he : starEach (a :: [.Name x p1]) X.env = (false, eval a X.env) :: starEach [.Name x p1] X.env := by rfl) : PD X C T (.Call (.Name "isinstance" p) [a, .Name x p1] [] pos) (dIsi n f) := by
  refine PE.imp (pe_callB call_isi hg hm hb (pa_cons ha (pa_cons (pe_bltn (v := .ty n) hg1 hm1 hb1 rfl hn1 hd1) pa_nil) he) (he := he)) fun σ H Q ⟨S, ρ, d, E, e, q⟩ => ?_
  obtain ⟨x, e1, rfl⟩ := Option.map_eq_some_iff.mp e
  refine ⟨S, ρ, x, E, e1, fun v H1 g1 dv => ?_⟩
  exact ⟨v, .ty n, _, _, _, rfl, .ty n, dv.ty, kit_ty (ok x dv.nodict), q _ H1 g1 (.bl _)⟩
theorem pd_isi2 {x y : Str} {n m : String} {p p1 p2 pt : Pos} {kt : Nat} (ok1 : TyOk n) (ok2 : TyOk m) (hg : Gl X "isinstance") (hm : X.mg "isinstance" = none) (hg1 : Gl X x) (hm1 : X.mg x = none) (hg2 : Gl X y) (hm2 : X.mg y = none) (ha : PD X C T a f)
    (hb1 : bootBuiltins x = some (.type n) := by decide +kernel) (hn1 : x ≠ "__name__" := by decide) (hd1 : (x == ("__debug__" : Str)) = false := by decide)
    (hb2 : bootBuiltins y = some (.type m) := by decide +kernel) (hn2 : y ≠ "__name__" := by decide) (hd2 : (y == ("__debug__" : Str)) = false := by decide) (hb : bootBuiltins "isinstance" = some (.builtin "isinstance") := by decide +kernel)
    (he : starEach (a :: [.Tuple [.Name x p1, .Name y p2] kt pt]) X.env = (false, eval a X.env) :: starEach [.Tuple [.Name x p1, .Name y p2] kt pt] X.env := by rfl) : PD X C T (.Call (.Name "isinstance" p) [a, .Tuple [.Name x p1, .Name y p2] kt pt] [] pos) (dIsi2 n m f) := by
  refine PE.imp (pe_callB call_isiT hg hm hb (pa_cons ha (pa_cons (pe_tup (pa_cons (pe_bltn (v := .ty n) hg1 hm1 hb1 rfl hn1 hd1) (pa_cons (pe_bltn (v := .ty m) hg2 hm2 hb2 rfl hn2 hd2) pa_nil))) pa_nil) he) (he := he)) fun σ H Q ⟨S, ρ, d, E, e, q⟩ => ?_
  obtain ⟨x, e1, rfl⟩ := Option.map_eq_some_iff.mp e
  refine ⟨S, ρ, x, E, e1, fun v H1 g1 dv => ⟨by show 2 ≤ sizeLine; decide, fun tp ht => ?_⟩⟩
  have dv2 := dv.grow (T := T) (Grow.new (o := .tup [.ty n, .ty m]) ht)
  refine ⟨v, tp, _, _, [.type n, .type m], _, rfl, upd_same, .cons (.ty n) (.cons (.ty m) .nil), dv2.ty, ?_, q _ _ (g1.trans (.new ht)) (.bl _)⟩
  have k1 := kit_ty (K := X.K) (ok1 x dv.nodict)
  have k2 := kit_ty (K := X.K) (ok2 x dv.nodict)
  refine kitAny_cons k1 (fun z => kitAny_cons k2 (fun z2 => ?_) fun z2 => ?_) fun z => ?_
  · rw [z, z2]
    rfl
  · rw [z2, Bool.or_true]
  · rw [z, Bool.true_or]
/-! ### a op b op' c -/
def dChain (F G : PyData → PyData → Option PyData) (f g h : En → Option PyData) : En → Option PyData := fun ρ => (f ρ).bind fun a => (g ρ).bind fun b => ((F a b).bind asB).bind fun k => if k = true then (h ρ).bind fun c => G b c else some (.bool false)
theorem tChain_of {r r' : V → V → Hp → VK → Prop} {F G : PyData → PyData → Option PyData} (h1 : OpD T r F) (h2 : OpD T r' G) {σ : List (Option V)} {H : Hp} {Q : VK} (q : tD C T (dChain F G f g h) σ H Q) :
    tChain r r' (tD C T f) (tD C T g) (tD C T h) σ H Q := by
  obtain ⟨S, ρ, d, E, e, q⟩ := q
  obtain ⟨x, e1, e⟩ := Option.bind_eq_some_iff.mp e
  obtain ⟨y, e2, e⟩ := Option.bind_eq_some_iff.mp e
  obtain ⟨k, e3, e⟩ := Option.bind_eq_some_iff.mp e
  obtain ⟨z, e3, e4⟩ := Option.bind_eq_some_iff.mp e3
  obtain rfl := asB_some e4
  refine ⟨S, ρ, x, E, e1, fun v H1 g1 dv => ⟨S, ρ, y, E.grow g1, e2, fun v2 H2 g2 dv2 => ?_⟩⟩
  refine h1 S H2 v v2 x y _ _ ((E.sok.grow g1).grow g2) (dv.grow g2) dv2 e3 fun vb H3 g3 dvb => ?_
  cases dvb
  refine ⟨k, rfl, ?_⟩
  cases k with
  | true =>
    obtain ⟨w, e5, e6⟩ := Option.bind_eq_some_iff.mp e
    refine ⟨S, ρ, w, ((E.grow g1).grow g2).grow g3, e5, fun v4 H4 g4 dv4 => ?_⟩
    exact h2 S H4 v2 v4 y w d _ ((((E.sok.grow g1).grow g2).grow g3).grow g4) ((dv2.grow g3).grow g4) dv4 e6 fun v5 H5 g5 dv5 => q v5 H5 ((((g1.trans g2).trans g3).trans g4).trans g5) dv5
  | false =>
    cases e
    exact q _ H3 ((g1.trans g2).trans g3) (.bl _)
theorem pd_le2 (ha : PD X C T a f) (hb : PD X C T b g) (hc : PD X C T c h) (hm : lastMarks [.LtE, .LtE] [b, c] = false := by with_unfolding_all rfl) : PD X C T (.Compare a [.LtE, .LtE] [b, c] pos) (dChain dLe dLe f g h) :=
  PE.imp (pe_chain op_le op_le ha hb hc hm) fun σ H Q q => tChain_of opd_le opd_le q
theorem pt_le2 (ha : PD X C T a f) (hb : PD X C T b g) (hc : PD X C T c h) (hm : lastMarks [.LtE, .LtE] [b, c] = false := by with_unfolding_all rfl) : PDB X C T (.Compare a [.LtE, .LtE] [b, c] pos) (bOf (dChain dLe dLe f g h)) :=
  PT.imp (pt_chain op_le op_le ha hb hc hm) fun σ H Q ⟨S, ρ, d, E, e, q⟩ => by
    obtain ⟨x, e1, e2⟩ := Option.bind_eq_some_iff.mp e
    obtain rfl := asB_some e2
    refine tChain_of opd_le opd_le ⟨S, ρ, _, E, e1, fun v H' g dv => ?_⟩
    cases dv
    exact ⟨_, rfl, q H' g⟩
/-! ### calls of defs -/
def spD (T : List Addr) (F : List PyData → Option PyData) : Sp := fun vs H Q _ => ∃ S ds d, (∀ P ∈ T, TabG H P) ∧ SOk S H ∧ DVs S H vs ds ∧ F ds = some d ∧ ∀ v H', Grow T H H' → DV S H' v d → Q v H'
def dCall (F : List PyData → Option PyData) (fs : En → Option (List PyData)) : En → Option PyData := fun ρ => (fs ρ).bind F
variable {k : Nat} {fa : Addr} {fd : FuncData} {ps : List Str} {F : List PyData → Option PyData} {x : Str}
theorem pd_call {p : Pos} (hF : FnOk X.prog X.w X.K X.mg X.base CX0 k fa fd ps (spD T F)) (hr : Room k X.A) (hg : Gl X x) (hm : X.mg x = some (.ref fa)) (hk : PySem.W.keepIn X.K (.ref fa) = true) (hb : Binds X.K fd ps [])
    (ha : PDs X C T (e :: es) fs) (hdb : (x == ("__debug__" : Str)) = false := by decide) (he : starEach (e :: es) X.env = (false, eval e X.env) :: starEach es X.env := by rfl) (hpl : (backTo pos (starEach es X.env)).any (·.1) = false := by rfl) :
    PD X C T (.Call (.Name x p) (e :: es) [] pos) (dCall F fs) := by
  refine PE.imp (pe_call hF hr hg hm hk hb .nil pass0 ha hdb he hpl) fun σ H Q ⟨S, ρ, d, E, e, q⟩ => ?_
  obtain ⟨ds, e1, e2⟩ := Option.bind_eq_some_iff.mp e
  refine ⟨S, ρ, ds, E, e1, fun vs H1 g1 dvs => ?_⟩
  show spD T F (vs ++ []) H1 Q E0
  rw [List.append_nil]
  exact ⟨S, ds, d, (E.grow g1).tabs, E.sok.grow g1, dvs, e2, fun v H2 g2 dv => q v H2 (g1.trans g2) dv⟩
/-! ### self -/
def spM (C : Addr) (T : List Addr) (F : SelfD → List PyData → Option PyData) : Sp := fun vs H Q _ => ∃ S m p ps pr pb vs' ds d, vs = .ref p :: vs' ∧ (∀ P ∈ T, TabG H P) ∧ SOk S H ∧ SelfR C S H p ps pr pb m ∧ DVs S H vs' ds ∧ F m ds = some d ∧ ∀ v H', Grow T H H' → DV S H' v d → Q v H'
def dMeth (si : Nat) (F : SelfD → List PyData → Option PyData) (fs : En → Option (List PyData)) : En → Option PyData := fun ρ => (ρ.meAt si).bind fun m => (fs ρ).bind fun ds => F m ds
theorem flds_no {vm : V} {ps pr pb : Addr} {m : Str} (h1 : ¬ m = "many") (h2 : ¬ m = "signs") (h3 : ¬ m = "rows") (h4 : ¬ m = "basis") : (flds vm ps pr pb).lookup m = none := by
  unfold flds
  rw [List.lookup_cons, (beq_eq_false_iff_ne.mpr h1 : (m == ("many" : Str)) = false), List.lookup_cons, (beq_eq_false_iff_ne.mpr h2 : (m == ("signs" : Str)) = false), List.lookup_cons, (beq_eq_false_iff_ne.mpr h3 : (m == ("rows" : Str)) = false),
    List.lookup_cons, (beq_eq_false_iff_ne.mpr h4 : (m == ("basis" : Str)) = false)]
  rfl
variable {G : SelfD → List PyData → Option PyData} {m sx : Str} {si : Nat}
theorem pd_meth {pl : Sem Bool} {apos sp : Pos} (hs0 : PE X (.Name sx sp) (tVar si)) (hC : Cls X.K C) (hM : Meth X.K C m fa) (hF : FnOk X.prog X.w X.K X.mg X.base CX0 k fa fd ps (spM C T G)) (hr : Room k X.A) (hb : Binds X.K fd ps []) (ha : PDs X C T (e :: es) fs)
    (n1 : ¬ m = "many") (n2 : ¬ m = "signs") (n3 : ¬ m = "rows") (n4 : ¬ m = "basis")
    (hst : starEach (e :: es) X.env = (false, eval e X.env) :: starEach es X.env := by rfl) (hpl : (backTo pos (starEach es X.env)).any (·.1) = false := by rfl)
    (ht : eval (.Call (.Attribute (.Name sx sp) m apos) (e :: es) [] pos) X.env = (do
      let ov ← eval (.Name sx sp) X.env
      standAt apos.atName
      let (f, first) ← holding [ov] (getMethod ov m pl)
      callWith pos f first (backTo pos (starEach (e :: es) X.env)) (backToKw pos (keywordEach [] X.env))) := by rfl) :
    PD X C T (.Call (.Attribute (.Name sx sp) m apos) (e :: es) [] pos) (dMeth si G fs) := by
  refine PE.imp (pe_meth hs0 hC hM hF hr hb .nil pass0 ha hst hpl ht) fun σ H Q ⟨S, ρ, d, E, e, q⟩ => ?_
  obtain ⟨md, e1, e⟩ := Option.bind_eq_some_iff.mp e
  obtain ⟨ds, e2, e3⟩ := Option.bind_eq_some_iff.mp e
  obtain ⟨p, ps', pr, pb, h1, h2⟩ := E.meAt md e1
  obtain ⟨vm, dx, ho, _⟩ := h2.ob
  refine ⟨_, h1, p, dx, _, rfl, ho, flds_no n1 n2 n3 n4, S, ρ, ds, E, e2, fun vs H1 g1 dvs => ?_⟩
  show spM C T G (.ref p :: (vs ++ [])) H1 Q E0
  rw [List.append_nil]
  exact ⟨S, md, p, ps', pr, pb, vs, ds, d, rfl, (E.grow g1).tabs, E.sok.grow g1, h2.grow g1, dvs, e3, fun v H2 g2 dv => q v H2 (g1.trans g2) dv⟩
def dMany (si : Nat) : En → Option PyData := fun ρ => (ρ.meAt si).map (·.many)
def dSigns (si : Nat) : En → Option PyData := fun ρ => (ρ.meAt si).map fun m => .list m.signs
theorem flds_many {vm : V} {ps pr pb : Addr} : (flds vm ps pr pb).lookup ("many" : Str) = some vm := by
  unfold flds
  simp [List.lookup]
theorem flds_signs {vm : V} {ps pr pb : Addr} : (flds vm ps pr pb).lookup ("signs" : Str) = some (.ref ps) := by
  unfold flds
  rw [List.lookup_cons, (by decide +kernel : (("signs" : Str) == "many") = false)]
  simp [List.lookup]
theorem flds_rows {vm : V} {ps pr pb : Addr} : (flds vm ps pr pb).lookup ("rows" : Str) = some (.ref pr) := by
  unfold flds
  rw [List.lookup_cons, (by decide +kernel : (("rows" : Str) == "many") = false), List.lookup_cons, (by decide +kernel : (("rows" : Str) == "signs") = false)]
  simp [List.lookup]
theorem flds_basis {vm : V} {ps pr pb : Addr} : (flds vm ps pr pb).lookup ("basis" : Str) = some (.ref pb) := by
  unfold flds
  rw [List.lookup_cons, (by decide +kernel : (("basis" : Str) == "many") = false), List.lookup_cons, (by decide +kernel : (("basis" : Str) == "signs") = false), List.lookup_cons, (by decide +kernel : (("basis" : Str) == "rows") = false)]
  simp [List.lookup]
theorem pd_many {sp : Pos} (hs0 : PE X (.Name sx sp) (tVar si)) (hC : Cls X.K C) (hN : NoAttr X.K C "many") (hb : attributeBase (.Name sx sp) "many" X.env (eval (.Name sx sp) X.env) = eval (.Name sx sp) X.env := by rfl) : PD X C T (.Attribute (.Name sx sp) "many" pos) (dMany si) := by
  refine PE.imp (pe_fld hs0 hb) fun σ H Q ⟨S, ρ, d, E, e, q⟩ => ?_
  obtain ⟨md, e1, rfl⟩ := Option.map_eq_some_iff.mp e
  obtain ⟨p, ps', pr, pb, h1, h2⟩ := E.meAt md e1
  obtain ⟨vm, dx, ho, dm⟩ := h2.ob
  exact ⟨_, h1, p, C, dx, _, vm, rfl, ho, hC, hN, flds_many, q vm H .refl dm⟩
theorem pd_signs {sp : Pos} (hs0 : PE X (.Name sx sp) (tVar si)) (hC : Cls X.K C) (hN : NoAttr X.K C "signs") (hb : attributeBase (.Name sx sp) "signs" X.env (eval (.Name sx sp) X.env) = eval (.Name sx sp) X.env := by rfl) : PD X C T (.Attribute (.Name sx sp) "signs" pos) (dSigns si) := by
  refine PE.imp (pe_fld hs0 hb) fun σ H Q ⟨S, ρ, d, E, e, q⟩ => ?_
  obtain ⟨md, e1, rfl⟩ := Option.map_eq_some_iff.mp e
  obtain ⟨p, ps', pr, pb, h1, h2⟩ := E.meAt md e1
  obtain ⟨vm, dx, ho, dm⟩ := h2.ob
  exact ⟨_, h1, p, C, dx, _, _, rfl, ho, hC, hN, flds_signs, q _ H .refl h2.sg⟩
/-- an item of self.rows, of self.basis -/
def dRowAt (si : Nat) (f : En → Option PyData) : En → Option PyData := fun ρ => (ρ.meAt si).bind fun m => (f ρ).bind fun
  | .int i => atI m.rows i
  | _ => none
def dBasAt (si : Nat) (f : En → Option PyData) : En → Option PyData := fun ρ => (ρ.meAt si).bind fun m => (f ρ).bind fun
  | .int i => atI m.basis i
  | _ => none
theorem pd_rowAt {sp ap : Pos} (hs0 : PE X (.Name sx sp) (tVar si)) (hC : Cls X.K C) (hN : NoAttr X.K C "rows") (hb : PD X C T b f) (hs : PlainIx b) (hba : attributeBase (.Name sx sp) "rows" X.env (eval (.Name sx sp) X.env) = eval (.Name sx sp) X.env := by rfl) : PD X C T (.Subscript (.Attribute (.Name sx sp) "rows" ap) b pos) (dRowAt si f) := by
  refine PE.imp (pe_ix ix_list (pe_fld hs0 hba) hb hs) fun σ H Q ⟨S, ρ, d, E, e, q⟩ => ?_
  obtain ⟨md, e1, e⟩ := Option.bind_eq_some_iff.mp e
  obtain ⟨x, e2, e3⟩ := Option.bind_eq_some_iff.mp e
  obtain ⟨p, ps', pr, pb, h1, h2⟩ := E.meAt md e1
  obtain ⟨vm, dx, ho, dm⟩ := h2.ob
  refine ⟨_, h1, p, C, dx, _, _, rfl, ho, hC, hN, flds_rows, S, ρ, x, E, e2, fun v H1 g1 dv => ?_⟩
  cases dv <;> try contradiction
  obtain ⟨xr, hx, dxr⟩ := (h2.grow g1).rw
  obtain ⟨w, e4, dw⟩ := atI_get dxr e3
  exact ⟨pr, xr, _, w, rfl, rfl, .of hx, e4, q w H1 g1 dw⟩
theorem pd_basAt {sp ap : Pos} (hs0 : PE X (.Name sx sp) (tVar si)) (hC : Cls X.K C) (hN : NoAttr X.K C "basis") (hb : PD X C T b f) (hs : PlainIx b) (hba : attributeBase (.Name sx sp) "basis" X.env (eval (.Name sx sp) X.env) = eval (.Name sx sp) X.env := by rfl) : PD X C T (.Subscript (.Attribute (.Name sx sp) "basis" ap) b pos) (dBasAt si f) := by
  refine PE.imp (pe_ix ix_list (pe_fld hs0 hba) hb hs) fun σ H Q ⟨S, ρ, d, E, e, q⟩ => ?_
  obtain ⟨md, e1, e⟩ := Option.bind_eq_some_iff.mp e
  obtain ⟨x, e2, e3⟩ := Option.bind_eq_some_iff.mp e
  obtain ⟨p, ps', pr, pb, h1, h2⟩ := E.meAt md e1
  obtain ⟨vm, dx, ho, dm⟩ := h2.ob
  refine ⟨_, h1, p, C, dx, _, _, rfl, ho, hC, hN, flds_basis, S, ρ, x, E, e2, fun v H1 g1 dv => ?_⟩
  cases dv <;> try contradiction
  obtain ⟨xr, hx, dxr⟩ := (h2.grow g1).bs
  obtain ⟨w, e4, dw⟩ := atI_get dxr e3
  exact ⟨pb, xr, _, w, rfl, rfl, .of hx, e4, q w H1 g1 dw⟩
def dLenRows (si : Nat) : En → Option PyData := fun ρ => (ρ.meAt si).map fun m => .int m.rows.length
theorem pd_lenRows {sp ap p : Pos} (hs0 : PE X (.Name sx sp) (tVar si)) (hC : Cls X.K C) (hN : NoAttr X.K C "rows") (hg : Gl X "len") (hm : X.mg "len" = none) (hba : attributeBase (.Name sx sp) "rows" X.env (eval (.Name sx sp) X.env) = eval (.Name sx sp) X.env := by rfl)
    (he : starEach (.Attribute (.Name sx sp) "rows" ap :: []) X.env = (false, eval (.Attribute (.Name sx sp) "rows" ap) X.env) :: starEach [] X.env := by rfl) : PD X C T (.Call (.Name "len" p) [.Attribute (.Name sx sp) "rows" ap] [] pos) (dLenRows si) := by
  refine PE.imp (pe_callB call_len_seq hg hm PySem.boot_len (pa_cons (pe_fld hs0 hba) pa_nil he) (he := he)) fun σ H Q ⟨S, ρ, d, E, e, q⟩ => ?_
  obtain ⟨md, e1, rfl⟩ := Option.map_eq_some_iff.mp e
  obtain ⟨p, ps', pr, pb, h1, h2⟩ := E.meAt md e1
  obtain ⟨vm, dx, ho, dm⟩ := h2.ob
  obtain ⟨xr, hx, dxr⟩ := h2.rw
  refine ⟨_, h1, p, C, dx, _, _, rfl, ho, hC, hN, flds_rows, pr, xr, rfl, .inl (.of hx), ?_⟩
  rw [dxr.length]
  exact q _ H .refl (.int _)
end
end DL
end
section
set_option maxHeartbeats 4000000
namespace DL
open PySem PySem.Spec PyProof.Rows L2
open GxR (TabB TabG Tabbed)

/-! ### targets -/
inductive Tgt where
  | one (i : Nat)
  | two (i j : Nat)
def Tgt.ix : Tgt → List Nat
  | .one i => [i]
  | .two i j => [i, j]
/-- a slot is set (never self's) -/
def setE (i : Nat) (d : PyData) (ρ : En) : Option En := if i < ρ.sl.length ∧ (i ≠ ρ.mi ∨ ρ.me.isNone) ∧ ρ.ow.lookup i = none then some ⟨ρ.sl.set i (some d), ρ.me, ρ.mi, ρ.ow, ρ.base⟩ else none
def setT : Tgt → PyData → En → Option En
  | .one i, d, ρ => setE i d ρ
  | .two i j, .tuple [a, b], ρ => if i = j then none else (setE i a ρ).bind (setE j b)
  | .two _ _, _, _ => none
def gOf (K : PySem.W.Frag) : Tgt → TG
  | .one i => gName i
  | .two i j => gTup K 2 (gCons (gName i) (gCons (gName j) gNil))
section
variable {C : Addr} {T : List Addr} {S S' : Av} {H : Hp} {σ : List (Option V)} {ρ ρ' : En} {v : V} {d : PyData} {i : Nat}
theorem EnR.set (E : EnR C T S H σ ρ) (dv : DV S H v d) (e : setE i d ρ = some ρ') : EnR C T S H (σ.set i (some v)) ρ' ∧ i < σ.length := by
  unfold setE at e
  split at e
  · rename_i hi
    cases e
    have hl : i < σ.length := by rw [← E.len]; exact hi.1
    refine ⟨⟨E.tabs, E.sok, by rw [List.length_set, List.length_set]; exact E.len, fun j d' e' => ?_, fun m hm => ?_, fun j ds hj => ?_⟩, hl⟩
    · by_cases hj : j = i
      · rw [hj, List.getElem?_set_self hi.1] at e'
        cases e'
        exact ⟨v, by rw [hj, List.getElem?_set_self hl], dv⟩
      · rw [List.getElem?_set_ne (Ne.symm hj)] at e' ⊢
        exact E.sl j d' e'
    · obtain ⟨p, ps, pr, pb, h1, h2⟩ := E.me m hm
      refine ⟨p, ps, pr, pb, ?_, h2⟩
      have hi0 : i ≠ ρ.mi := by
        rcases hi.2.1 with z | z
        · exact z
        · have hm' : ρ.me = some m := hm
          rw [hm'] at z
          cases z
      rw [List.getElem?_set_ne hi0]
      exact h1
    · obtain ⟨a, xs, h1, h2, h3, h4⟩ := E.ow j ds hj
      have hij : i ≠ j := fun z => by
        have hj' : ρ.ow.lookup j = some ds := hj
        rw [← z, hi.2.2] at hj'
        cases hj'
      exact ⟨a, xs, by rw [List.getElem?_set_ne hij]; exact h1, h2, h3, h4⟩
  · cases e
theorem gOf_ok {K : PySem.W.Frag} {tg : Tgt} {Q : List (Option V) → Hp → Prop} (E : EnR C T S H σ ρ) (dv : DV S H v d) (e : setT tg d ρ = some ρ')
    (q : ∀ σ', EnR C T S H σ' ρ' → (∀ k, k ∉ tg.ix → σ'[k]? = σ[k]?) → σ'.length = σ.length → Q σ' H) : gOf K tg v σ H Q := by
  cases tg with
  | one i =>
    obtain ⟨E1, hl⟩ := E.set dv e
    refine q _ E1 (fun k hk => ?_) (List.length_set ..)
    rw [List.getElem?_set_ne]
    intro z
    exact hk (by rw [← z]; exact List.mem_singleton.mpr rfl)
  | two i j =>
    cases dv with
    | tup h1 h2 h3 =>
      rename_i a xs ds
      cases h3 with
      | nil => cases e
      | cons da h3 =>
        cases h3 with
        | nil => cases e
        | cons db h3 =>
          cases h3 with
          | cons _ _ => cases e
          | nil =>
            have e : (if i = j then none else (setE i _ ρ).bind (setE j _)) = some ρ' := e
            by_cases hij : i = j
            · rw [if_pos hij] at e
              cases e
            · rw [if_neg hij] at e
              obtain ⟨ρ1, e1, e2⟩ := Option.bind_eq_some_iff.mp e
              obtain ⟨E1, l1⟩ := E.set da e1
              obtain ⟨E2, l2⟩ := E1.set db e2
              refine ⟨_, _, rfl, .of h2, rfl, _, _, rfl, _, _, rfl, rfl, q _ E2 (fun k hk => ?_) (by rw [List.length_set, List.length_set])⟩
              have k1 : i ≠ k := fun z => hk (by rw [← z]; exact List.mem_cons_self)
              have k2 : j ≠ k := fun z => hk (by rw [← z]; exact List.mem_cons_of_mem _ (List.mem_singleton.mpr rfl))
              rw [List.getElem?_set_ne k2, List.getElem?_set_ne k1]
    | non => cases e
    | bl _ => cases e
    | int _ => cases e
    | str _ => cases e
    | lst _ _ _ => cases e
theorem pgt_one {X : Cx} {x : Str} {p : Pos} (hN : X.N.Nodup) (hi : X.N[i]? = some x) (hx : Loc X.env.scope x) (hf : X.fn x = true ∨ X.env.scope.names.lookup x = some .local := by first | exact .inl rfl | exact .inr rfl | assumption) : PG X (.Name x p) (gOf X.K (.one i)) := pg_name hN hi hx hf
theorem pgt_two {X : Cx} {x y : Str} {j kt : Nat} {p1 p2 pt : Pos} (hc : X.calm = true) (hN : X.N.Nodup) (hi : X.N[i]? = some x) (hj : X.N[j]? = some y) (hx : Loc X.env.scope x) (hy : Loc X.env.scope y)
    (hfx : X.fn x = true ∨ X.env.scope.names.lookup x = some .local := by first | exact .inl rfl | exact .inr rfl | assumption) (hfy : X.fn y = true ∨ X.env.scope.names.lookup y = some .local := by first | exact .inl rfl | exact .inr rfl | assumption) : PG X (.Tuple [.Name x p1, .Name y p2] kt pt) (gOf X.K (.two i j)) :=
  pg_tup hc (pgs_cons (pg_name hN hi hx hfx) (pgs_cons (pg_name hN hj hy hfy) pgs_nil))
/-- a block's own slots are forgotten -/
def wipeE (vs : List Nat) (ρ : En) : En := ⟨(List.range ρ.sl.length).map fun i => if vs.contains i then none else ρ.sl[i]?.join, if vs.contains ρ.mi then none else ρ.me, ρ.mi, ρ.ow.filter fun q => !vs.contains q.1, false⟩
theorem lookup_filter {α : Type} {p : Nat → Bool} {i : Nat} {x : α} : ∀ {l : List (Nat × α)}, (l.filter fun q => p q.1).lookup i = some x → p i = true ∧ l.lookup i = some x
  | [], h => by cases h
  | (j, y) :: l, h => by
    rw [List.filter_cons] at h
    by_cases hj : p j = true
    · rw [if_pos (by exact hj), List.lookup_cons] at h
      rw [List.lookup_cons]
      by_cases hij : i = j
      · subst hij
        rw [beq_self_eq_true] at h ⊢
        exact ⟨hj, h⟩
      · rw [(beq_eq_false_iff_ne.mpr hij : (i == j) = false)] at h ⊢
        exact lookup_filter h
    · rw [if_neg (by exact hj)] at h
      obtain ⟨h1, h2⟩ := lookup_filter h
      refine ⟨h1, ?_⟩
      rw [List.lookup_cons]
      have hij : i ≠ j := fun z => hj (by rw [← z]; exact h1)
      rw [(beq_eq_false_iff_ne.mpr hij : (i == j) = false)]
      exact h2
theorem wipe_get {vs : List Nat} {k : Nat} : (wipe σ vs)[k]? = if vs.contains k then (if k < σ.length then some none else none) else σ[k]? := by
  induction vs with
  | nil => rfl
  | cons a vs ih =>
    show ((wipe σ vs).set a none)[k]? = _
    by_cases ha : a = k
    · subst ha
      simp only [List.contains_cons, beq_self_eq_true, Bool.true_or, if_true]
      by_cases hl : a < σ.length
      · rw [if_pos hl, List.getElem?_set_self (by rw [wipe_length]; exact hl)]
      · rw [if_neg hl, List.getElem?_eq_none (by rw [List.length_set, wipe_length]; omega)]
    · rw [List.getElem?_set_ne ha, ih]
      have : (a :: vs).contains k = vs.contains k := by
        rw [List.contains_cons]
        have : (k == a) = false := beq_eq_false_iff_ne.mpr (Ne.symm ha)
        rw [this, Bool.false_or]
      rw [this]
theorem wipe_same {vs : List Nat} {σ2 : List (Option V)} (hl : σ2.length = σ.length) (h : ∀ k, k ∉ vs → σ2[k]? = σ[k]?) : wipe σ2 vs = wipe σ vs := by
  apply List.ext_getElem?
  intro k
  rw [wipe_get, wipe_get, hl]
  by_cases hk : vs.contains k = true
  · rw [if_pos hk, if_pos hk]
  · rw [if_neg hk, if_neg hk]
    exact h k fun z => hk (List.contains_iff_mem.mpr z)
theorem wipe_idem {vs : List Nat} : wipe (wipe σ vs) vs = wipe σ vs := by
  apply List.ext_getElem?
  intro k
  rw [wipe_get, wipe_get, wipe_length]
  by_cases hk : vs.contains k = true
  · rw [if_pos hk, if_pos hk]
  · rw [if_neg hk, if_neg hk]
theorem EnR.wipe {vs : List Nat} (E : EnR C T S H σ ρ) : EnR C T S H (wipe σ vs) (wipeE vs ρ) := by
  refine ⟨E.tabs, E.sok, ?_, fun i d e => ?_, fun m e => ?_, fun i ds e => ?_⟩
  · rw [wipe_length, ← E.len]
    unfold wipeE
    simp
  · unfold wipeE at e
    simp only at e
    rw [List.getElem?_map] at e
    obtain ⟨k, e1, e2⟩ := Option.map_eq_some_iff.mp e
    obtain ⟨hk, e1⟩ := List.getElem?_eq_some_iff.mp e1
    rw [List.getElem_range] at e1
    subst e1
    split at e2
    · cases e2
    · rename_i hv
      have hk' : i < ρ.sl.length := by simpa using hk
      obtain ⟨v, h1, h2⟩ := E.sl i d (by
        rw [List.getElem?_eq_getElem hk'] at e2 ⊢
        exact congrArg some e2)
      refine ⟨v, ?_, h2⟩
      rw [wipe_get, if_neg hv]
      exact h1
  · unfold wipeE at e
    simp only at e
    split at e
    · cases e
    · rename_i hv
      obtain ⟨p, ps, pr, pb, h1, h2⟩ := E.me m e
      refine ⟨p, ps, pr, pb, ?_, h2⟩
      show (L2.wipe σ vs)[ρ.mi]? = _
      rw [wipe_get, if_neg hv]
      exact h1
  · obtain ⟨hp, e⟩ := lookup_filter (p := fun i => !vs.contains i) (e : (ρ.ow.filter fun q => !vs.contains q.1).lookup i = some ds)
    obtain ⟨a, xs, h1, h2⟩ := E.ow i ds e
    refine ⟨a, xs, ?_, h2⟩
    have hv : ¬ vs.contains i = true := by
      intro z
      have hp : (!vs.contains i) = true := hp
      rw [z] at hp
      cases hp
    rw [wipe_get, if_neg hv]
    exact h1
/-- more is avoided: what was new -/
theorem EnR.more {H0 : Hp} (E : EnR C T S H0 σ ρ) (g : Grow T H0 H) (so : SOk S' H) (k : ∀ a o, S a = false → H0 a = some o → S' a = false) (km : ∀ a, S a = true → S' a = true) : EnR C T S' H σ ρ := by
  refine ⟨g.tabs E.tabs, so, E.len, fun i d e => ?_, fun m e => ?_, fun i ds e => ?_⟩
  · obtain ⟨v, h1, h2⟩ := E.sl i d e
    exact ⟨v, h1, h2.mono fun a o hs e n => ⟨k a o hs e, g.keep a o e n⟩⟩
  · obtain ⟨p, ps, pr, pb, h1, ⟨⟨vm, dx, o1, o2⟩, o3, ⟨xr, o4, o5⟩, ⟨xb, o6, o7⟩, ⟨o8, o9, o10⟩, o11⟩⟩ := E.me m e
    have mk : ∀ {v d}, DV S H0 v d → DV S' H v d := fun h => h.mono fun a o hs e n => ⟨k a o hs e, g.keep a o e n⟩
    have mks : ∀ {v d}, DVs S H0 v d → DVs S' H v d := fun h => h.mono fun a o hs e n => ⟨k a o hs e, g.keep a o e n⟩
    exact ⟨p, ps, pr, pb, h1, ⟨vm, dx, g.keep _ _ o1 nt_ins, mk o2⟩, mk o3, ⟨xr, g.keep _ _ o4 nt_lst, mks o5⟩, ⟨xb, g.keep _ _ o6 nt_lst, mks o7⟩, ⟨km _ o8, km _ o9, km _ o10⟩, o11⟩
  · obtain ⟨a, xs, h1, h2, h3, h4⟩ := E.ow i ds e
    exact ⟨a, xs, h1, km _ h2, g.keep _ _ h3 nt_lst, h4.mono fun a o hs e n => ⟨k a o hs e, g.keep a o e n⟩⟩
end

/-! ### what is walked -/
structure ItOk (T : List Addr) (S Z : Av) (J : It) (H0 : Hp) (ds : List PyData) : Prop where
  go : ∀ i H, GrowM T Z H0 H → i < ds.length → J.go i H
  yld : ∀ i H x H' (S' : Av), GrowM T Z H0 H → SOk S' H → (∀ a o, S a = false → H0 a = some o → S' a = false) → i < ds.length → J.yld i H x H' → Grow T H H' ∧ ∃ d, ds[i]? = some d ∧ DV S' H' x d
  stop : ∀ i H, GrowM T Z H0 H → i = ds.length → J.stop i H
/-- what may be written while one walks: avoided; of an object that is not written no list -/
def ZOk (C : Addr) (S Z : Av) (H : Hp) (σ : List (Option V)) (ρ : En) : Prop := (∀ a, Z a = true → S a = true) ∧ ∀ m, ρ.me = some m → m.w = false → ∀ p ps pr pb, SelfR C S H p ps pr pb m → σ[ρ.mi]? = some (some (.ref p)) → Z pr = false
theorem ZOk.no {C : Addr} {S : Av} {H : Hp} {σ : List (Option V)} {ρ : En} : ZOk C S (fun _ => false) H σ ρ := ⟨fun _ h => (by cases h), fun _ _ _ _ _ _ _ _ _ => rfl⟩
def tIt (C : Addr) (T : List Addr) (f : En → Option (List PyData)) : TI := fun σ H R => ∃ S Z ρ ds, EnR C T S H σ ρ ∧ ZOk C S Z H σ ρ ∧ f ρ = some ds ∧ ∀ J H1, Grow T H H1 → ItOk T S Z J H1 ds → R J H1
abbrev PIt (X : Cx) (C : Addr) (T : List Addr) (tg iter : Expr) (f : En → Option (List PyData)) : Prop := PI X tg iter (tIt C T f)
theorem PI.imp {X : Cx} {tg e : Expr} {t t' : TI} (h : PI X tg e t) (k : ∀ σ H R, t' σ H R → t σ H R) : PI X tg e t' := ⟨fun pins s σ H R I q => h.run pins s σ H R I (k σ H R q)⟩
theorem PI.or {X : Cx} {tg e : Expr} {t u : TI} (h : PI X tg e t) (h' : PI X tg e u) : PI X tg e (fun σ H R => t σ H R ∨ u σ H R) := ⟨fun pins s σ H R I q => q.elim (fun z => h.run pins s σ H R I z) fun z => h'.run pins s σ H R I z⟩
section
variable {X : Cx} {C : Addr} {T : List Addr} {K : PySem.W.Frag} {S Z : Av} {H : Hp} {a b : Expr} {f g : En → Option PyData} {tg : Expr} {pos : Pos}
theorem sq_eq {H : Hp} {a : Addr} {xs ys : List V} (h : H a = some (.lst xs)) (hk : K.lookup a = none) (q : SqL K H a ys) : ys = xs := by
  rcases q with (q | ⟨o, q⟩) | ⟨o, its, n, q, _⟩
  · rw [h] at q
    cases q
    rfl
  · rw [h] at q
    cases q
  · rw [hk] at q
    cases q
theorem zf {a : Addr} (k : ∀ a, Z a = true → S a = true) (hs : S a = false) : Z a = false := by
  cases z : Z a with
  | false => rfl
  | true => rw [k a z] at hs; cases hs
theorem itok_list {p : Addr} {xs : List V} {ds : List PyData} (hz : ∀ a, Z a = true → S a = true) (hp : Z p = false) (h : H p = some (.lst xs)) (r : DVs S H xs ds) : ItOk T S Z (Itl K p) H ds := by
  refine ⟨fun i H1 g hi => ?_, fun i H1 x H' S' g so k hi y => ?_, fun i H1 g hi' => ?_⟩
  · refine ⟨xs, xs[i]'(by rw [r.length]; exact hi), .of (g.keep _ _ hp h nt_lst), List.getElem?_eq_getElem _⟩
  · obtain ⟨rfl, y⟩ := y
    have e := y xs (.of (g.keep _ _ hp h nt_lst))
    obtain ⟨d, e1, dv⟩ := r.getV e
    exact ⟨.refl, d, e1, dv.mono fun a o hs e n => ⟨k a o hs e, g.keep a o (zf hz hs) e n⟩⟩
  · have hi := Nat.le_of_eq hi'.symm
    exact ⟨xs, .of (g.keep _ _ hp h nt_lst), by rw [r.length]; exact hi⟩
theorem itok_tup {p : Addr} {xs : List V} {ds : List PyData} (hz : ∀ a, Z a = true → S a = true) (hp : Z p = false) (h : H p = some (.tup xs)) (r : DVs S H xs ds) : ItOk T S Z (Itt K p) H ds := by
  refine ⟨fun i H1 g hi => ?_, fun i H1 x H' S' g so k hi y => ?_, fun i H1 g hi' => ?_⟩
  · refine ⟨xs, xs[i]'(by rw [r.length]; exact hi), .of (g.keep _ _ hp h nt_tup), List.getElem?_eq_getElem _⟩
  · obtain ⟨rfl, y⟩ := y
    have e := y xs (.of (g.keep _ _ hp h nt_tup))
    obtain ⟨d, e1, dv⟩ := r.getV e
    exact ⟨.refl, d, e1, dv.mono fun a o hs e n => ⟨k a o hs e, g.keep a o (zf hz hs) e n⟩⟩
  · have hi := Nat.le_of_eq hi'.symm
    exact ⟨xs, .of (g.keep _ _ hp h nt_tup), by rw [r.length]; exact hi⟩
def rangeL (lo : Int) (n : Nat) : List PyData := (List.range n).map fun (k : Nat) => PyData.int (lo + (k : Int))
theorem rangeL_len (lo : Int) (n : Nat) : (rangeL lo n).length = n := by unfold rangeL; simp
theorem rangeL_get {lo : Int} {n i : Nat} (h : i < n) : (rangeL lo n)[i]? = some (.int (lo + i)) := by
  unfold rangeL
  rw [List.getElem?_map, List.getElem?_range h]
  rfl
theorem itok_range {lo : Int} {n : Nat} : ItOk T S Z (Itr lo n) H (rangeL lo n) := by
  refine ⟨fun i H1 g hi => ?_, fun i H1 x H' S' g so k hi y => ?_, fun i H1 g hi' => ?_⟩
  · rw [rangeL_len] at hi
    exact hi
  · obtain ⟨rfl, rfl⟩ := y
    rw [rangeL_len] at hi
    exact ⟨.refl, _, rangeL_get hi, .int _⟩
  · have hi := Nat.le_of_eq hi'.symm
    rw [rangeL_len] at hi
    exact hi
def enumL : Nat → List PyData → List PyData
  | _, [] => []
  | i, d :: ds => .tuple [.int (i : Int), d] :: enumL (i + 1) ds
theorem enumL_len : ∀ (k : Nat) (ds : List PyData), (enumL k ds).length = ds.length
  | _, [] => rfl
  | k, _ :: ds => by
    show (enumL (k + 1) ds).length + 1 = ds.length + 1
    rw [enumL_len]
theorem enumL_get : ∀ (k : Nat) (ds : List PyData) (i : Nat) (d : PyData), ds[i]? = some d → (enumL k ds)[i]? = some (.tuple [.int ((k + i : Nat) : Int), d])
  | _, [], i, d, h => by simp at h
  | k, x :: ds, 0, d, h => by
    have h := Option.some.inj h
    subst h
    rfl
  | k, x :: ds, i + 1, d, h => by
    have := enumL_get (k + 1) ds i d (by simpa using h)
    show (enumL (k + 1) ds)[i]? = _
    rw [this]
    congr 4
    omega
theorem itok_enum {p : Addr} {xs : List V} {ds : List PyData} (hz : ∀ a, Z a = true → S a = true) (hp : Z p = false) (h : H p = some (.lst xs)) (r : DVs S H xs ds) : ItOk T S Z (Ite K p) H (enumL 0 ds) := by
  refine ⟨fun i H1 g hi => ?_, fun i H1 x H' S' g so k hi y => ?_, fun i H1 g hi' => ?_⟩
  · rw [enumL_len] at hi
    exact ⟨xs, xs[i]'(by rw [r.length]; exact hi), .of (g.keep _ _ hp h nt_lst), List.getElem?_eq_getElem _⟩
  · obtain ⟨P, y, rfl, hn, rfl, hy⟩ := y
    have e := hy xs (.of (g.keep _ _ hp h nt_lst))
    obtain ⟨d, e1, dv⟩ := r.getV e
    have dv1 : DV S' H1 y d := dv.mono fun a o hs e n => ⟨k a o hs e, g.keep a o (zf hz hs) e n⟩
    refine ⟨.new hn, _, enumL_get 0 ds i d e1, ?_⟩
    rw [Nat.zero_add]
    exact .newT so hn (.cons (.int _) (.cons dv1 .nil))
  · have hi := Nat.le_of_eq hi'.symm
    rw [enumL_len] at hi
    exact ⟨xs, .of (g.keep _ _ hp h nt_lst), by rw [r.length]; exact hi⟩
def zipL (ds es : List PyData) : List PyData := List.zipWith (fun a b => .tuple [a, b]) ds es
theorem zipL_len (ds es : List PyData) : (zipL ds es).length = min ds.length es.length := by unfold zipL; simp
theorem zipL_get {ds es : List PyData} {i : Nat} {a b : PyData} (h1 : ds[i]? = some a) (h2 : es[i]? = some b) : (zipL ds es)[i]? = some (.tuple [a, b]) := by
  unfold zipL
  rw [List.getElem?_zipWith, h1, h2]
theorem itok_zip {p q : Addr} {xs ys : List V} {ds es : List PyData} (hz' : ∀ a, Z a = true → S a = true) (hp : Z p = false) (hq : Z q = false) (h : H p = some (.lst xs)) (r : DVs S H xs ds) (h2 : H q = some (.lst ys)) (r2 : DVs S H ys es) : ItOk T S Z (Itz K p q) H (zipL ds es) := by
  refine ⟨fun i H1 g hi => ?_, fun i H1 x H' S' g so k hi y => ?_, fun i H1 g hi' => ?_⟩
  · rw [zipL_len] at hi
    have := r.length
    have := r2.length
    exact ⟨xs, ys, xs[i]'(by omega), ys[i]'(by omega), .of (g.keep _ _ hp h nt_lst), .of (g.keep _ _ hq h2 nt_lst), List.getElem?_eq_getElem _, List.getElem?_eq_getElem _⟩
  · obtain ⟨P, y, z, rfl, hn, rfl, hy, hz⟩ := y
    obtain ⟨d, e1, dv⟩ := r.getV (hy xs (.of (g.keep _ _ hp h nt_lst)))
    obtain ⟨d2, e2, dv2⟩ := r2.getV (hz ys (.of (g.keep _ _ hq h2 nt_lst)))
    have dv1 : DV S' H1 y d := dv.mono fun a o hs e n => ⟨k a o hs e, g.keep a o (zf hz' hs) e n⟩
    have dv3 : DV S' H1 z d2 := dv2.mono fun a o hs e n => ⟨k a o hs e, g.keep a o (zf hz' hs) e n⟩
    exact ⟨.new hn, _, zipL_get e1 e2, .newT so hn (.cons dv1 (.cons dv3 .nil))⟩
  · have hi := Nat.le_of_eq hi'.symm
    rw [zipL_len] at hi
    have := r.length
    have := r2.length
    exact ⟨xs, ys, .of (g.keep _ _ hp h nt_lst), .of (g.keep _ _ hq h2 nt_lst), by omega⟩
/-- over a list or a tuple -/
def sSeq (f : En → Option PyData) : En → Option (List PyData) := fun ρ => (f ρ).bind items
theorem pit_seq (ha : PD X C T a f) : PIt X C T tg a (sSeq f) := by
  refine PI.imp (PI.or (pi_list ha) (pi_tup ha)) fun σ H R ⟨S, Z, ρ, ds, E, hZ, e, q⟩ => ?_
  obtain ⟨x, e1, e2⟩ := Option.bind_eq_some_iff.mp e
  cases x with
  | list es =>
    cases e2
    refine .inl ⟨S, ρ, _, E, e1, fun v H1 g dv => ?_⟩
    cases dv with
    | lst h1 h2 h3 => exact ⟨_, rfl, ⟨_, .of h2⟩, q _ H1 g (itok_list hZ.1 (zf hZ.1 h1) h2 h3)⟩
  | tuple es =>
    cases e2
    refine .inr ⟨S, ρ, _, E, e1, fun v H1 g dv => ?_⟩
    cases dv with
    | tup h1 h2 h3 => exact ⟨_, rfl, ⟨_, .of h2⟩, q _ H1 g (itok_tup hZ.1 (zf hZ.1 h1) h2 h3)⟩
  | none => cases e2
  | bool _ => cases e2
  | int _ => cases e2
  | str _ => cases e2
  | dict _ => cases e2
def sRng1 (f : En → Option PyData) : En → Option (List PyData) := fun ρ => (f ρ).bind fun
  | .int n => if n ≤ 1000 ∧ -1000 ≤ n then some (rangeL 0 n.toNat) else none
  | _ => none
def sRng2 (f g : En → Option PyData) : En → Option (List PyData) := fun ρ => (f ρ).bind fun x => (g ρ).bind fun y => match x, y with
  | .int i, .int j => if i ≤ 1000 ∧ -1000 ≤ i ∧ j ≤ 1000 ∧ -1000 ≤ j then some (rangeL i (j - i).toNat) else none
  | _, _ => none
theorem pit_rng1 {p : Pos} (hg : Gl X "range") (hm : X.mg "range" = none) (ha : PD X C T a f) (hs : starEach [a] X.env = [(false, eval a X.env)] := by rfl) (he : starEach (a :: []) X.env = (false, eval a X.env) :: starEach [] X.env := by rfl) : PIt X C T tg (.Call (.Name "range" p) [a] [] pos) (sRng1 f) := by
  refine PI.imp (pi_range1 hg hm (pds_cons ha pds_nil he) hs) fun σ H R ⟨S, Z, ρ, ds, E, hZ, e, q⟩ => ?_
  obtain ⟨x, e1, e2⟩ := Option.bind_eq_some_iff.mp e
  cases x <;> try contradiction
  rename_i n
  have e2 : (if n ≤ 1000 ∧ -1000 ≤ n then some (rangeL 0 n.toNat) else none) = some ds := e2
  split at e2
  · rename_i hn
    cases e2
    refine ⟨S, ρ, [.int n], E, by unfold sCons sNil; rw [e1]; rfl, fun vs H1 g dvs => ?_⟩
    cases dvs with
    | cons dv r =>
      cases r
      cases dv
      exact ⟨n, rfl, by omega, by omega, q _ H1 g itok_range⟩
  · cases e2
theorem pit_rng2 {p : Pos} (hg : Gl X "range") (hm : X.mg "range" = none) (ha : PD X C T a f) (hb : PD X C T b g) (hs : starEach [a, b] X.env = [(false, eval a X.env), (false, eval b X.env)] := by rfl) (hs2 : starEach [b] X.env = [(false, eval b X.env)] := by rfl)
    (he : starEach (a :: [b]) X.env = (false, eval a X.env) :: starEach [b] X.env := by rfl) (he2 : starEach (b :: []) X.env = (false, eval b X.env) :: starEach [] X.env := by rfl) : PIt X C T tg (.Call (.Name "range" p) [a, b] [] pos) (sRng2 f g) := by
  refine PI.imp (pi_range2 hg hm (pds_cons ha (pds_cons hb pds_nil he2) he) hs hs2) fun σ H R ⟨S, Z, ρ, ds, E, hZ, e, q⟩ => ?_
  obtain ⟨x, e1, e2⟩ := Option.bind_eq_some_iff.mp e
  obtain ⟨y, e3, e4⟩ := Option.bind_eq_some_iff.mp e2
  cases x <;> try contradiction
  cases y <;> try contradiction
  rename_i i j
  have e4 : (if i ≤ 1000 ∧ -1000 ≤ i ∧ j ≤ 1000 ∧ -1000 ≤ j then some (rangeL i (j - i).toNat) else none) = some ds := e4
  split at e4
  · rename_i hn
    cases e4
    refine ⟨S, ρ, [.int i, .int j], E, by unfold sCons sNil; simp only [e1, e3]; rfl, fun vs H1 g dvs => ?_⟩
    cases dvs with
    | cons dv r =>
      cases r with
      | cons dv2 r =>
        cases r
        cases dv
        cases dv2
        exact ⟨i, j, rfl, ⟨by omega, by omega, by omega, by omega⟩, q _ H1 g itok_range⟩
  · cases e4
def sEnum (f : En → Option PyData) : En → Option (List PyData) := fun ρ => (f ρ).bind fun
  | .list ds => some (enumL 0 ds)
  | _ => none
theorem pit_enum {p tpos : Pos} {elts : List Expr} {kk : Nat} (hg : Gl X "enumerate") (hm : X.mg "enumerate" = none) (ha : PD X C T a f) (hs : starEach [a] X.env = [(false, eval a X.env)] := by rfl) (he : starEach (a :: []) X.env = (false, eval a X.env) :: starEach [] X.env := by rfl) :
    PIt X C T (.Tuple elts kk tpos) (.Call (.Name "enumerate" p) [a] [] pos) (sEnum f) := by
  refine PI.imp (pi_enum hg hm (pds_cons ha pds_nil he) hs) fun σ H R ⟨S, Z, ρ, ds, E, hZ, e, q⟩ => ?_
  obtain ⟨x, e1, e2⟩ := Option.bind_eq_some_iff.mp e
  cases x <;> try contradiction
  rename_i es
  have e2 : some (enumL 0 es) = some ds := e2
  cases e2
  refine ⟨S, ρ, [.list es], E, by unfold sCons sNil; rw [e1]; rfl, fun vs H1 g dvs => ?_⟩
  cases dvs with
  | cons dv r =>
    cases r
    cases dv with
    | lst h1 h2 h3 => exact ⟨_, _, rfl, .of h2, q _ H1 g (itok_enum hZ.1 (zf hZ.1 h1) h2 h3)⟩
/-- enumerate(self.rows) -/
def sEnumRows (si : Nat) : En → Option (List PyData) := fun ρ => (ρ.meAt si).bind fun m => if m.w = true then none else some (enumL 0 m.rows)
theorem pit_enumRows {sx : Str} {si : Nat} {p tpos sp ap : Pos} {elts : List Expr} {kk : Nat} (hs0 : PE X (.Name sx sp) (tVar si)) (hC : Cls X.K C) (hN : NoAttr X.K C "rows") (hg : Gl X "enumerate") (hm : X.mg "enumerate" = none)
    (hba : attributeBase (.Name sx sp) "rows" X.env (eval (.Name sx sp) X.env) = eval (.Name sx sp) X.env := by rfl) (hs : starEach [.Attribute (.Name sx sp) "rows" ap] X.env = [(false, eval (.Attribute (.Name sx sp) "rows" ap) X.env)] := by rfl)
    (he : starEach (.Attribute (.Name sx sp) "rows" ap :: []) X.env = (false, eval (.Attribute (.Name sx sp) "rows" ap) X.env) :: starEach [] X.env := by rfl) :
    PIt X C T (.Tuple elts kk tpos) (.Call (.Name "enumerate" p) [.Attribute (.Name sx sp) "rows" ap] [] pos) (sEnumRows si) := by
  refine PI.imp (pi_enum hg hm (pa_cons (pe_fld hs0 hba) pa_nil he) hs) fun σ H R ⟨S, Z, ρ, ds, E, hZ, e, q⟩ => ?_
  obtain ⟨md, e1, e2⟩ := Option.bind_eq_some_iff.mp e
  split at e2
  case isTrue => cases e2
  rename_i hw
  cases e2
  have hi : ρ.mi = si ∧ ρ.me = some md := by
    unfold En.meAt at e1
    split at e1
    · exact ⟨by assumption, e1⟩
    · cases e1
  obtain ⟨p, ps', pr, pb, h1, h2⟩ := E.meAt md e1
  have hpr : Z pr = false := hZ.2 md hi.2 (by cases h : md.w with
    | false => rfl
    | true => exact absurd h hw) p ps' pr pb h2 (by rw [hi.1]; exact h1)
  obtain ⟨vm, dx, ho, dm⟩ := h2.ob
  obtain ⟨xr, hx, dxr⟩ := h2.rw
  exact ⟨_, h1, p, C, dx, _, _, rfl, ho, hC, hN, flds_rows, pr, xr, rfl, .of hx, q _ H .refl (itok_enum hZ.1 hpr hx dxr)⟩
def sZip (f g : En → Option PyData) : En → Option (List PyData) := fun ρ => (f ρ).bind fun x => (g ρ).bind fun y => match x, y with
  | .list ds, .list es => some (zipL ds es)
  | _, _ => none
theorem pit_zip {p tpos : Pos} {elts : List Expr} {kk : Nat} (hg : Gl X "zip") (hm : X.mg "zip" = none) (ha : PD X C T a f) (hb : PD X C T b g)
    (hs : starEach (a :: [b]) X.env = (false, eval a X.env) :: starEach [b] X.env := by rfl) (hs2 : starEach (b :: []) X.env = (false, eval b X.env) :: starEach [] X.env := by rfl) (hpl : (backTo pos (starEach [b] X.env)).any (·.1) = false := by rfl) :
    PIt X C T (.Tuple elts kk tpos) (.Call (.Name "zip" p) [a, b] [] pos) (sZip f g) := by
  refine PI.imp (pi_zip hg hm (pds_cons ha (pds_cons hb pds_nil hs2) hs) hs hpl) fun σ H R ⟨S, Z, ρ, ds, E, hZ, e, q⟩ => ?_
  obtain ⟨x, e1, e2⟩ := Option.bind_eq_some_iff.mp e
  obtain ⟨y, e3, e4⟩ := Option.bind_eq_some_iff.mp e2
  cases x <;> try contradiction
  cases y <;> try contradiction
  rename_i us ws
  have e4 : some (zipL us ws) = some ds := e4
  cases e4
  refine ⟨S, ρ, [.list us, .list ws], E, by unfold sCons sNil; simp only [e1, e3]; rfl, fun vs H1 g dvs => ?_⟩
  cases dvs with
  | cons dv r =>
    cases r with
    | cons dv2 r =>
      cases r
      cases dv with
      | lst h1 h2 h3 =>
        cases dv2 with
        | lst k1 k2 k3 => exact ⟨_, _, _, _, rfl, .of h2, .of k2, q _ H1 g (itok_zip hZ.1 (zf hZ.1 h1) (zf hZ.1 k1) h2 h3 k2 k3)⟩
end
end DL
end
section
set_option maxHeartbeats 4000000
namespace DL
open PySem PySem.Spec PyProof.Rows L2
open GxR (TabB TabG Tabbed)

/-! ### comprehensions -/
def tTs (t : TT) : TT := t
def compL (tg : Tgt) (tt : En → Option Bool) (el : En → Option PyData) (ρ : En) : List PyData → Option (List PyData)
  | [] => some []
  | d :: ds => (setT tg d ρ).bind fun ρ1 => (tt ρ1).bind fun c => if c = true then (el ρ1).bind fun y => (compL tg tt el ρ ds).map (y :: ·) else compL tg tt el ρ ds
/-- the list that a comprehension makes -/
def sComp (vs : List Nat) (it : En → Option (List PyData)) (tg : Tgt) (tt : En → Option Bool) (el : En → Option PyData) : En → Option (List PyData) := fun ρ => (it ρ).bind fun ds => if ds.length ≤ LIM then compL tg tt el (wipeE vs ρ) ds else none
def dComp (vs : List Nat) (it : En → Option (List PyData)) (tg : Tgt) (tt : En → Option Bool) (el : En → Option PyData) : En → Option PyData := fun ρ => (sComp vs it tg tt el ρ).map .list
def bYes : En → Option Bool := fun _ => some true
/-- one more is avoided -/
def Av.add (S : Av) (D : Addr) : Av := fun a => S a || decide (a = D)
theorem Av.add_self {S : Av} {D : Addr} : S.add D D = true := by unfold Av.add; simp
theorem Av.add_of {S : Av} {D a : Addr} (h : S a = true) : S.add D a = true := by unfold Av.add; rw [h]; rfl
theorem Av.add_ne {S : Av} {D a : Addr} (h : S a = false) (hn : a ≠ D) : S.add D a = false := by unfold Av.add; rw [h]; simp [hn]
theorem Av.add_sub {S : Av} {D a : Addr} (h : S.add D a = false) : S a = false ∧ a ≠ D := by
  unfold Av.add at h
  rw [Bool.or_eq_false_iff, decide_eq_false_iff_not] at h
  exact h
theorem SOk.add {S : Av} {H : Hp} {D : Addr} {o : HO} (s : SOk S H) (h : H D = some o) (n : NT o) : SOk (S.add D) H := fun a ha => by
  by_cases hd : a = D
  · exact ⟨o, by rw [hd]; exact h, n⟩
  · refine s a ?_
    unfold Av.add at ha
    rw [decide_eq_false hd, Bool.or_false] at ha
    exact ha
theorem DV.less {S : Av} {D : Addr} {H : Hp} {v : V} {d : PyData} (h : DV (S.add D) H v d) : DV S H v d := h.mono fun a o hs e n => ⟨(Av.add_sub hs).1, e⟩
theorem DVs.less {S : Av} {D : Addr} {H : Hp} {v : List V} {d : List PyData} (h : DVs (S.add D) H v d) : DVs S H v d := h.mono fun a o hs e n => ⟨(Av.add_sub hs).1, e⟩
theorem DVs.updA {S : Av} {D : Addr} {H : Hp} {o : HO} {v : List V} {d : List PyData} (h : DVs S H v d) (hD : S D = true) : DVs S (upd H D o) v d := h.mono fun a o hs e n => ⟨hs, by
  rw [upd_ne]
  · exact e
  · intro z
    rw [z, hD] at hs
    cases hs⟩
theorem DV.updA {S : Av} {D : Addr} {H : Hp} {o : HO} {v : V} {d : PyData} (h : DV S H v d) (hD : S D = true) : DV S (upd H D o) v d := h.mono fun a o hs e n => ⟨hs, by
  rw [upd_ne]
  · exact e
  · intro z
    rw [z, hD] at hs
    cases hs⟩
/-- a list that was new is written -/
theorem Grow.updN {T : List Addr} {H1 H : Hp} {D : Addr} {o o' : HO} (g : Grow T H1 H) (h : H1 D = none) (ho : H D = some o) (n : NT o) : Grow T H1 (upd H D o') :=
  ⟨fun b p e q => by rw [upd_ne (ne_of_none e h)]; exact g.keep b p e q, fun t P hP => by
    obtain ⟨ps, e, z⟩ := g.tabs t P hP
    refine ⟨ps, ?_, z⟩
    rw [upd_ne]
    · exact e
    · intro y
      rw [y, ho] at e
      exact n ps (Option.some.inj e), fun b e => by
    by_cases hb : b = D
    · rw [hb]
      exact h
    · rw [upd_ne hb] at e
      exact g.dom b e⟩
section
variable {X : Cx} {C : Addr} {T : List Addr} {elt tg iter : Expr} {ifs : List Expr} {it : En → Option (List PyData)} {tt : En → Option Bool} {el : En → Option PyData} {tgt : Tgt}
/-- what a fresh list is: new, not in what is avoided -/
def tDF (C : Addr) (T : List Addr) (f : En → Option (List PyData)) : TE := fun σ H Q => ∃ S ρ ds, EnR C T S H σ ρ ∧ f ρ = some ds ∧ ∀ a xs H', Grow T H H' → H a = none → H' a = some (.lst xs) → DVs (S.add a) H' xs ds → Q (.ref a) H'
abbrev PDF (X : Cx) (C : Addr) (T : List Addr) (e : Expr) (f : En → Option (List PyData)) : Prop := PE X e (tDF C T f)
theorem pd_of_pdf {e : Expr} {f : En → Option (List PyData)} (h : PDF X C T e f) : PD X C T e (fun ρ => (f ρ).map .list) := PE.imp h fun σ H Q ⟨S, ρ, d, E, e, q⟩ => by
  obtain ⟨ds, e1, rfl⟩ := Option.map_eq_some_iff.mp e
  refine ⟨S, ρ, ds, E, e1, fun a xs H' g hn ha dv => q _ H' g (.lst ?_ ha dv.less)⟩
  exact E.sok.new hn
def tBs (C : Addr) (T : List Addr) (f : En → Option Bool) : TT := tDB C T f
theorem pts_no : PTs X [] (tDB C T bYes) := ⟨fun pins s σ H Q I ⟨S, ρ, b, E, e, q⟩ => by
  cases e
  exact pts_nil.run pins s σ H Q I (q H .refl)⟩
theorem tLc_of {wi : TI} {vs : List Nat} {σ : List (Option V)} {H : Hp} {Q : VK} {K : PySem.W.Frag} (hvs : ∀ k ∈ tgt.ix, k ∈ vs) (hwi : wi = tIt C T it)
    (q : tDF C T (sComp vs it tgt tt el) σ H Q) : tLc wi (gOf K tgt) (tDB C T tt) (tD C T el) vs σ H Q := by
  subst hwi
  obtain ⟨S, ρ, ys, E, e, q⟩ := q
  obtain ⟨ds, e1, e2⟩ := Option.bind_eq_some_iff.mp e
  split at e2
  case isFalse => cases e2
  rename_i hL
  refine ⟨S, fun _ => false, ρ, ds, E, ZOk.no, e1, fun J H1 g1 ok D hD => ?_⟩
  have soD : SOk (S.add D) (upd H1 D (.lst [])) := (E.sok.grow (g1.trans (Grow.new (T := T) hD))).add upd_same nt_lst
  have hHD : H D = none := g1.dom D hD
  refine ⟨fun i m Hx => m = ds.length - i ∧ i ≤ ds.length ∧ Grow T H1 Hx ∧ ∃ acc out, Hx D = some (.lst acc) ∧ acc.length ≤ i ∧ DVs (S.add D) Hx acc out ∧ (compL tgt tt el (wipeE vs ρ) (ds.drop i)).map (out ++ ·) = some ys, ⟨ds.length, rfl, Nat.zero_le _, Grow.new hD, [], [], upd_same, Nat.le_refl _, .nil, by rw [List.drop_zero, e2]; rfl⟩, ?_⟩
  rintro i m Hx ⟨rfl, hi, gx, acc, out, hacc, hla, dacc, hc⟩
  have gHx : Grow T H Hx := g1.trans gx
  have so' : SOk (S.add D) Hx := fun a ha => by
    by_cases hd : a = D
    · exact ⟨_, by rw [hd]; exact hacc, nt_lst⟩
    · refine (E.sok.grow gHx) a ?_
      unfold Av.add at ha
      rw [decide_eq_false hd, Bool.or_false] at ha
      exact ha
  by_cases hlt : i < ds.length
  · refine .inr ⟨ok.go i Hx gx.gm hlt, fun H' => Grow T H1 H' ∧ ∃ acc out, H' D = some (.lst acc) ∧ acc.length ≤ i + 1 ∧ DVs (S.add D) H' acc out ∧ (compL tgt tt el (wipeE vs ρ) (ds.drop (i + 1))).map (out ++ ·) = some ys, fun H' h' => ⟨_, by omega, rfl, hlt, h'⟩, fun x H' y => ?_⟩
    obtain ⟨g2, d, hd, dv⟩ := ok.yld i Hx x H' (S.add D) gx.gm so' (fun a o hs e => Av.add_ne hs (ne_of_none e hD)) hlt y
    have hdrop : ds.drop i = d :: ds.drop (i + 1) := by
      obtain ⟨hl, e⟩ := List.getElem?_eq_some_iff.mp hd
      rw [List.drop_eq_getElem_cons hl, e]
    rw [hdrop] at hc
    obtain ⟨zs, hc, hzs⟩ := Option.map_eq_some_iff.mp hc
    have hc : ((setT tgt d (wipeE vs ρ)).bind fun ρ1 => (tt ρ1).bind fun c => if c = true then (el ρ1).bind fun y => (compL tgt tt el (wipeE vs ρ) (ds.drop (i + 1))).map (y :: ·) else compL tgt tt el (wipeE vs ρ) (ds.drop (i + 1))) = some zs := hc
    obtain ⟨ρ1, c1, hc⟩ := Option.bind_eq_some_iff.mp hc
    obtain ⟨c, c2, hc⟩ := Option.bind_eq_some_iff.mp hc
    have gH' : Grow T H H' := gHx.trans g2
    have E1 : EnR C T (S.add D) H' (wipe σ vs) (wipeE vs ρ) := (E.more gH' (so'.grow g2) (fun a o hs e => Av.add_ne hs (ne_of_none e hHD)) fun a ha => Av.add_of ha).wipe
    refine gOf_ok E1 dv c1 fun σ2 E2 hsame hlen => ?_
    refine ⟨?_, S.add D, ρ1, c, E2, c2, fun H3 g3 => ?_⟩
    · rw [wipe_same hlen fun k hk => hsame k fun z => hk (hvs k z), wipe_idem]
    have hD3 : H3 D = some (.lst acc) := g3.keep _ _ (g2.keep _ _ hacc nt_lst) nt_lst
    cases c with
    | false =>
      rw [if_neg Bool.false_ne_true] at hc
      dsimp only
      rw [if_neg Bool.false_ne_true]
      exact ⟨(gx.trans g2).trans g3, acc, out, hD3, by omega, (dacc.grow g2).grow g3, by rw [hc]; exact congrArg some hzs⟩
    | true =>
      rw [if_pos rfl] at hc
      dsimp only
      rw [if_pos rfl]
      obtain ⟨y, c3, hc⟩ := Option.bind_eq_some_iff.mp hc
      obtain ⟨ws, c4, rfl⟩ := Option.map_eq_some_iff.mp hc
      refine ⟨S.add D, ρ1, y, E2.grow g3, c3, fun yv H4 g4 dy => ?_⟩
      have hD4 : H4 D = some (.lst acc) := g4.keep _ _ hD3 nt_lst
      have gg := ((gx.trans g2).trans g3).trans g4
      refine ⟨acc, hD4, lim_size (by omega), gg.updN hD hD4 nt_lst, acc ++ [yv], out ++ [y], upd_same, by rw [List.length_append]; simp; omega, ?_, ?_⟩
      · exact ((((dacc.grow g2).grow g3).grow g4).append (.cons dy .nil)).updA Av.add_self
      · rw [c4, ← hzs]
        simp
  · have hie : i = ds.length := by omega
    rw [hie, List.drop_length] at hc
    have hc : some (out ++ []) = some ys := hc
    rw [List.append_nil] at hc
    cases hc
    exact .inl ⟨ok.stop i Hx gx.gm (by omega), q D acc Hx gHx hHD hacc dacc⟩
end
end DL
end
section
set_option maxHeartbeats 4000000
namespace DL
open PySem PySem.Spec PyProof.Rows L2
open GxR (TabB TabG Tabbed)
section
variable {X : Cx} {C : Addr} {T : List Addr} {elt tg iter : Expr} {ifs : List Expr} {it : En → Option (List PyData)} {tt : En → Option Bool} {el : En → Option PyData} {tgt : Tgt}
theorem pdf_lc {scope : Scope} {own : List (Str × Nat)} {pos : Pos} (hc : X.calm = true) (hN : X.N.Nodup) (hi : PIt X C T tg iter it) (ok : BlkOk X.N X.env.scope scope own)
    (hg : ∀ (s : Shared) (H : Hp) (C : Addr) (cl : List (Str × Addr)) (fp : List Addr), PG (X.blk s H scope (compEnvC scope cl C X.env) fp) tg (gOf X.K tgt))
    (ht : ∀ (s : Shared) (H : Hp) (C' : Addr) (cl : List (Str × Addr)) (fp : List Addr), PTs (X.blk s H scope (compEnvC scope cl C' X.env) fp) ifs (tDB C T tt))
    (he : ∀ (s : Shared) (H : Hp) (C' : Addr) (cl : List (Str × Addr)) (fp : List Addr), PD (X.blk s H scope (compEnvC scope cl C' X.env) fp) C T elt el)
    (hvs : ∀ k ∈ tgt.ix, k ∈ own.map (·.2) := by decide) (hs : ∀ x, foldedSetIterable iter X.env x = pure x := by intro _; rfl) : PDF X C T (.ListComp elt [⟨tg, iter, ifs, 0⟩] scope pos) (sComp (own.map (·.2)) it tgt tt el) :=
  PE.imp (pe_lc hc hN hi ok hg ht he hs) fun σ H Q q => tLc_of hvs rfl q
theorem pd_lc {scope : Scope} {own : List (Str × Nat)} {pos : Pos} (hc : X.calm = true) (hN : X.N.Nodup) (hi : PIt X C T tg iter it) (ok : BlkOk X.N X.env.scope scope own)
    (hg : ∀ (s : Shared) (H : Hp) (C : Addr) (cl : List (Str × Addr)) (fp : List Addr), PG (X.blk s H scope (compEnvC scope cl C X.env) fp) tg (gOf X.K tgt))
    (ht : ∀ (s : Shared) (H : Hp) (C' : Addr) (cl : List (Str × Addr)) (fp : List Addr), PTs (X.blk s H scope (compEnvC scope cl C' X.env) fp) ifs (tDB C T tt))
    (he : ∀ (s : Shared) (H : Hp) (C' : Addr) (cl : List (Str × Addr)) (fp : List Addr), PD (X.blk s H scope (compEnvC scope cl C' X.env) fp) C T elt el)
    (hvs : ∀ k ∈ tgt.ix, k ∈ own.map (·.2) := by decide) (hs : ∀ x, foldedSetIterable iter X.env x = pure x := by intro _; rfl) : PD X C T (.ListComp elt [⟨tg, iter, ifs, 0⟩] scope pos) (dComp (own.map (·.2)) it tgt tt el) :=
  pd_of_pdf (pdf_lc hc hN hi ok hg ht he hvs hs)
/-! ### all, any, sum of a generator -/
def allL (ix : Nat) (el : En → Option PyData) (ρ : En) : List PyData → Option Bool
  | [] => some true
  | d :: ds => (setE ix d ρ).bind fun ρ1 => ((el ρ1).bind asB).bind fun b => if b = true then allL ix el ρ ds else some false
def anyL (ix : Nat) (el : En → Option PyData) (ρ : En) : List PyData → Option Bool
  | [] => some false
  | d :: ds => (setE ix d ρ).bind fun ρ1 => ((el ρ1).bind asB).bind fun b => if b = true then some true else anyL ix el ρ ds
def sumL (ix : Nat) (el : En → Option PyData) (ρ : En) : List PyData → Option (List Int)
  | [] => some []
  | d :: ds => (setE ix d ρ).bind fun ρ1 => ((el ρ1).bind asInt).bind fun n => if n ≤ 1000000 ∧ -1000000 ≤ n then (sumL ix el ρ ds).map (n :: ·) else none
def dAll (ix : Nat) (it : En → Option (List PyData)) (el : En → Option PyData) : En → Option PyData := fun ρ => (it ρ).bind fun ds => (allL ix el (wipeE [ix] ρ) ds).map .bool
def dAny (ix : Nat) (it : En → Option (List PyData)) (el : En → Option PyData) : En → Option PyData := fun ρ => (it ρ).bind fun ds => (anyL ix el (wipeE [ix] ρ) ds).map .bool
def dSumG (ix : Nat) (it : En → Option (List PyData)) (el : En → Option PyData) : En → Option PyData := fun ρ => (it ρ).bind fun ds => if ds.length ≤ LIM then (sumL ix el (wipeE [ix] ρ) ds).map fun ns => .int ns.sum else none
variable {x : Str} {px gpos : Pos} {scope : Scope} {ix k : Nat} {c P : Addr}
theorem more_id {S : Av} {H0 H : Hp} {σ : List (Option V)} {ρ : En} (E : EnR C T S H0 σ ρ) (g : Grow T H0 H) : EnR C T S H σ ρ := E.grow g
theorem pd_all {p pos : Pos} (hP : P ∈ T) (hr : Room (k + 3) X.A) (hg : Gl X "all") (hm : X.mg "all" = none) (TB : TabB X.base X.mg c P) (hcode : X.env.code = .ref c) (hc : X.calm = true) (hN : X.N.Nodup) (hi : PIt X C T (.Name x px) iter it) (ok : BlkOk X.N X.env.scope scope [(x, ix)]) (G : WG.GScp X.env.scope scope x)
    (he : ∀ (A' : Around) (s : Shared) (H : Hp) (C' : Addr) (cl : List (Str × Addr)) (code : Value) (fp : List Addr) (pn : List (Addr × Obj)), Room k A' → PD (WG.gcx X A' s H (genEnv scope cl C' code builtinsNs X.env) fp pn) C T elt el)
    (hs : ∀ v, genFold iter X.env v = pure v := by intro _; rfl)
    (hst : starEach [.GeneratorExp elt [⟨.Name x px, iter, [], 0⟩] scope gpos] X.env = (false, eval (.GeneratorExp elt [⟨.Name x px, iter, [], 0⟩] scope gpos) X.env) :: starEach [] X.env := by rfl) :
    PD X C T (.Call (.Name "all" p) [.GeneratorExp elt [⟨.Name x px, iter, [], 0⟩] scope gpos] [] pos) (dAll ix it el) := by
  refine PE.imp (WG.pe_allG hr hg hm TB hcode hc hN hi ok G he (hs := hs) (hst := hst)) fun σ H Q ⟨S, ρ, d, E, e, q⟩ => ?_
  obtain ⟨ds, e1, e2⟩ := Option.bind_eq_some_iff.mp e
  obtain ⟨b, e3, rfl⟩ := Option.map_eq_some_iff.mp e2
  refine ⟨S, fun _ => false, ρ, ds, E, ZOk.no, e1, fun J H1 g1 okJ => ⟨(E.grow g1).tabs P hP, fun H2 tb => ?_⟩⟩
  have g2 : Grow T H1 H2 := Grow.tab ((E.grow g1).tabs P hP) tb
  refine ⟨fun i m Hx => m = ds.length - i ∧ i ≤ ds.length ∧ Grow T H1 Hx ∧ allL ix el (wipeE [ix] ρ) (ds.drop i) = some b, ⟨_, rfl, Nat.zero_le _, g2, e3⟩, ?_⟩
  rintro i m Hx ⟨rfl, hi, gx, hb⟩
  by_cases hlt : i < ds.length
  · refine .inr ⟨by omega, okJ.go i Hx gx.gm hlt, fun v H' y => ?_⟩
    obtain ⟨g3, d, hd, dv⟩ := okJ.yld i Hx v H' S gx.gm ((E.sok.grow g1).grow gx) (fun a o hs _ => hs) hlt y
    have hdrop : ds.drop i = d :: ds.drop (i + 1) := by
      obtain ⟨hl, e⟩ := List.getElem?_eq_some_iff.mp hd
      rw [List.drop_eq_getElem_cons hl, e]
    rw [hdrop] at hb
    have hb : ((setE ix d (wipeE [ix] ρ)).bind fun ρ1 => ((el ρ1).bind asB).bind fun b => if b = true then allL ix el (wipeE [ix] ρ) (ds.drop (i + 1)) else some false) = some b := hb
    obtain ⟨ρ1, c1, hb⟩ := Option.bind_eq_some_iff.mp hb
    obtain ⟨b1, c2, hb⟩ := Option.bind_eq_some_iff.mp hb
    obtain ⟨db, c2, c3⟩ := Option.bind_eq_some_iff.mp c2
    obtain rfl := asB_some c3
    have E1 := (((E.grow g1).grow gx).grow g3).wipe (vs := [ix])
    obtain ⟨E2, _⟩ := E1.set dv c1
    refine ⟨S, ρ1, _, E2, c2, fun yv H4 g4 dy => ?_⟩
    cases dy
    refine ⟨b1, rfl, fun hb1 => ?_, fun hb1 => ?_⟩
    · subst hb1
      rw [if_pos rfl] at hb
      exact ⟨ds.length - (i + 1), by omega, rfl, hlt, (gx.trans g3).trans g4, hb⟩
    · subst hb1
      rw [if_neg Bool.false_ne_true] at hb
      cases hb
      exact q _ H4 (((g1.trans gx).trans g3).trans g4) (.bl _)
  · rw [List.drop_of_length_le (by omega)] at hb
    cases hb
    exact .inl ⟨okJ.stop i Hx gx.gm (by omega), q _ Hx (g1.trans gx) (.bl _)⟩
theorem pd_any {p pos : Pos} (hP : P ∈ T) (hr : Room (k + 3) X.A) (hg : Gl X "any") (hm : X.mg "any" = none) (TB : TabB X.base X.mg c P) (hcode : X.env.code = .ref c) (hc : X.calm = true) (hN : X.N.Nodup) (hi : PIt X C T (.Name x px) iter it) (ok : BlkOk X.N X.env.scope scope [(x, ix)]) (G : WG.GScp X.env.scope scope x)
    (he : ∀ (A' : Around) (s : Shared) (H : Hp) (C' : Addr) (cl : List (Str × Addr)) (code : Value) (fp : List Addr) (pn : List (Addr × Obj)), Room k A' → PD (WG.gcx X A' s H (genEnv scope cl C' code builtinsNs X.env) fp pn) C T elt el)
    (hs : ∀ v, genFold iter X.env v = pure v := by intro _; rfl)
    (hst : starEach [.GeneratorExp elt [⟨.Name x px, iter, [], 0⟩] scope gpos] X.env = (false, eval (.GeneratorExp elt [⟨.Name x px, iter, [], 0⟩] scope gpos) X.env) :: starEach [] X.env := by rfl) :
    PD X C T (.Call (.Name "any" p) [.GeneratorExp elt [⟨.Name x px, iter, [], 0⟩] scope gpos] [] pos) (dAny ix it el) := by
  refine PE.imp (WG.pe_anyG hr hg hm TB hcode hc hN hi ok G he (hs := hs) (hst := hst)) fun σ H Q ⟨S, ρ, d, E, e, q⟩ => ?_
  obtain ⟨ds, e1, e2⟩ := Option.bind_eq_some_iff.mp e
  obtain ⟨b, e3, rfl⟩ := Option.map_eq_some_iff.mp e2
  refine ⟨S, fun _ => false, ρ, ds, E, ZOk.no, e1, fun J H1 g1 okJ => ⟨(E.grow g1).tabs P hP, fun H2 tb => ?_⟩⟩
  have g2 : Grow T H1 H2 := Grow.tab ((E.grow g1).tabs P hP) tb
  refine ⟨fun i m Hx => m = ds.length - i ∧ i ≤ ds.length ∧ Grow T H1 Hx ∧ anyL ix el (wipeE [ix] ρ) (ds.drop i) = some b, ⟨_, rfl, Nat.zero_le _, g2, e3⟩, ?_⟩
  rintro i m Hx ⟨rfl, hi, gx, hb⟩
  by_cases hlt : i < ds.length
  · refine .inr ⟨by omega, okJ.go i Hx gx.gm hlt, fun v H' y => ?_⟩
    obtain ⟨g3, d, hd, dv⟩ := okJ.yld i Hx v H' S gx.gm ((E.sok.grow g1).grow gx) (fun a o hs _ => hs) hlt y
    have hdrop : ds.drop i = d :: ds.drop (i + 1) := by
      obtain ⟨hl, e⟩ := List.getElem?_eq_some_iff.mp hd
      rw [List.drop_eq_getElem_cons hl, e]
    rw [hdrop] at hb
    have hb : ((setE ix d (wipeE [ix] ρ)).bind fun ρ1 => ((el ρ1).bind asB).bind fun b => if b = true then some true else anyL ix el (wipeE [ix] ρ) (ds.drop (i + 1))) = some b := hb
    obtain ⟨ρ1, c1, hb⟩ := Option.bind_eq_some_iff.mp hb
    obtain ⟨b1, c2, hb⟩ := Option.bind_eq_some_iff.mp hb
    obtain ⟨db, c2, c3⟩ := Option.bind_eq_some_iff.mp c2
    obtain rfl := asB_some c3
    have E1 := (((E.grow g1).grow gx).grow g3).wipe (vs := [ix])
    obtain ⟨E2, _⟩ := E1.set dv c1
    refine ⟨S, ρ1, _, E2, c2, fun yv H4 g4 dy => ?_⟩
    cases dy
    refine ⟨b1, rfl, fun hb1 => ?_, fun hb1 => ?_⟩
    · subst hb1
      rw [if_neg Bool.false_ne_true] at hb
      exact ⟨ds.length - (i + 1), by omega, rfl, hlt, (gx.trans g3).trans g4, hb⟩
    · subst hb1
      rw [if_pos rfl] at hb
      cases hb
      exact q _ H4 (((g1.trans gx).trans g3).trans g4) (.bl _)
  · rw [List.drop_of_length_le (by omega)] at hb
    cases hb
    exact .inl ⟨okJ.stop i Hx gx.gm (by omega), q _ Hx (g1.trans gx) (.bl _)⟩
theorem sumL_len : ∀ {ds : List PyData} {ns : List Int} {ρ : En}, sumL ix el ρ ds = some ns → ns.length = ds.length ∧ ∀ n ∈ ns, n ≤ 1000000 ∧ -1000000 ≤ n
  | [], ns, ρ, h => by
    cases h
    exact ⟨rfl, fun _ z => by cases z⟩
  | d :: ds, ns, ρ, h => by
    have h : ((setE ix d ρ).bind fun ρ1 => ((el ρ1).bind asInt).bind fun n => if n ≤ 1000000 ∧ -1000000 ≤ n then (sumL ix el ρ ds).map (n :: ·) else none) = some ns := h
    obtain ⟨ρ1, c1, h⟩ := Option.bind_eq_some_iff.mp h
    obtain ⟨n, c2, h⟩ := Option.bind_eq_some_iff.mp h
    split at h
    · rename_i hn
      obtain ⟨ms, c3, rfl⟩ := Option.map_eq_some_iff.mp h
      obtain ⟨l, b⟩ := sumL_len c3
      refine ⟨by rw [List.length_cons, List.length_cons, l], fun m hm => ?_⟩
      rcases List.mem_cons.mp hm with rfl | hm
      · exact hn
      · exact b m hm
    · cases h
theorem sumL_get : ∀ {ds : List PyData} {ns : List Int} {ρ : En} {i : Nat} {d : PyData}, sumL ix el ρ ds = some ns → ds[i]? = some d → ∃ ρ1, setE ix d ρ = some ρ1 ∧ el ρ1 = some (.int (ns.getD i 0))
  | [], ns, ρ, i, d, h, e => by simp at e
  | d0 :: ds, ns, ρ, i, d, h, e => by
    have h : ((setE ix d0 ρ).bind fun ρ1 => ((el ρ1).bind asInt).bind fun n => if n ≤ 1000000 ∧ -1000000 ≤ n then (sumL ix el ρ ds).map (n :: ·) else none) = some ns := h
    obtain ⟨ρ1, c1, h⟩ := Option.bind_eq_some_iff.mp h
    obtain ⟨n, c2, h⟩ := Option.bind_eq_some_iff.mp h
    split at h
    · rename_i hn
      obtain ⟨ms, c3, rfl⟩ := Option.map_eq_some_iff.mp h
      cases i with
      | zero =>
        have e := Option.some.inj e
        subst e
        obtain ⟨z, c4, c5⟩ := Option.bind_eq_some_iff.mp c2
        refine ⟨ρ1, c1, ?_⟩
        rw [c4]
        cases z <;> cases c5
        rfl
      | succ i =>
        obtain ⟨ρ2, h1, h2⟩ := sumL_get c3 (i := i) (d := d) (by simpa using e)
        exact ⟨ρ2, h1, by simpa using h2⟩
    · cases h
theorem sum_bound : ∀ {ns : List Int}, (∀ n ∈ ns, n ≤ 1000000 ∧ -1000000 ≤ n) → ns.sum ≤ 1000000 * (ns.length : Int) ∧ -(1000000 * (ns.length : Int)) ≤ ns.sum
  | [], _ => by simp
  | n :: ns, h => by
    have h1 := h n List.mem_cons_self
    have h2 := sum_bound (ns := ns) fun m hm => h m (List.mem_cons_of_mem _ hm)
    rw [List.sum_cons, List.length_cons]
    constructor <;> omega
theorem pd_sumG {p pos : Pos} (hP : P ∈ T) (hr : Room (k + 3) X.A) (hg : Gl X "sum") (hm : X.mg "sum" = none) (TB : TabB X.base X.mg c P) (hcode : X.env.code = .ref c) (hc : X.calm = true) (hN : X.N.Nodup) (hi : PIt X C T (.Name x px) iter it) (ok : BlkOk X.N X.env.scope scope [(x, ix)]) (G : WG.GScp X.env.scope scope x)
    (he : ∀ (A' : Around) (s : Shared) (H : Hp) (C' : Addr) (cl : List (Str × Addr)) (code : Value) (fp : List Addr) (pn : List (Addr × Obj)), Room k A' → PD (WG.gcx X A' s H (genEnv scope cl C' code builtinsNs X.env) fp pn) C T elt el)
    (hs : ∀ v, genFold iter X.env v = pure v := by intro _; rfl)
    (hst : starEach [.GeneratorExp elt [⟨.Name x px, iter, [], 0⟩] scope gpos] X.env = (false, eval (.GeneratorExp elt [⟨.Name x px, iter, [], 0⟩] scope gpos) X.env) :: starEach [] X.env := by rfl) :
    PD X C T (.Call (.Name "sum" p) [.GeneratorExp elt [⟨.Name x px, iter, [], 0⟩] scope gpos] [] pos) (dSumG ix it el) := by
  refine PE.imp (WG.pe_sumG hr hg hm TB hcode hc hN hi ok G he (hs := hs) (hst := hst)) fun σ H Q ⟨S, ρ, d, E, e, q⟩ => ?_
  obtain ⟨ds, e1, e2⟩ := Option.bind_eq_some_iff.mp e
  split at e2
  case isFalse => cases e2
  rename_i hL
  obtain ⟨ns, e3, rfl⟩ := Option.map_eq_some_iff.mp e2
  obtain ⟨nl, nb⟩ := sumL_len e3
  refine ⟨S, fun _ => false, ρ, ds, E, ZOk.no, e1, fun J H1 g1 okJ => ⟨(E.grow g1).tabs P hP, fun H2 tb => ?_⟩⟩
  have g2 : Grow T H1 H2 := Grow.tab ((E.grow g1).tabs P hP) tb
  refine ⟨fun i => ns.getD i 0, fun i m Hx => m = ds.length - i ∧ i ≤ ds.length ∧ Grow T H1 Hx, ⟨_, rfl, Nat.zero_le _, g2⟩, ?_⟩
  rintro i m Hx ⟨rfl, hi, gx⟩
  by_cases hlt : i < ds.length
  · refine .inr ⟨by omega, okJ.go i Hx gx.gm hlt, fun v H' y => ?_⟩
    obtain ⟨g3, d, hd, dv⟩ := okJ.yld i Hx v H' S gx.gm ((E.sok.grow g1).grow gx) (fun a o hs _ => hs) hlt y
    obtain ⟨ρ1, c1, c2⟩ := sumL_get e3 hd
    have E1 := (((E.grow g1).grow gx).grow g3).wipe (vs := [ix])
    obtain ⟨E2, _⟩ := E1.set dv c1
    refine ⟨S, ρ1, _, E2, c2, fun yv H4 g4 dy => ?_⟩
    cases dy
    have hmem : ns.getD i 0 ∈ ns := by
      rw [List.getD_eq_getElem?_getD, List.getElem?_eq_getElem (by omega)]
      exact List.getElem_mem _
    have b1 := nb _ hmem
    refine ⟨rfl, ⟨by show _ ≤ ns.getD i 0; omega, by show ns.getD i 0 < _; omega⟩, ?_, ds.length - (i + 1), by omega, rfl, hlt, (gx.trans g3).trans g4⟩
    rw [PyProof.Rows.preSum_getD]
    have b2 := sum_bound (ns := ns.take (i + 1)) fun n hn => nb n (List.mem_of_mem_take hn)
    have b3 : (ns.take (i + 1)).length ≤ 1000 := by rw [List.length_take]; exact Nat.le_trans (Nat.min_le_right _ _) (by rw [nl]; exact hL)
    constructor <;> omega
  · refine .inl ⟨okJ.stop i Hx gx.gm (by omega), ?_⟩
    rw [PyProof.Rows.preSum_getD, List.take_of_length_le (by omega)]
    exact q _ Hx (g1.trans gx) (.int _)
end
end DL
end
section
set_option maxHeartbeats 4000000
namespace DL
open PySem PySem.Spec PyProof.Rows L2
open GxR (TabB TabG Tabbed)

/-! ### statements -/
inductive SR where
  | nx (ρ : En)
  | rt (ρ : En) (d : PyData)
structure Pm where
  p : Addr
  ps : Addr
  pr : Addr
  pb : Addr
/-- where one began: what is avoided, what may be written -/
structure Bs where
  S0 : Av
  M : Av
  H0 : Hp
  self : Option Pm
def Bs.mut (B : Bs) (a : Addr) : Prop := B.M a = true ∨ B.H0 a = none
structure EnC (C : Addr) (T : List Addr) (B : Bs) (S : Av) (pm : Pm) (oa : Nat → Addr) (H : Hp) (σ : List (Option V)) (ρ : En) : Prop where
  tabs : ∀ P ∈ T, TabG H P
  sok : SOk S H
  len : ρ.sl.length = σ.length
  sl : ∀ (i : Nat) (d : PyData), ρ.sl[i]? = some (some d) → ∃ v : V, σ[i]? = some (some v) ∧ DV S H v d
  me : ∀ m, ρ.me = some m → σ[ρ.mi]? = some (some (.ref pm.p)) ∧ SelfR C S H pm.p pm.ps pm.pr pm.pb m ∧ (m.w = true → B.mut pm.pr ∧ B.mut pm.pb)
  ow : ∀ (i : Nat) (ds : List PyData), ρ.ow.lookup i = some ds → σ[i]? = some (some (.ref (oa i))) ∧ S (oa i) = true ∧ (∃ xs, H (oa i) = some (.lst xs) ∧ DVs S H xs ds) ∧ B.mut (oa i) ∧ (ρ.me.isSome = true → oa i ≠ pm.pr ∧ oa i ≠ pm.pb) ∧ (ρ.base = true → B.H0 (oa i) = none)
  inj : ∀ (i j : Nat) (ds es : List PyData), i ≠ j → ρ.ow.lookup i = some ds → ρ.ow.lookup j = some es → oa i ≠ oa j
  sub : ∀ a, B.S0 a = true → S a = true
  new : ∀ a, S a = true → B.S0 a = true ∨ B.H0 a = none
  sok0 : SOk B.S0 B.H0
  gr : GrowM T B.M B.H0 H
  slf : ∀ q, B.self = some q → pm = q
def EnB (C : Addr) (T : List Addr) (B : Bs) (H : Hp) (σ : List (Option V)) (ρ : En) : Prop := ∃ S pm oa, EnC C T B S pm oa H σ ρ
section
variable {C : Addr} {T : List Addr} {B : Bs} {S : Av} {pm : Pm} {oa : Nat → Addr} {H H' : Hp} {σ : List (Option V)} {ρ ρ' : En} {v : V} {d : PyData} {i : Nat}
theorem EnC.E (c : EnC C T B S pm oa H σ ρ) : EnR C T S H σ ρ := ⟨c.tabs, c.sok, c.len, c.sl, fun m h => let ⟨h1, h2, _⟩ := c.me m h; ⟨_, _, _, _, h1, h2⟩, fun i ds h => let ⟨h1, h2, ⟨xs, h3, h4⟩, _⟩ := c.ow i ds h; ⟨_, xs, h1, h2, h3, h4⟩⟩
theorem EnC.grow (c : EnC C T B S pm oa H σ ρ) (g : Grow T H H') : EnC C T B S pm oa H' σ ρ :=
  ⟨g.tabs c.tabs, c.sok.grow g, c.len, fun i d e => let ⟨v, h1, h2⟩ := c.sl i d e; ⟨v, h1, h2.grow g⟩, fun m h => let ⟨h1, h2, h3⟩ := c.me m h; ⟨h1, h2.grow g, h3⟩,
   fun i ds h => let ⟨h1, h2, ⟨xs, h3, h4⟩, h5⟩ := c.ow i ds h; ⟨h1, h2, ⟨xs, g.keep _ _ h3 nt_lst, h4.grow g⟩, h5⟩, c.inj, c.sub, c.new, c.sok0, c.gr.trans g.gm, c.slf⟩
theorem EnC.set (c : EnC C T B S pm oa H σ ρ) (dv : DV S H v d) (e : setE i d ρ = some ρ') : EnC C T B S pm oa H (σ.set i (some v)) ρ' ∧ i < σ.length := by
  unfold setE at e
  split at e
  · rename_i hi
    cases e
    have hl : i < σ.length := by rw [← c.len]; exact hi.1
    refine ⟨⟨c.tabs, c.sok, by rw [List.length_set, List.length_set]; exact c.len, fun j d' e' => ?_, fun m hm => ?_, fun j ds hj => ?_, c.inj, c.sub, c.new, c.sok0, c.gr, c.slf⟩, hl⟩
    · by_cases hj : j = i
      · rw [hj, List.getElem?_set_self hi.1] at e'
        cases e'
        exact ⟨v, by rw [hj, List.getElem?_set_self hl], dv⟩
      · rw [List.getElem?_set_ne (Ne.symm hj)] at e' ⊢
        exact c.sl j d' e'
    · obtain ⟨h1, h2⟩ := c.me m hm
      refine ⟨?_, h2⟩
      have hi0 : i ≠ ρ.mi := by
        rcases hi.2.1 with z | z
        · exact z
        · have hm' : ρ.me = some m := hm
          rw [hm'] at z
          cases z
      rw [List.getElem?_set_ne hi0]
      exact h1
    · obtain ⟨h1, h2⟩ := c.ow j ds hj
      have hij : i ≠ j := fun z => by
        have hj' : ρ.ow.lookup j = some ds := hj
        rw [← z, hi.2.2] at hj'
        cases hj'
      exact ⟨by rw [List.getElem?_set_ne hij]; exact h1, h2⟩
  · cases e
/-- a new list is owned -/
def ownE (i : Nat) (ds : List PyData) (ρ : En) : Option En := if i < ρ.sl.length ∧ (i ≠ ρ.mi ∨ ρ.me.isNone) ∧ ρ.ow.lookup i = none then some ⟨ρ.sl.set i none, ρ.me, ρ.mi, (i, ds) :: ρ.ow, ρ.base⟩ else none
theorem EnC.own {a : Addr} {xs : List V} {ds : List PyData} (c : EnC C T B S pm oa H σ ρ) (g : Grow T H H') (hn : H a = none) (ha : H' a = some (.lst xs)) (dv : DVs (S.add a) H' xs ds) (e : ownE i ds ρ = some ρ') :
    EnC C T B (S.add a) pm (fun j => if j = i then a else oa j) H' (σ.set i (some (.ref a))) ρ' := by
  unfold ownE at e
  split at e
  case isFalse => cases e
  rename_i hi
  cases e
  have hl : i < σ.length := by rw [← c.len]; exact hi.1
  have mk : ∀ {v d}, DV S H v d → DV (S.add a) H' v d := fun h => h.mono fun b o hs e n => ⟨Av.add_ne hs (ne_of_none e hn), g.keep b o e n⟩
  have mks : ∀ {v d}, DVs S H v d → DVs (S.add a) H' v d := fun h => h.mono fun b o hs e n => ⟨Av.add_ne hs (ne_of_none e hn), g.keep b o e n⟩
  have hn0 : B.H0 a = none := c.gr.dom a hn
  refine ⟨g.tabs c.tabs, (c.sok.grow g).add ha nt_lst, by rw [List.length_set, List.length_set]; exact c.len, fun j d' e' => ?_, fun m hm => ?_, fun j es hj => ?_, fun j k es fs hjk hj hk => ?_, fun b hb => Av.add_of (c.sub b hb), fun b hb => ?_, c.sok0, c.gr.trans g.gm, c.slf⟩
  · by_cases hj : j = i
    · rw [hj, List.getElem?_set_self hi.1] at e'
      cases e'
    · rw [List.getElem?_set_ne (Ne.symm hj)] at e' ⊢
      obtain ⟨v, h1, h2⟩ := c.sl j d' e'
      exact ⟨v, h1, mk h2⟩
  · obtain ⟨h1, ⟨⟨vm, dx, o1, o2⟩, o3, ⟨xr, o4, o5⟩, ⟨xb, o6, o7⟩, ⟨o8, o9, o10⟩, o11⟩, h3⟩ := c.me m hm
    refine ⟨?_, ⟨⟨vm, dx, g.keep _ _ o1 nt_ins, mk o2⟩, mk o3, ⟨xr, g.keep _ _ o4 nt_lst, mks o5⟩, ⟨xb, g.keep _ _ o6 nt_lst, mks o7⟩, ⟨Av.add_of o8, Av.add_of o9, Av.add_of o10⟩, o11⟩, h3⟩
    have hi0 : i ≠ ρ.mi := by
      rcases hi.2.1 with z | z
      · exact z
      · have hm' : ρ.me = some m := hm
        rw [hm'] at z
        cases z
    rw [List.getElem?_set_ne hi0]
    exact h1
  · have hj : ((i, ds) :: ρ.ow).lookup j = some es := hj
    rw [List.lookup_cons] at hj
    by_cases hji : j = i
    · subst hji
      rw [beq_self_eq_true] at hj
      cases hj
      rw [if_pos rfl]
      refine ⟨List.getElem?_set_self hl, Av.add_self, ⟨xs, ha, dv⟩, .inr hn0, fun hm => ?_, fun _ => hn0⟩
      obtain ⟨m, hm⟩ := Option.isSome_iff_exists.mp hm
      obtain ⟨_, ⟨_, _, ⟨xr, o4, _⟩, ⟨xb, o6, _⟩, _⟩, _⟩ := c.me m hm
      exact ⟨fun z => (ne_of_none o4 hn) z.symm, fun z => (ne_of_none o6 hn) z.symm⟩
    · rw [(beq_eq_false_iff_ne.mpr hji : (j == i) = false)] at hj
      rw [if_neg hji]
      obtain ⟨h1, h2, ⟨ys, h3, h4⟩, h5⟩ := c.ow j es hj
      exact ⟨by rw [List.getElem?_set_ne (Ne.symm hji)]; exact h1, Av.add_of h2, ⟨ys, g.keep _ _ h3 nt_lst, mks h4⟩, h5⟩
  · have old : ∀ {l : Nat} {gs : List PyData}, l ≠ i → ((i, ds) :: ρ.ow).lookup l = some gs → ρ.ow.lookup l = some gs := fun {l gs} hl hg => by
      rw [List.lookup_cons, (beq_eq_false_iff_ne.mpr hl : (l == i) = false)] at hg
      exact hg
    have ne : ∀ {l : Nat} {gs : List PyData}, l ≠ i → ((i, ds) :: ρ.ow).lookup l = some gs → oa l ≠ a := fun {l gs} hl hg => by
      obtain ⟨_, _, ⟨ys, h3, _⟩, _⟩ := c.ow l gs (old hl hg)
      exact ne_of_none h3 hn
    by_cases hj' : j = i
    · have hk' : k ≠ i := fun z => hjk (by rw [hj', z])
      rw [if_pos hj', if_neg hk']
      exact (ne hk' hk).symm
    · by_cases hk' : k = i
      · rw [if_neg hj', if_pos hk']
        exact ne hj' hj
      · rw [if_neg hj', if_neg hk']
        exact c.inj j k es fs hjk (old hj' hj) (old hk' hk)
  · by_cases hb' : b = a
    · rw [hb']
      exact .inr hn0
    · refine c.new b ?_
      unfold Av.add at hb
      rw [decide_eq_false hb', Bool.or_false] at hb
      exact hb
/-- an owned list becomes data -/
def relE (i : Nat) (ρ : En) : Option En := (ρ.ow.lookup i).bind fun ds => if ρ.base = true ∧ i < ρ.sl.length then some ⟨ρ.sl.set i (some (.list ds)), ρ.me, ρ.mi, ρ.ow.filter (fun q => decide (q.1 ≠ i)), ρ.base⟩ else none
theorem EnC.rel (c : EnC C T B S pm oa H σ ρ) (e : relE i ρ = some ρ') : EnB C T B H σ ρ' := by
  obtain ⟨ds, e1, e⟩ := Option.bind_eq_some_iff.mp e
  split at e
  case isFalse => cases e
  rename_i hb
  cases e
  obtain ⟨h1, h2, ⟨xs, h3, h4⟩, h5, h6, h7⟩ := c.ow i ds e1
  have h7 := h7 hb.1
  have s' : ∀ {a : Addr}, S a = true → a ≠ oa i → (S a && decide (a ≠ oa i)) = true := fun ha hn => by rw [ha, decide_eq_true hn]; rfl
  have sf : ∀ {a : Addr}, S a = false → (S a && decide (a ≠ oa i)) = false := fun ha => by rw [ha]; rfl
  have mk : ∀ {v d}, DV S H v d → DV (fun a => S a && decide (a ≠ oa i)) H v d := fun h => h.mono fun b o hs e n => ⟨sf hs, e⟩
  have mks : ∀ {v d}, DVs S H v d → DVs (fun a => S a && decide (a ≠ oa i)) H v d := fun h => h.mono fun b o hs e n => ⟨sf hs, e⟩
  refine ⟨fun a => S a && decide (a ≠ oa i), pm, oa, c.tabs, fun a ha => c.sok a (Bool.and_eq_true_iff.mp ha).1, by show (ρ.sl.set i _).length = _; rw [List.length_set]; exact c.len, fun j d' e' => ?_, fun m hm => ?_, fun j es hj => ?_, fun j k es fs hjk hj hk => ?_, fun a ha => ?_, fun a ha => c.new a (Bool.and_eq_true_iff.mp ha).1, c.sok0, c.gr, c.slf⟩
  · by_cases hj : j = i
    · subst hj
      have e' : (ρ.sl.set j (some (.list ds)))[j]? = some (some d') := e'
      rw [List.getElem?_set_self hb.2] at e'
      cases e'
      refine ⟨_, h1, .lst ?_ h3 (mks h4)⟩
      rw [Bool.and_eq_false_iff]
      exact .inr (decide_eq_false (fun z => z rfl))
    · have e' : (ρ.sl.set i (some (.list ds)))[j]? = some (some d') := e'
      rw [List.getElem?_set_ne (Ne.symm hj)] at e'
      obtain ⟨v, k1, k2⟩ := c.sl j d' e'
      exact ⟨v, k1, mk k2⟩
  · obtain ⟨k1, ⟨⟨vm, dx, o1, o2⟩, o3, ⟨xr, o4, o5⟩, ⟨xb, o6, o7⟩, ⟨o8, o9, o10⟩, o11⟩, k3⟩ := c.me m hm
    obtain ⟨n1, n2⟩ := h6 (by rw [(hm : ρ.me = some m)]; rfl)
    refine ⟨k1, ⟨⟨vm, dx, o1, mk o2⟩, mk o3, ⟨xr, o4, mks o5⟩, ⟨xb, o6, mks o7⟩, ⟨s' o8 (Ne.symm n1), s' o9 (Ne.symm n2), s' o10 fun z => ?_⟩, o11⟩, k3⟩
    rw [z, h3] at o1
    cases o1
  · obtain ⟨hp, hj⟩ := lookup_filter (p := fun j => decide (j ≠ i)) (hj : (ρ.ow.filter fun q => decide (q.1 ≠ i)).lookup j = some es)
    have hp := of_decide_eq_true hp
    obtain ⟨k1, k2, ⟨ys, k3, k4⟩, k5⟩ := c.ow j es hj
    exact ⟨k1, s' k2 (c.inj j i es ds hp hj e1), ⟨ys, k3, mks k4⟩, k5⟩
  · obtain ⟨_, hj⟩ := lookup_filter (p := fun j => decide (j ≠ i)) (hj : (ρ.ow.filter fun q => decide (q.1 ≠ i)).lookup j = some es)
    obtain ⟨_, hk⟩ := lookup_filter (p := fun j => decide (j ≠ i)) (hk : (ρ.ow.filter fun q => decide (q.1 ≠ i)).lookup k = some fs)
    exact c.inj j k es fs hjk hj hk
  · refine s' (c.sub a ha) fun z => ?_
    obtain ⟨o, ho, _⟩ := c.sok0 a ha
    rw [z, h7] at ho
    cases ho
theorem GrowM.write {a : Addr} {o o' : HO} (g : GrowM T B.M B.H0 H) (hm : B.mut a) (ho : H a = some o) (n : NT o) (n' : NT o') : GrowM T B.M B.H0 (upd H a o') := by
  refine ⟨fun b p z e q => ?_, fun t P hP => ?_, fun b e => ?_, fun b p e q => ?_⟩
  · rw [upd_ne]
    · exact g.keep b p z e q
    · intro y
      subst y
      rcases hm with k | k
      · rw [k] at z
        cases z
      · rw [k] at e
        cases e
  · obtain ⟨ps, e, z⟩ := g.tabs t P hP
    refine ⟨ps, ?_, z⟩
    rw [upd_ne]
    · exact e
    · intro y
      rw [y, ho] at e
      exact n ps (Option.some.inj e)
  · by_cases hb : b = a
    · rw [hb, upd_same] at e
      cases e
    · rw [upd_ne hb] at e
      exact g.dom b e
  · by_cases hb : b = a
    · exact ⟨o', by rw [hb, upd_same], n'⟩
    · obtain ⟨p', e', q'⟩ := g.has b p e q
      exact ⟨p', by rw [upd_ne hb]; exact e', q'⟩
theorem SOk.upd {S : Av} {a : Addr} {o' : HO} (s : SOk S H) (n' : NT o') : SOk S (upd H a o') := fun b hb => by
  by_cases h : b = a
  · exact ⟨o', by rw [h, upd_same], n'⟩
  · obtain ⟨o, e, n⟩ := s b hb
    exact ⟨o, by rw [upd_ne h]; exact e, n⟩
theorem tabs_upd {a : Addr} {o o' : HO} (t : ∀ P ∈ T, TabG H P) (ho : H a = some o) (n : NT o) : ∀ P ∈ T, TabG (upd H a o') P := fun P hP => by
  obtain ⟨ps, e, z⟩ := t P hP
  refine ⟨ps, ?_, z⟩
  rw [upd_ne]
  · exact e
  · intro y
    rw [y, ho] at e
    exact n ps (Option.some.inj e)
/-- an owned list is written -/
def owE (i : Nat) (F : List PyData → Option (List PyData)) (ρ : En) : Option En := (ρ.ow.lookup i).bind fun ds => (F ds).map fun es => ⟨ρ.sl, ρ.me, ρ.mi, (i, es) :: ρ.ow.filter (fun q => decide (q.1 ≠ i)), ρ.base⟩
theorem EnC.write {xs' : List V} {ds es : List PyData} (c : EnC C T B S pm oa H σ ρ) (e1 : ρ.ow.lookup i = some ds) (dv : DVs S H xs' es) :
    EnC C T B S pm oa (upd H (oa i) (.lst xs')) σ ⟨ρ.sl, ρ.me, ρ.mi, (i, es) :: ρ.ow.filter (fun q => decide (q.1 ≠ i)), ρ.base⟩ := by
  obtain ⟨h1, h2, ⟨xs, h3, h4⟩, h5, h6, h7⟩ := c.ow i ds e1
  have old : ∀ {j : Nat} {fs : List PyData}, j ≠ i → ((i, es) :: ρ.ow.filter (fun q => decide (q.1 ≠ i))).lookup j = some fs → ρ.ow.lookup j = some fs := fun {j fs} hj h => by
    rw [List.lookup_cons, (beq_eq_false_iff_ne.mpr hj : (j == i) = false)] at h
    exact (lookup_filter (p := fun j => decide (j ≠ i)) h).2
  refine ⟨tabs_upd c.tabs h3 nt_lst, c.sok.upd (nt_lst (xs := xs')), c.len, fun j d' e' => let ⟨v, k1, k2⟩ := c.sl j d' e'; ⟨v, k1, k2.updA h2⟩, fun m hm => ?_, fun j fs hj => ?_, fun j k fs gs hjk hj hk => ?_, c.sub, c.new, c.sok0, c.gr.write h5 h3 nt_lst (nt_lst (xs := xs')), c.slf⟩
  · obtain ⟨k1, ⟨⟨vm, dx, o1, o2⟩, o3, ⟨xr, o4, o5⟩, ⟨xb, o6, o7⟩, ⟨o8, o9, o10⟩, o11⟩, k3⟩ := c.me m hm
    obtain ⟨n1, n2⟩ := h6 (by rw [(hm : ρ.me = some m)]; rfl)
    refine ⟨k1, ⟨⟨vm, dx, ?_, o2.updA h2⟩, o3.updA h2, ⟨xr, by rw [upd_ne (Ne.symm n1)]; exact o4, o5.updA h2⟩, ⟨xb, by rw [upd_ne (Ne.symm n2)]; exact o6, o7.updA h2⟩, ⟨o8, o9, o10⟩, o11⟩, k3⟩
    rw [upd_ne]
    · exact o1
    · intro z
      rw [z, h3] at o1
      cases o1
  · by_cases hji : j = i
    · subst hji
      have hj : ((j, es) :: ρ.ow.filter (fun q => decide (q.1 ≠ j))).lookup j = some fs := hj
      rw [List.lookup_cons, beq_self_eq_true] at hj
      cases hj
      exact ⟨h1, h2, ⟨xs', upd_same, dv.updA h2⟩, h5, h6, h7⟩
    · have hj := old hji hj
      obtain ⟨k1, k2, ⟨ys, k3, k4⟩, k5⟩ := c.ow j fs hj
      exact ⟨k1, k2, ⟨ys, by rw [upd_ne (c.inj j i _ _ hji hj e1)]; exact k3, k4.updA h2⟩, k5⟩
  · have get : ∀ {l : Nat} {fs : List PyData}, ((i, es) :: ρ.ow.filter (fun q => decide (q.1 ≠ i))).lookup l = some fs → ∃ gs, ρ.ow.lookup l = some gs := fun {l fs} h => by
      by_cases hl : l = i
      · exact ⟨ds, by rw [hl]; exact e1⟩
      · exact ⟨_, old hl h⟩
    obtain ⟨_, hj⟩ := get hj
    obtain ⟨_, hk⟩ := get hk
    exact c.inj j k _ _ hjk hj hk
end
end DL
end
section
set_option maxHeartbeats 4000000
namespace DL
open PySem PySem.Spec PyProof.Rows L2
open GxR (TabB TabG Tabbed)

section
variable {C : Addr} {T : List Addr} {B : Bs} {S : Av} {pm : Pm} {oa : Nat → Addr} {H H' : Hp} {σ : List (Option V)} {ρ ρ' : En} {v : V} {d : PyData} {i : Nat}
/-- the object's lists have been written -/
theorem EnC.wr {m m' : SelfD} {Z : Av} (c : EnC C T B S pm oa H σ ρ) (e1 : ρ.me = some m) (hw : m.w = true) (hw' : m'.w = true) (g : GrowM T Z H H') (hZ : ∀ a, Z a = true → a = pm.pr ∨ a = pm.pb) (s : SelfR C S H' pm.p pm.ps pm.pr pm.pb m') :
    EnC C T B S pm oa H' σ ⟨ρ.sl, some m', ρ.mi, ρ.ow, ρ.base⟩ := by
  obtain ⟨k1, ⟨⟨vm, dx, o1, o2⟩, o3, ⟨xr, o4, o5⟩, ⟨xb, o6, o7⟩, ⟨o8, o9, o10⟩, o11⟩, k3⟩ := c.me m e1
  have k3 := k3 hw
  have hZS : ∀ a, Z a = true → S a = true := fun a ha => by
    rcases hZ a ha with z | z
    · rw [z]; exact o8
    · rw [z]; exact o9
  have gr : GrowM T B.M B.H0 H' := ⟨fun b o z e n => by
      have h1 := c.gr.keep b o z e n
      refine g.keep b o ?_ h1 n
      cases hz : Z b with
      | false => rfl
      | true =>
        have hm : B.mut b := by
          rcases hZ b hz with y | y
          · rw [y]; exact k3.1
          · rw [y]; exact k3.2
        rcases hm with y | y
        · rw [y] at z; cases z
        · rw [y] at e
          exact (nomatch e), fun t => g.tabs (c.gr.tabs t), fun b h => c.gr.dom b (g.dom b h), fun b o e n => let ⟨o', h', n'⟩ := c.gr.has b o e n; g.has b o' h' n'⟩
  refine ⟨g.tabs c.tabs, c.sok.growM g, c.len, fun i d e => let ⟨v, h1, h2⟩ := c.sl i d e; ⟨v, h1, h2.growM g hZS⟩, fun m2 hm2 => ?_, fun j ds hj => ?_, c.inj, c.sub, c.new, c.sok0, gr, c.slf⟩
  · have hm2 : some m' = some m2 := hm2
    cases hm2
    exact ⟨k1, s, fun _ => k3⟩
  · obtain ⟨h1, h2, ⟨xs, h3, h4⟩, h5, h6, h7⟩ := c.ow j ds hj
    obtain ⟨n1, n2⟩ := h6 (by rw [e1]; rfl)
    refine ⟨h1, h2, ⟨xs, g.keep _ _ ?_ h3 nt_lst, h4.growM g hZS⟩, h5, fun _ => ⟨n1, n2⟩, h7⟩
    cases hz : Z (oa j) with
    | false => rfl
    | true =>
      rcases hZ _ hz with y | y
      · exact absurd y n1
      · exact absurd y n2
end
theorem GrowM.upd1 {T : List Addr} {H : Hp} {a : Addr} {o o' : HO} (ho : H a = .some o) (n : NT o) (n' : NT o') : GrowM T (fun b => decide (b = a)) H (upd H a o') := ⟨fun b p z e q => by
    rw [upd_ne (of_decide_eq_false z)]
    exact e, fun t => tabs_upd t ho n, fun b e => by
    by_cases hb : b = a
    · rw [hb, upd_same] at e
      cases e
    · rw [upd_ne hb] at e
      exact e, fun b p e q => by
    by_cases hb : b = a
    · exact ⟨o', by rw [hb, upd_same], n'⟩
    · exact ⟨p, by rw [upd_ne hb]; exact e, q⟩⟩
section
variable {C : Addr} {S : Av} {H : Hp} {p ps pr pb : Addr} {m : SelfD}
theorem SelfR.wrR {xs : List V} {ds : List PyData} (s : SelfR C S H p ps pr pb m) (dv : DVs S H xs ds) : SelfR C S (upd H pr (.lst xs)) p ps pr pb ⟨m.many, m.signs, ds, m.basis, m.w⟩ := by
  obtain ⟨⟨vm, dx, o1, o2⟩, o3, ⟨xr, o4, o5⟩, ⟨xb, o6, o7⟩, ⟨o8, o9, o10⟩, o11⟩ := s
  refine ⟨⟨vm, dx, ?_, o2.updA o8⟩, o3.updA o8, ⟨xs, upd_same, dv.updA o8⟩, ⟨xb, by rw [upd_ne (Ne.symm o11)]; exact o6, o7.updA o8⟩, ⟨o8, o9, o10⟩, o11⟩
  rw [upd_ne]
  · exact o1
  · intro z
    rw [z, o4] at o1
    cases o1
theorem SelfR.wrB {xs : List V} {ds : List PyData} (s : SelfR C S H p ps pr pb m) (dv : DVs S H xs ds) : SelfR C S (upd H pb (.lst xs)) p ps pr pb ⟨m.many, m.signs, m.rows, ds, m.w⟩ := by
  obtain ⟨⟨vm, dx, o1, o2⟩, o3, ⟨xr, o4, o5⟩, ⟨xb, o6, o7⟩, ⟨o8, o9, o10⟩, o11⟩ := s
  refine ⟨⟨vm, dx, ?_, o2.updA o9⟩, o3.updA o9, ⟨xr, by rw [upd_ne o11]; exact o4, o5.updA o9⟩, ⟨xs, upd_same, dv.updA o9⟩, ⟨o8, o9, o10⟩, o11⟩
  rw [upd_ne]
  · exact o1
  · intro z
    rw [z, o6] at o1
    cases o1
end

/-! ### the reading of statements -/
def tSD (C : Addr) (T : List Addr) (F : En → Option SR) : TS := fun D σ H => ∃ (B : Bs) (ρ : En) (r : SR), EnB C T B H σ ρ ∧ F ρ = some r ∧
  (∀ ρ', r = .nx ρ' → ∀ σ' H', EnB C T B H' σ' ρ' → D.nx σ' H') ∧ (∀ ρ' d, r = .rt ρ' d → ∀ v σ' H', EnB C T B H' σ' ρ' → DV B.S0 H' v d → D.rt v H')
abbrev PSD (X : Cx) (C : Addr) (T : List Addr) (st : Stmt) (F : En → Option SR) : Prop := PS X st (tSD C T F)
abbrev PSDs (X : Cx) (C : Addr) (T : List Addr) (sts : List Stmt) (F : En → Option SR) : Prop := PSs X sts (tSD C T F)
def sSkip : En → Option SR := fun ρ => some (.nx ρ)
def sRet (f : En → Option PyData) : En → Option SR := fun ρ => (f ρ).map (.rt ρ)
def sSet (i : Nat) (f : En → Option PyData) : En → Option SR := fun ρ => (f ρ).bind fun d => (setE i d ρ).map .nx
def sAsg (tg : Tgt) (f : En → Option PyData) : En → Option SR := fun ρ => (f ρ).bind fun d => (setT tg d ρ).map .nx
def sOwn (i : Nat) (f : En → Option (List PyData)) : En → Option SR := fun ρ => (f ρ).bind fun ds => (ownE i ds ρ).map .nx
def sExp (f : En → Option PyData) : En → Option SR := fun ρ => (f ρ).map fun _ => .nx ρ
def sIf (t : En → Option Bool) (F G : En → Option SR) : En → Option SR := fun ρ => (t ρ).bind fun c => if c = true then F ρ else G ρ
def thenE (r : SR) (G : En → Option SR) : Option SR := match r with
  | .nx ρ => G ρ
  | .rt ρ d => some (.rt ρ d)
def sThen (F G : En → Option SR) : En → Option SR := fun ρ => (F ρ).bind fun r => thenE r G
def sRel (i : Nat) (F : En → Option SR) : En → Option SR := fun ρ => (relE i ρ).bind F
section
variable {X : Cx} {C : Addr} {T : List Addr} {F G : En → Option SR} {f : En → Option PyData} {fs : En → Option (List PyData)} {t : En → Option Bool} {st : Stmt} {sts : List Stmt} {e : Expr} {pos : Pos}
theorem EnB.grow {B : Bs} {H H' : Hp} {σ : List (Option V)} {ρ : En} (E : EnB C T B H σ ρ) (g : Grow T H H') : EnB C T B H' σ ρ := let ⟨S, pm, oa, c⟩ := E; ⟨S, pm, oa, c.grow g⟩
theorem tAsg.mono {te te' : TE} {g : TG} (k : ∀ σ H Q, te' σ H Q → te σ H Q) : ∀ D σ H, tAsg te' g D σ H → tAsg te g D σ H := fun D σ H h => k σ H _ h
theorem DV.sub {S S0 : Av} {H : Hp} {v : V} {d : PyData} (h : DV S H v d) (k : ∀ a, S0 a = true → S a = true) : DV S0 H v d := h.mono fun a o hs e n => ⟨by
  cases z : S0 a with
  | false => rfl
  | true =>
    rw [k a z] at hs
    exact (nomatch hs), e⟩
theorem psd_imp {F F' : En → Option SR} (h : PSD X C T st F) (k : ∀ ρ r, F' ρ = some r → F ρ = some r) : PSD X C T st F' := PS.imp h fun D σ H ⟨B, ρ, r, E, e, q1, q2⟩ => ⟨B, ρ, r, E, k ρ r e, q1, q2⟩
theorem psd_ret (he : PD X C T e f) : PSD X C T (.Return (some e) pos) (sRet f) := PS.imp (ps_ret he) fun D σ H ⟨B, ρ, r, ⟨S, pm, oa, c⟩, e, q1, q2⟩ => by
  obtain ⟨d, e1, rfl⟩ := Option.map_eq_some_iff.mp e
  exact ⟨S, ρ, d, c.E, e1, fun v H' g dv => q2 _ _ rfl v σ H' ⟨S, pm, oa, c.grow g⟩ (dv.sub c.sub)⟩
def sRetN : En → Option SR := fun ρ => some (.rt ρ .none)
theorem psd_retN : PSD X C T (.Return none pos) sRetN := PS.imp ps_retN fun D σ H ⟨B, ρ, r, E, e, q1, q2⟩ => by
  cases e
  exact q2 _ _ rfl _ σ H E .non
theorem tSet_of {i : Nat} {D : Ends} {σ : List (Option V)} {H : Hp} (h : tSD C T (sSet i f) D σ H) : tAsg (tD C T f) (gName i) D σ H := by
  obtain ⟨B, ρ, r, ⟨S, pm, oa, c⟩, e, q1, q2⟩ := h
  obtain ⟨d, e1, e2⟩ := Option.bind_eq_some_iff.mp e
  obtain ⟨ρ', e3, rfl⟩ := Option.map_eq_some_iff.mp e2
  refine ⟨S, ρ, d, c.E, e1, fun v H' g dv => ?_⟩
  exact q1 _ rfl _ H' ⟨S, pm, oa, ((c.grow g).set dv e3).1⟩
theorem tOwn_of {i : Nat} {D : Ends} {σ : List (Option V)} {H : Hp} (h : tSD C T (sOwn i fs) D σ H) : tAsg (tDF C T fs) (gName i) D σ H := by
  obtain ⟨B, ρ, r, ⟨S, pm, oa, c⟩, e, q1, q2⟩ := h
  obtain ⟨ds, e1, e2⟩ := Option.bind_eq_some_iff.mp e
  obtain ⟨ρ', e3, rfl⟩ := Option.map_eq_some_iff.mp e2
  refine ⟨S, ρ, ds, c.E, e1, fun a xs H' g hn ha dv => ?_⟩
  exact q1 _ rfl _ H' ⟨_, pm, _, c.own g hn ha dv e3⟩
theorem psd_set {i : Nat} {x : Str} {pos' : Pos} (hN : X.N.Nodup) (hi : X.N[i]? = some x) (hx : Loc X.env.scope x) (he : PD X C T e f) (hs : swapsWith e (some (.Name x pos')) pos.line X.env = pure false := by rfl) (hf : X.fn x = true ∨ X.env.scope.names.lookup x = some .local := by first | exact .inl rfl | exact .inr rfl | assumption) :
    PSD X C T (.Assign [.Name x pos'] e pos) (sSet i f) := PS.imp (ps_set hN hi hx he hs hf) fun D σ H h => tSet_of h
theorem psd_own {i : Nat} {x : Str} {pos' : Pos} (hN : X.N.Nodup) (hi : X.N[i]? = some x) (hx : Loc X.env.scope x) (he : PDF X C T e fs) (hs : swapsWith e (some (.Name x pos')) pos.line X.env = pure false := by rfl) (hf : X.fn x = true ∨ X.env.scope.names.lookup x = some .local := by first | exact .inl rfl | exact .inr rfl | assumption) :
    PSD X C T (.Assign [.Name x pos'] e pos) (sOwn i fs) := PS.imp (ps_set hN hi hx he hs hf) fun D σ H h => tOwn_of h
/-- name = [..] on one line -/
theorem psd_setLc {i : Nat} {y : Str} {py : Pos} {elt tg iter : Expr} {ifs : List Expr} {scope : Scope} {own : List (Str × Nat)} {spos : Pos} {it : En → Option (List PyData)} {tt : En → Option Bool} {el : En → Option PyData} {tgt : Tgt}
    (hc : X.calm = true) (hN : X.N.Nodup) (hy : X.N[i]? = some y) (hyl : X.env.scope.names.lookup y = some .local)
    (hsw : swapsWith (.ListComp elt [⟨tg, iter, ifs, 0⟩] scope pos) (some (.Name y py)) spos.line X.env = pure true) (hi : PIt X C T tg iter it) (ok : BlkOk X.N X.env.scope scope own)
    (hg : ∀ (s : Shared) (H : Hp) (C : Addr) (cl : List (Str × Addr)) (fp : List Addr), PG (X.blk s H scope (compEnvC scope cl C X.env) fp) tg (gOf X.K tgt))
    (ht : ∀ (s : Shared) (H : Hp) (C' : Addr) (cl : List (Str × Addr)) (fp : List Addr), PTs (X.blk s H scope (compEnvC scope cl C' X.env) fp) ifs (tDB C T tt))
    (he : ∀ (s : Shared) (H : Hp) (C' : Addr) (cl : List (Str × Addr)) (fp : List Addr), PD (X.blk s H scope (compEnvC scope cl C' X.env) fp) C T elt el)
    (hvs : ∀ k ∈ tgt.ix, k ∈ own.map (·.2) := by decide) (hs : ∀ x, foldedSetIterable iter X.env x = pure x := by intro _; rfl) :
    PSD X C T (.Assign [.Name y py] (.ListComp elt [⟨tg, iter, ifs, 0⟩] scope pos) spos) (sSet i (dComp (own.map (·.2)) it tgt tt el)) :=
  PS.imp (ps_setLc hc hN hy hyl hsw hi ok hg ht he hs) fun D σ H h => tAsg.mono (te' := tD C T (dComp (own.map (·.2)) it tgt tt el)) (fun σ H Q ⟨S, ρ, d, E, e, q⟩ => by
    obtain ⟨ds, e1, rfl⟩ := Option.map_eq_some_iff.mp e
    refine tLc_of hvs rfl ⟨S, ρ, ds, E, e1, fun a xs H' g hn ha dv => q _ H' g (.lst (E.sok.new hn) ha dv.less)⟩) D σ H (tSet_of h)
theorem psd_ownLc {i : Nat} {y : Str} {py : Pos} {elt tg iter : Expr} {ifs : List Expr} {scope : Scope} {own : List (Str × Nat)} {spos : Pos} {it : En → Option (List PyData)} {tt : En → Option Bool} {el : En → Option PyData} {tgt : Tgt}
    (hc : X.calm = true) (hN : X.N.Nodup) (hy : X.N[i]? = some y) (hyl : X.env.scope.names.lookup y = some .local)
    (hsw : swapsWith (.ListComp elt [⟨tg, iter, ifs, 0⟩] scope pos) (some (.Name y py)) spos.line X.env = pure true) (hi : PIt X C T tg iter it) (ok : BlkOk X.N X.env.scope scope own)
    (hg : ∀ (s : Shared) (H : Hp) (C : Addr) (cl : List (Str × Addr)) (fp : List Addr), PG (X.blk s H scope (compEnvC scope cl C X.env) fp) tg (gOf X.K tgt))
    (ht : ∀ (s : Shared) (H : Hp) (C' : Addr) (cl : List (Str × Addr)) (fp : List Addr), PTs (X.blk s H scope (compEnvC scope cl C' X.env) fp) ifs (tDB C T tt))
    (he : ∀ (s : Shared) (H : Hp) (C' : Addr) (cl : List (Str × Addr)) (fp : List Addr), PD (X.blk s H scope (compEnvC scope cl C' X.env) fp) C T elt el)
    (hvs : ∀ k ∈ tgt.ix, k ∈ own.map (·.2) := by decide) (hs : ∀ x, foldedSetIterable iter X.env x = pure x := by intro _; rfl) :
    PSD X C T (.Assign [.Name y py] (.ListComp elt [⟨tg, iter, ifs, 0⟩] scope pos) spos) (sOwn i (sComp (own.map (·.2)) it tgt tt el)) :=
  PS.imp (ps_setLc hc hN hy hyl hsw hi ok hg ht he hs) fun D σ H h => tAsg.mono (te' := tDF C T (sComp (own.map (·.2)) it tgt tt el)) (fun σ H Q q => tLc_of hvs rfl q) D σ H (tOwn_of h)
theorem psd_exp (he : PD X C T e f) (hs : swapsWith e none pos.line X.env = pure false := by rfl) : PSD X C T (.Expr e pos) (sExp f) := PS.imp (ps_expr he hs) fun D σ H ⟨B, ρ, r, ⟨S, pm, oa, c⟩, e, q1, q2⟩ => by
  obtain ⟨d, e1, rfl⟩ := Option.map_eq_some_iff.mp e
  exact ⟨S, ρ, d, c.E, e1, fun v H' g dv => q1 _ rfl σ H' ⟨S, pm, oa, c.grow g⟩⟩
theorem psd_doc {x j pos pos'} : PSD X C T (.Expr (.Constant (.str x) j pos) pos') sSkip := PS.imp ps_doc fun D σ H ⟨B, ρ, r, E, e, q1, q2⟩ => by
  cases e
  exact q1 _ rfl σ H E
theorem psd_never : PSD X C T st (fun _ => none) := PS.imp ps_never fun D σ H ⟨B, ρ, r, E, e, q1, q2⟩ => by cases e
theorem psds_nil : PSDs X C T [] sSkip := PSs.imp pss_nil fun D σ H ⟨B, ρ, r, E, e, q1, q2⟩ => by
  cases e
  exact q1 _ rfl σ H E
theorem psds_one (h : PSD X C T st F) : PSDs X C T [st] F := pss_one h
theorem psds_cons (h1 : PSD X C T st F) (h2 : PSDs X C T sts G) : PSDs X C T (st :: sts) (sThen F G) := PSs.imp (pss_cons h1 h2) fun D σ H ⟨B, ρ, r, E, e, q1, q2⟩ => by
  obtain ⟨r1, e1, e2⟩ := Option.bind_eq_some_iff.mp e
  refine ⟨B, ρ, r1, E, e1, fun ρ' h σ' H' E' => ?_, fun ρ' d h v σ' H' E' dv => ?_⟩
  · subst h
    exact ⟨B, ρ', r, E', e2, q1, q2⟩
  · subst h
    cases e2
    exact q2 _ _ rfl v σ' H' E' dv
theorem psd_if {c : Expr} {a b : List Stmt} (hc : PDB X C T c t) (ha : PSDs X C T a F) (hb : PSDs X C T b G) : PSD X C T (.If c a b pos) (sIf t F G) := PS.imp (ps_if hc ha hb) fun D σ H ⟨B, ρ, r, ⟨S, pm, oa, c⟩, e, q1, q2⟩ => by
  obtain ⟨b, e1, e2⟩ := Option.bind_eq_some_iff.mp e
  refine ⟨S, ρ, b, c.E, e1, fun H' g => ?_⟩
  cases b with
  | true =>
    rw [if_pos rfl] at e2 ⊢
    exact ⟨B, ρ, r, ⟨S, pm, oa, c.grow g⟩, e2, q1, q2⟩
  | false =>
    rw [if_neg Bool.false_ne_true] at e2 ⊢
    exact ⟨B, ρ, r, ⟨S, pm, oa, c.grow g⟩, e2, q1, q2⟩
/-- an owned list is let go ahead of a statement -/
theorem psd_rel {i : Nat} (h : PSD X C T st F) : PSD X C T st (sRel i F) := PS.imp h fun D σ H ⟨B, ρ, r, ⟨S, pm, oa, c⟩, e, q1, q2⟩ => by
  obtain ⟨ρ1, e1, e2⟩ := Option.bind_eq_some_iff.mp e
  exact ⟨B, ρ1, r, c.rel e1, e2, q1, q2⟩
end
end DL
end
section
set_option maxHeartbeats 4000000
namespace DL
open PySem PySem.Spec PyProof.Rows L2
open GxR (TabB TabG Tabbed)

/-! ### loops -/
def forL (tg : Tgt) (body : En → Option SR) : List PyData → En → Option SR
  | [], ρ => some (.nx ρ)
  | d :: ds, ρ => (setT tg d ρ).bind fun ρ1 => (body ρ1).bind fun r => thenE r (forL tg body ds)
section
variable {C : Addr} {T : List Addr} {B : Bs} {S : Av} {pm : Pm} {oa : Nat → Addr} {H H' : Hp} {σ : List (Option V)} {ρ ρ' : En} {v : V} {d : PyData} {i : Nat}
theorem gOf_okC {K : PySem.W.Frag} {tg : Tgt} {Q : List (Option V) → Hp → Prop} (c : EnC C T B S pm oa H σ ρ) (dv : DV S H v d) (e : setT tg d ρ = some ρ') (q : ∀ σ', EnC C T B S pm oa H σ' ρ' → Q σ' H) : gOf K tg v σ H Q := by
  cases tg with
  | one i =>
    obtain ⟨E1, hl⟩ := c.set dv e
    exact q _ E1
  | two i j =>
    cases dv with
    | tup h1 h2 h3 =>
      rename_i a xs ds
      cases h3 with
      | nil => cases e
      | cons da h3 =>
        cases h3 with
        | nil => cases e
        | cons db h3 =>
          cases h3 with
          | cons _ _ => cases e
          | nil =>
            have e : (if i = j then none else (setE i _ ρ).bind (setE j _)) = some ρ' := e
            by_cases hij : i = j
            · rw [if_pos hij] at e
              cases e
            · rw [if_neg hij] at e
              obtain ⟨ρ1, e1, e2⟩ := Option.bind_eq_some_iff.mp e
              obtain ⟨E1, l1⟩ := c.set da e1
              obtain ⟨E2, l2⟩ := E1.set db e2
              exact ⟨_, _, rfl, .of h2, rfl, _, _, rfl, _, _, rfl, rfl, q _ E2⟩
    | non => cases e
    | bl _ => cases e
    | int _ => cases e
    | str _ => cases e
    | lst _ _ _ => cases e
/-- the loop, from its own start -/
theorem for_core {K : PySem.W.Frag} {tg : Tgt} {body : En → Option SR} {Z : Av} {J : It} {H1 : Hp} {ds : List PyData} {pm1 : Pm} (ok : ItOk T S Z J H1 ds) {ρ0 : En} {r0 : SR} {D : Ends} (E0 : EnB C T ⟨S, Z, H1, some pm1⟩ H1 σ ρ0) (h0 : forL tg body ds ρ0 = some r0)
    (q1 : ∀ ρ', r0 = .nx ρ' → ∀ σ' H', EnB C T ⟨S, Z, H1, some pm1⟩ H' σ' ρ' → D.nx σ' H') (q2 : ∀ ρ' d, r0 = .rt ρ' d → ∀ v σ' H', EnB C T ⟨S, Z, H1, some pm1⟩ H' σ' ρ' → DV S H' v d → D.rt v H') :
    ∃ W : Nat → Nat → List (Option V) → Hp → Prop, (∃ m, W 0 m σ H1) ∧ ∀ i m σ H, W i m σ H →
      (J.stop i H ∧ D.nx σ H) ∨ (J.go i H ∧ ∃ N : List (Option V) → Hp → Prop, (∀ σ' H', N σ' H' → ∃ m', m' < m ∧ W (i + 1) m' σ' H') ∧ ∀ x H', J.yld i H x H' → gOf K tg x σ H' fun σ2 H2 => tSD C T body { D with nx := N, ct := N, bk := D.nx } σ2 H2) := by
  refine ⟨fun i m σx Hx => m = ds.length - i ∧ i ≤ ds.length ∧ ∃ ρx, EnB C T ⟨S, Z, H1, some pm1⟩ Hx σx ρx ∧ forL tg body (ds.drop i) ρx = some r0, ⟨_, rfl, Nat.zero_le _, ρ0, E0, h0⟩, ?_⟩
  rintro i m σx Hx ⟨rfl, hi, ρx, ⟨S2, pm2, oa2, c2⟩, hf⟩
  by_cases hlt : i < ds.length
  · refine .inr ⟨ok.go i Hx c2.gr hlt, fun σ' H' => ∃ ρx, EnB C T ⟨S, Z, H1, some pm1⟩ H' σ' ρx ∧ forL tg body (ds.drop (i + 1)) ρx = some r0, fun σ' H' h => ⟨_, by omega, rfl, hlt, h⟩, fun x H' y => ?_⟩
    obtain ⟨g3, d, hd, dv⟩ := ok.yld i Hx x H' S2 c2.gr c2.sok (fun a o hs e => by
      cases z : S2 a with
      | false => rfl
      | true =>
        rcases c2.new a z with k | k
        · have k : S a = true := k
          rw [hs] at k
          cases k
        · have k : H1 a = none := k
          rw [k] at e
          cases e) hlt y
    have hdrop : ds.drop i = d :: ds.drop (i + 1) := by
      obtain ⟨hl, e⟩ := List.getElem?_eq_some_iff.mp hd
      rw [List.drop_eq_getElem_cons hl, e]
    rw [hdrop] at hf
    have hf : ((setT tg d ρx).bind fun ρ1 => (body ρ1).bind fun r => thenE r (forL tg body (ds.drop (i + 1)))) = some r0 := hf
    obtain ⟨ρ1, f1, hf⟩ := Option.bind_eq_some_iff.mp hf
    obtain ⟨r, f2, hf⟩ := Option.bind_eq_some_iff.mp hf
    refine gOf_okC (c2.grow g3) dv f1 fun σ2 c3 => ?_
    refine ⟨_, ρ1, r, ⟨S2, pm2, oa2, c3⟩, f2, fun ρ' h σ' H2 E2 => ?_, fun ρ' d' h v σ' H2 E2 dv' => ?_⟩
    · subst h
      exact ⟨ρ', E2, hf⟩
    · subst h
      cases hf
      exact q2 _ _ rfl v σ' H2 E2 dv'
  · rw [List.drop_of_length_le (by omega)] at hf
    cases hf
    exact .inl ⟨ok.stop i Hx c2.gr (by omega), q1 _ rfl σx Hx ⟨S2, pm2, oa2, c2⟩⟩
/-- for a loop that writes nothing -/
def hideE (ρ : En) : En := ⟨ρ.sl, ρ.me.map fun m => ⟨m.many, m.signs, m.rows, m.basis, false⟩, ρ.mi, [], false⟩
def sameE (ρ ρx : En) : Bool := (ρx.me.isSome == ρ.me.isSome) && (ρx.mi == ρ.mi)
def backE (ρ ρx : En) : Option En := if sameE ρ ρx = true then some ⟨ρx.sl, ρ.me, ρ.mi, [], ρ.base⟩ else none
def backM (ρ ρx : En) : Option En := if sameE ρ ρx = true then some ⟨ρx.sl, ρx.me, ρx.mi, ρx.ow, ρ.base⟩ else none
def mapSR (b : En → Option En) : SR → Option SR
  | .nx ρ => (b ρ).map .nx
  | .rt ρ d => (b ρ).map (.rt · d)
def sFor (it : En → Option (List PyData)) (tg : Tgt) (body : En → Option SR) : En → Option SR := fun ρ => if ρ.ow.isEmpty = true then (it (hideE ρ)).bind fun ds => (forL tg body ds (hideE ρ)).bind (mapSR (backE ρ)) else none
def sForM (it : En → Option (List PyData)) (tg : Tgt) (body : En → Option SR) : En → Option SR := fun ρ => (it ρ).bind fun ds => (forL tg body ds ⟨ρ.sl, ρ.me, ρ.mi, ρ.ow, false⟩).bind (mapSR (backM ρ))
theorem sameE_iff {ρ ρx : En} (h : sameE ρ ρx = true) : ρx.me.isSome = ρ.me.isSome ∧ ρx.mi = ρ.mi := by
  unfold sameE at h
  rw [Bool.and_eq_true, beq_iff_eq, beq_iff_eq] at h
  exact h
theorem EnC.hide (c : EnC C T B S pm oa H σ ρ) (g : Grow T H H') : EnC C T ⟨S, fun _ => false, H', some pm⟩ S pm oa H' σ (hideE ρ) := by
  have c := c.grow g
  refine ⟨c.tabs, c.sok, c.len, c.sl, fun m hm => ?_, fun i ds h => (by cases h), fun i j ds es _ h => (by cases h), fun a h => h, fun a h => .inl h, c.sok, GrowM.refl, fun q h => (by cases h; rfl)⟩
  have hm : (ρ.me.map fun m => (⟨m.many, m.signs, m.rows, m.basis, false⟩ : SelfD)) = some m := hm
  obtain ⟨m0, e, rfl⟩ := Option.map_eq_some_iff.mp hm
  obtain ⟨h1, ⟨o1, o3, o4, o5, o6, o7⟩, _⟩ := c.me m0 e
  exact ⟨h1, ⟨o1, o3, o4, o5, o6, o7⟩, fun z => by cases z⟩
theorem EnC.back {Hx : Hp} {σx : List (Option V)} {ρx : En} (c : EnC C T B S pm oa H σ ρ) (g : Grow T H H') (Ex : EnB C T ⟨S, fun _ => false, H', some pm⟩ Hx σx ρx) (e : backE ρ ρx = some ρ') : EnB C T B Hx σx ρ' := by
  obtain ⟨S2, pm2, oa2, c2⟩ := Ex
  obtain rfl := c2.slf pm rfl
  unfold backE at e
  split at e
  case isFalse => cases e
  rename_i hs
  cases e
  obtain ⟨hs, hmi⟩ := sameE_iff hs
  have g2 : Grow T H' Hx := c2.gr.no
  have gg : Grow T H Hx := g.trans g2
  have fr : ∀ {b : Addr} {o : HO}, S b = false → H b = some o → S2 b = false := fun {b o} hb ho => by
    cases z : S2 b with
    | false => rfl
    | true =>
      rcases c2.new b z with k | k
      · have k : S b = true := k
        rw [hb] at k
        cases k
      · have k := g.dom b (k : H' b = none)
        rw [k] at ho
        cases ho
  have mk : ∀ {v d}, DV S H v d → DV S2 Hx v d := fun h => h.mono fun b o hs e n => ⟨fr hs e, gg.keep b o e n⟩
  have mks : ∀ {v d}, DVs S H v d → DVs S2 Hx v d := fun h => h.mono fun b o hs e n => ⟨fr hs e, gg.keep b o e n⟩
  refine ⟨S2, pm2, oa2, c2.tabs, c2.sok, c2.len, c2.sl, fun m hm => ?_, fun i ds h => (by cases h), fun i j ds es _ h => (by cases h), fun a h => c2.sub a (c.sub a h), fun a h => ?_, c.sok0, c.gr.trans gg.gm, c.slf⟩
  · have hm : ρ.me = some m := hm
    obtain ⟨h1, ⟨⟨vm, dx, o1, o2⟩, o3, ⟨xr, o4, o5⟩, ⟨xb, o6, o7⟩, ⟨o8, o9, o10⟩, o11⟩, h3⟩ := c.me m hm
    have : ρx.me.isSome = true := by rw [hs, hm]; rfl
    obtain ⟨mx, hmx⟩ := Option.isSome_iff_exists.mp this
    obtain ⟨k1, _⟩ := c2.me mx hmx
    refine ⟨by rw [← hmi]; exact k1, ⟨⟨vm, dx, gg.keep _ _ o1 nt_ins, mk o2⟩, mk o3, ⟨xr, gg.keep _ _ o4 nt_lst, mks o5⟩, ⟨xb, gg.keep _ _ o6 nt_lst, mks o7⟩, ⟨c2.sub _ o8, c2.sub _ o9, c2.sub _ o10⟩, o11⟩, h3⟩
  · rcases c2.new a h with k | k
    · exact c.new a k
    · exact .inr ((c.gr.trans g.gm).dom a k)
/-- what a loop may write -/
noncomputable def zOf (pm : Pm) (oa : Nat → Addr) (ρ : En) : Av := fun a => @decide ((∃ m, ρ.me = some m ∧ m.w = true ∧ (a = pm.pr ∨ a = pm.pb)) ∨ ∃ i ds, ρ.ow.lookup i = some ds ∧ a = oa i) (Classical.propDecidable _)
theorem zOf_iff {a : Addr} : zOf pm oa ρ a = true ↔ ((∃ m, ρ.me = some m ∧ m.w = true ∧ (a = pm.pr ∨ a = pm.pb)) ∨ ∃ i ds, ρ.ow.lookup i = some ds ∧ a = oa i) := by
  unfold zOf
  exact @decide_eq_true_iff _ (Classical.propDecidable _)
theorem EnC.zS (c : EnC C T B S pm oa H σ ρ) : ∀ a, zOf pm oa ρ a = true → S a = true := fun a h => by
  rcases zOf_iff.mp h with ⟨m, hm, hw, z⟩ | ⟨i, ds, hi, z⟩
  · obtain ⟨_, ⟨_, _, _, _, ⟨o8, o9, _⟩, _⟩, _⟩ := c.me m hm
    rcases z with z | z
    · rw [z]; exact o8
    · rw [z]; exact o9
  · obtain ⟨_, h2, _⟩ := c.ow i ds hi
    rw [z]
    exact h2
theorem EnC.zM (c : EnC C T B S pm oa H σ ρ) : ∀ a, zOf pm oa ρ a = true → B.mut a := fun a h => by
  rcases zOf_iff.mp h with ⟨m, hm, hw, z⟩ | ⟨i, ds, hi, z⟩
  · obtain ⟨_, _, h3⟩ := c.me m hm
    rcases z with z | z
    · rw [z]; exact (h3 hw).1
    · rw [z]; exact (h3 hw).2
  · obtain ⟨_, _, _, h4, _⟩ := c.ow i ds hi
    rw [z]
    exact h4
theorem EnC.zOk (c : EnC C T B S pm oa H σ ρ) : ZOk C S (zOf pm oa ρ) H σ ρ := ⟨c.zS, fun m hm hw p ps pr pb s hp => by
  obtain ⟨h1, ⟨⟨vm, dx, o1, _⟩, _⟩, _⟩ := c.me m hm
  rw [h1] at hp
  have e : pm.p = p := by injection hp with hp; injection hp with hp; injection hp
  obtain ⟨vm2, dx2, o2, _⟩ := s.ob
  rw [← e, o1] at o2
  have hpr : pm.pr = pr := by
    injection o2 with o2
    injection o2 with _ _ o2
    unfold flds at o2
    injection o2 with _ o2
    injection o2 with _ o2
    injection o2 with o2 _
    injection o2 with _ o2
    injection o2
  cases z : zOf pm oa ρ pr with
  | false => rfl
  | true =>
    rcases zOf_iff.mp z with ⟨m', hm', hw', _⟩ | ⟨i, ds, hi, z⟩
    · rw [hm] at hm'
      cases hm'
      rw [hw] at hw'
      cases hw'
    · obtain ⟨_, _, _, _, h5, _⟩ := c.ow i ds hi
      exact absurd (by rw [hpr]; exact z.symm) (h5 (by rw [hm]; rfl)).1⟩
theorem EnC.start (c : EnC C T B S pm oa H σ ρ) (g : Grow T H H') : EnC C T ⟨S, zOf pm oa ρ, H', some pm⟩ S pm oa H' σ ⟨ρ.sl, ρ.me, ρ.mi, ρ.ow, false⟩ := by
  have c' := c.grow g
  refine ⟨c'.tabs, c'.sok, c'.len, c'.sl, fun m hm => ?_, fun i ds h => ?_, c'.inj, fun a h => h, fun a h => .inl h, c'.sok, GrowM.refl, fun q h => (by cases h; rfl)⟩
  · obtain ⟨h1, h2, h3⟩ := c'.me m hm
    exact ⟨h1, h2, fun hw => ⟨.inl (zOf_iff.mpr (.inl ⟨m, hm, hw, .inl rfl⟩)), .inl (zOf_iff.mpr (.inl ⟨m, hm, hw, .inr rfl⟩))⟩⟩
  · obtain ⟨h1, h2, h3, h4, h5, h6⟩ := c'.ow i ds h
    exact ⟨h1, h2, h3, .inl (zOf_iff.mpr (.inr ⟨i, ds, h, rfl⟩)), h5, fun z => by cases z⟩
theorem EnC.stop {Hx : Hp} {σx : List (Option V)} {ρx : En} (c : EnC C T B S pm oa H σ ρ) (g : Grow T H H') (Ex : EnB C T ⟨S, zOf pm oa ρ, H', some pm⟩ Hx σx ρx) (e : backM ρ ρx = some ρ') : EnB C T B Hx σx ρ' := by
  obtain ⟨S2, pm2, oa2, c2⟩ := Ex
  obtain rfl := c2.slf pm rfl
  unfold backM at e
  split at e
  case isFalse => cases e
  rename_i hs
  cases e
  obtain ⟨hs, hmi⟩ := sameE_iff hs
  have c' := c.grow g
  have mt : ∀ {a : Addr}, Bs.mut ⟨S, zOf pm2 oa ρ, H', some pm2⟩ a → B.mut a := fun {a} h => by
    rcases h with h | h
    · exact c.zM a h
    · exact .inr (c'.gr.dom a h)
  have gr : GrowM T B.M B.H0 Hx := ⟨fun b o z e n => by
      have h1 := c'.gr.keep b o z e n
      refine c2.gr.keep b o ?_ h1 n
      cases hz : (⟨S, zOf pm2 oa ρ, H', some pm2⟩ : Bs).M b with
      | false => rfl
      | true =>
        rcases c.zM b hz with y | y
        · rw [y] at z
          cases z
        · rw [y] at e
          exact (nomatch e), fun t => c2.gr.tabs (c'.gr.tabs t), fun b h => c'.gr.dom b (c2.gr.dom b h), fun b o e n => let ⟨o', h', n'⟩ := c'.gr.has b o e n; c2.gr.has b o' h' n'⟩
  refine ⟨S2, pm2, oa2, c2.tabs, c2.sok, c2.len, c2.sl, fun m hm => ?_, fun i ds h => ?_, c2.inj, fun a h => c2.sub a (c.sub a h), fun a h => ?_, c.sok0, gr, c.slf⟩
  · obtain ⟨h1, h2, h3⟩ := c2.me m hm
    exact ⟨h1, h2, fun hw => ⟨mt (h3 hw).1, mt (h3 hw).2⟩⟩
  · obtain ⟨h1, h2, h3, h4, h5, h6⟩ := c2.ow i ds h
    refine ⟨h1, h2, h3, mt h4, h5, fun hb => ?_⟩
    rcases h4 with k | k
    · rcases zOf_iff.mp k with ⟨m, hm, hw, z⟩ | ⟨j, es, hj, z⟩
      · have : ρx.me.isSome = true := by rw [hs, hm]; rfl
        obtain ⟨n1, n2⟩ := h5 this
        rcases z with z | z
        · exact absurd z n1
        · exact absurd z n2
      · obtain ⟨_, _, _, _, _, k6⟩ := c.ow j es hj
        rw [z]
        exact k6 hb
    · exact c'.gr.dom _ k
  · rcases c2.new a h with k | k
    · exact c.new a k
    · exact .inr (c'.gr.dom a k)
end
section
variable {X : Cx} {C : Addr} {T : List Addr} {F G : En → Option SR} {f : En → Option PyData} {it : En → Option (List PyData)} {t : En → Option Bool} {st : Stmt} {sts body : List Stmt} {e tg iter : Expr} {pos : Pos} {tgt : Tgt}
theorem psd_for (hp : PassesOwn (model X.prog X.w) X.A X.env X.xe) (hc : X.calm = true) (hi : PIt X C T tg iter it) (hg : PG X tg (gOf X.K tgt)) (hb : PSDs X C T body F) (hs : ∀ x, foldedSetIterable iter X.env x = pure x := by intro _; rfl) :
    PSD X C T (.For tg iter body [] pos) (sFor it tgt F) := PS.imp (ps_for hp hc hi hg hb hs) fun D σ H ⟨B, ρ, r, ⟨S, pm, oa, c⟩, e, q1, q2⟩ => by
  have e : (if ρ.ow.isEmpty = true then (it (hideE ρ)).bind fun ds => (forL tgt F ds (hideE ρ)).bind (mapSR (backE ρ)) else none) = some r := e
  split at e
  case isFalse => cases e
  obtain ⟨ds, e1, e⟩ := Option.bind_eq_some_iff.mp e
  obtain ⟨r0, e2, e⟩ := Option.bind_eq_some_iff.mp e
  refine ⟨S, fun _ => false, hideE ρ, ds, (c.hide .refl).E, ZOk.no, e1, fun J H1 g1 ok => ?_⟩
  refine for_core ok ⟨S, pm, oa, c.hide g1⟩ e2 (fun ρ' h σ' H' E' => ?_) fun ρ' d h v σ' H' E' dv => ?_
  · subst h
    obtain ⟨ρ2, e3, rfl⟩ := Option.map_eq_some_iff.mp (e : (backE ρ ρ').map SR.nx = some r)
    exact q1 _ rfl σ' H' (c.back g1 E' e3)
  · subst h
    obtain ⟨ρ2, e3, rfl⟩ := Option.map_eq_some_iff.mp (e : (backE ρ ρ').map (SR.rt · d) = some r)
    exact q2 _ _ rfl v σ' H' (c.back g1 E' e3) (dv.sub c.sub)
theorem psd_forM (hp : PassesOwn (model X.prog X.w) X.A X.env X.xe) (hc : X.calm = true) (hi : PIt X C T tg iter it) (hg : PG X tg (gOf X.K tgt)) (hb : PSDs X C T body F) (hs : ∀ x, foldedSetIterable iter X.env x = pure x := by intro _; rfl) :
    PSD X C T (.For tg iter body [] pos) (sForM it tgt F) := PS.imp (ps_for hp hc hi hg hb hs) fun D σ H ⟨B, ρ, r, ⟨S, pm, oa, c⟩, e, q1, q2⟩ => by
  obtain ⟨ds, e1, e⟩ := Option.bind_eq_some_iff.mp e
  obtain ⟨r0, e2, e⟩ := Option.bind_eq_some_iff.mp e
  refine ⟨S, zOf pm oa ρ, ρ, ds, c.E, c.zOk, e1, fun J H1 g1 ok => ?_⟩
  refine for_core ok ⟨S, pm, oa, c.start g1⟩ e2 (fun ρ' h σ' H' E' => ?_) fun ρ' d h v σ' H' E' dv => ?_
  · subst h
    obtain ⟨ρ2, e3, rfl⟩ := Option.map_eq_some_iff.mp (e : (backM ρ ρ').map SR.nx = some r)
    exact q1 _ rfl σ' H' (c.stop g1 E' e3)
  · subst h
    obtain ⟨ρ2, e3, rfl⟩ := Option.map_eq_some_iff.mp (e : (backM ρ ρ').map (SR.rt · d) = some r)
    exact q2 _ _ rfl v σ' H' (c.stop g1 E' e3) (dv.sub c.sub)
def whileL (t : En → Option Bool) (body : En → Option SR) : Nat → En → Option SR
  | 0, _ => none
  | n + 1, ρ => (t ρ).bind fun c => if c = true then (body ρ).bind fun r => thenE r (whileL t body n) else some (.nx ρ)
theorem psd_while {c : Expr} (n : Nat) (hp : PassesOwn (model X.prog X.w) X.A X.env X.xe) (hc : PDB X C T c t) (hb : PSDs X C T body F) : PSD X C T (.While c body [] pos) (whileL t F n) := PS.imp (ps_while hp hc hb) fun D σ H ⟨B, ρ, r, E, e, q1, q2⟩ => by
  refine ⟨fun m σx Hx => ∃ ρx, EnB C T B Hx σx ρx ∧ whileL t F m ρx = some r, ⟨n, ρ, E, e⟩, ?_⟩
  rintro m σx Hx ⟨ρx, ⟨S, pm, oa, cc⟩, e⟩
  cases m with
  | zero => cases e
  | succ m =>
    have e : ((t ρx).bind fun c => if c = true then (F ρx).bind fun r => thenE r (whileL t F m) else some (.nx ρx)) = some r := e
    obtain ⟨b, e1, e⟩ := Option.bind_eq_some_iff.mp e
    refine ⟨S, ρx, b, cc.E, e1, fun H1 g1 => ?_⟩
    cases b with
    | true =>
      rw [if_pos rfl] at e ⊢
      obtain ⟨r1, e2, e⟩ := Option.bind_eq_some_iff.mp e
      refine ⟨fun σ' H' => ∃ ρx, EnB C T B H' σ' ρx ∧ whileL t F m ρx = some r, fun σ' H' h => ⟨m, Nat.lt_succ_self m, h⟩, B, ρx, r1, ⟨S, pm, oa, cc.grow g1⟩, e2, fun ρ' h σ' H' E' => ?_, fun ρ' d h v σ' H' E' dv => ?_⟩
      · subst h
        exact ⟨ρ', E', e⟩
      · subst h
        cases e
        exact q2 _ _ rfl v σ' H' E' dv
    | false =>
      rw [if_neg Bool.false_ne_true] at e ⊢
      cases e
      exact q1 _ rfl σx H1 ⟨S, pm, oa, cc.grow g1⟩
end
end DL
end
section
set_option maxHeartbeats 4000000
namespace DL
open PySem PySem.Spec PyProof.Rows L2
open GxR (TabB TabG Tabbed)

/-! ### writes -/
section
variable {X : Cx} {C : Addr} {T : List Addr} {F G : En → Option SR} {f g : En → Option PyData} {fs : En → Option (List PyData)} {t : En → Option Bool} {e e2 : Expr} {es : List Expr} {pos apos cpos sp tpos : Pos} {i si : Nat} {x sx : Str}
def appL (d : PyData) (ds : List PyData) : Option (List PyData) := if ds.length < LIM then some (ds ++ [d]) else none
def setL (k d : PyData) (ds : List PyData) : Option (List PyData) := (asInt k).bind fun k => (ixN ds.length k).map fun j => ds.set j d
theorem asInt_some {d : PyData} {i : Int} (h : asInt d = some i) : d = .int i := by
  cases d <;> simp [asInt] at h
  rw [h]
/-- x.append(e), x owned -/
def sApp (i : Nat) (f : En → Option PyData) : En → Option SR := fun ρ => (f ρ).bind fun d => (owE i (appL d) ρ).map .nx
theorem psd_app (hx : PE X (.Name x sp) (tVar i)) (he : PD X C T e f) (hbase : attributeBase (.Name x sp) "append" X.env (eval (.Name x sp) X.env) = eval (.Name x sp) X.env := by rfl)
    (hfew : ((backTo cpos (starEach (e :: []) X.env)).all (fun x => !x.1) && (backToKw cpos (keywordEach [] X.env)).all (fun x => x.1.isSome)
      && decide ((e :: []).length + ([] : List Keyword).length + (if ([] : List Keyword).isEmpty then 0 else 1) < 30)) = true := by rfl)
    (hline : (apos.endLine == cpos.line) = true := by rfl) (hs : starEach (e :: []) X.env = (false, eval e X.env) :: starEach [] X.env := by rfl)
    (hsw : swapsWith (.Call (.Attribute (.Name x sp) "append" apos) [e] [] cpos) none pos.line X.env = pure false := by rfl) :
    PSD X C T (.Expr (.Call (.Attribute (.Name x sp) "append" apos) [e] [] cpos) pos) (sApp i f) :=
  PS.imp (ps_expr (pe_bm PySem.F.plainAttrs_list PySem.F.slot_list_append PySem.F.type_list_append mt_append hx (pa_cons he pa_nil hs) hbase hfew hline hs) hsw) fun D σ H ⟨B, ρ, r, ⟨S, pm, oa, c⟩, e, q1, q2⟩ => by
  obtain ⟨d, e1, e⟩ := Option.bind_eq_some_iff.mp e
  obtain ⟨ρ', e2, rfl⟩ := Option.map_eq_some_iff.mp e
  obtain ⟨ds, e3, e2⟩ := Option.bind_eq_some_iff.mp e2
  obtain ⟨es, e4, rfl⟩ := Option.map_eq_some_iff.mp e2
  obtain ⟨h1, h2, ⟨xs, h3, h4⟩, _⟩ := c.ow i ds e3
  have e4 : (if ds.length < LIM then some (ds ++ [d]) else none) = some es := e4
  split at e4
  case isFalse => cases e4
  rename_i hl
  cases e4
  refine ⟨_, h1, .inl ⟨rfl, _, SqL.of h3⟩, S, ρ, d, c.E, e1, fun v H' g dv => ?_⟩
  have h3' := g.keep _ _ h3 nt_lst
  refine ⟨_, _, _, rfl, rfl, h3', lim_size (by rw [h4.length]; omega), ?_⟩
  exact q1 _ rfl σ _ ⟨S, pm, oa, (c.grow g).write e3 ((h4.grow g).append (.cons dv .nil))⟩
/-- x[k] = e, x owned -/
def sSetI (i : Nat) (g f : En → Option PyData) : En → Option SR := fun ρ => (f ρ).bind fun d => (g ρ).bind fun k => (owE i (setL k d) ρ).map .nx
theorem psd_setI (hx : PE X (.Name x sp) (tVar i)) (hk : PD X C T e2 g) (he : PD X C T e f) (hs : swapsWithSole [.Subscript (.Name x sp) e2 tpos] e pos.line X.env = pure false := by rfl) (hw : swappedStores [.Subscript (.Name x sp) e2 tpos] e X.env = pure none := by rfl)
    (h1 : (assignEach [.Subscript (.Name x sp) e2 tpos] X.env).map (·.2) = [assign (.Subscript (.Name x sp) e2 tpos) X.env] := by rfl)
    (ha : ∀ v, assign (.Subscript (.Name x sp) e2 tpos) X.env v = (do
      let ov ← holding [v] (eval (.Name x sp) X.env)
      let iv ← holding [v, ov] (eval e2 X.env)
      standAt tpos
      holding [v, ov, iv] (setItem ov iv v)
      release [v, ov, iv] []) := by intro _; rfl) : PSD X C T (.Assign [.Subscript (.Name x sp) e2 tpos] e pos) (sSetI i g f) :=
  PS.imp (ps_asg he (pg_sub hx hk set_list ha) hs hw h1) fun D σ H ⟨B, ρ, r, ⟨S, pm, oa, c⟩, e, q1, q2⟩ => by
  obtain ⟨d, e1, e⟩ := Option.bind_eq_some_iff.mp e
  obtain ⟨k, e2, e⟩ := Option.bind_eq_some_iff.mp e
  obtain ⟨ρ', e3, rfl⟩ := Option.map_eq_some_iff.mp e
  obtain ⟨ds, e4, e3⟩ := Option.bind_eq_some_iff.mp e3
  obtain ⟨es, e5, rfl⟩ := Option.map_eq_some_iff.mp e3
  obtain ⟨n, e6, e5⟩ := Option.bind_eq_some_iff.mp e5
  obtain ⟨j, e7, rfl⟩ := Option.map_eq_some_iff.mp e5
  obtain rfl := asInt_some e6
  refine ⟨S, ρ, d, c.E, e1, fun v H1 g1 dv => ?_⟩
  obtain ⟨k1, k2, ⟨xs, k3, k4⟩, _⟩ := (c.grow g1).ow i ds e4
  refine ⟨_, k1, S, ρ, _, c.E.grow g1, e2, fun v2 H2 g2 dv2 => ?_⟩
  cases dv2
  have k4' := k4.grow g2
  refine ⟨_, xs, n, j, rfl, rfl, g2.keep _ _ k3 nt_lst, by rw [k4.length]; exact e7, ?_⟩
  exact q1 _ rfl σ _ ⟨S, pm, oa, ((c.grow g1).grow g2).write e4 (DVs.set (dv.grow g2) j k4')⟩
/-! ### self's lists -/
def wrR (F : List PyData → Option (List PyData)) (si : Nat) (ρ : En) : Option En := (ρ.meAt si).bind fun m => if m.w = true then (F m.rows).map fun rs => ⟨ρ.sl, some ⟨m.many, m.signs, rs, m.basis, m.w⟩, ρ.mi, ρ.ow, ρ.base⟩ else none
def wrB (F : List PyData → Option (List PyData)) (si : Nat) (ρ : En) : Option En := (ρ.meAt si).bind fun m => if m.w = true then (F m.basis).map fun bs => ⟨ρ.sl, some ⟨m.many, m.signs, m.rows, bs, m.w⟩, ρ.mi, ρ.ow, ρ.base⟩ else none
theorem meAt_iff {ρ : En} {m : SelfD} (h : ρ.meAt si = some m) : ρ.mi = si ∧ ρ.me = some m := by
  unfold En.meAt at h
  split at h
  · exact ⟨by assumption, h⟩
  · cases h
theorem EnC.wrR {B : Bs} {S : Av} {pm : Pm} {oa : Nat → Addr} {H : Hp} {σ : List (Option V)} {ρ ρ' : En} {m : SelfD} {Fl : List PyData → Option (List PyData)} {xs : List V} {rs : List PyData} (c : EnC C T B S pm oa H σ ρ) (h : ρ.meAt si = some m) (hw : m.w = true) (dv : DVs S H xs rs) :
    EnC C T B S pm oa (upd H pm.pr (.lst xs)) σ ⟨ρ.sl, some ⟨m.many, m.signs, rs, m.basis, m.w⟩, ρ.mi, ρ.ow, ρ.base⟩ := by
  obtain ⟨_, hm⟩ := meAt_iff h
  obtain ⟨h1, h2, h3⟩ := c.me m hm
  obtain ⟨xr, hx, _⟩ := h2.rw
  exact c.wr (Z := fun b => decide (b = pm.pr)) hm hw hw (GrowM.upd1 hx nt_lst nt_lst) (fun a ha => .inl (of_decide_eq_true ha)) (h2.wrR dv)
theorem EnC.wrB {B : Bs} {S : Av} {pm : Pm} {oa : Nat → Addr} {H : Hp} {σ : List (Option V)} {ρ ρ' : En} {m : SelfD} {xs : List V} {rs : List PyData} (c : EnC C T B S pm oa H σ ρ) (h : ρ.meAt si = some m) (hw : m.w = true) (dv : DVs S H xs rs) :
    EnC C T B S pm oa (upd H pm.pb (.lst xs)) σ ⟨ρ.sl, some ⟨m.many, m.signs, m.rows, rs, m.w⟩, ρ.mi, ρ.ow, ρ.base⟩ := by
  obtain ⟨_, hm⟩ := meAt_iff h
  obtain ⟨h1, h2, h3⟩ := c.me m hm
  obtain ⟨xb, hx, _⟩ := h2.bs
  exact c.wr (Z := fun b => decide (b = pm.pb)) hm hw hw (GrowM.upd1 hx nt_lst nt_lst) (fun a ha => .inr (of_decide_eq_true ha)) (h2.wrB dv)
/-- self.rows[k] = e -/
def sSetR (si : Nat) (g f : En → Option PyData) : En → Option SR := fun ρ => (f ρ).bind fun d => (g ρ).bind fun k => (wrR (setL k d) si ρ).map .nx
def sSetB (si : Nat) (g f : En → Option PyData) : En → Option SR := fun ρ => (f ρ).bind fun d => (g ρ).bind fun k => (wrB (setL k d) si ρ).map .nx
def sAppR (si : Nat) (f : En → Option PyData) : En → Option SR := fun ρ => (f ρ).bind fun d => (wrR (appL d) si ρ).map .nx
def sAppB (si : Nat) (f : En → Option PyData) : En → Option SR := fun ρ => (f ρ).bind fun d => (wrB (appL d) si ρ).map .nx
theorem psd_setR {ap : Pos} (hs0 : PE X (.Name sx sp) (tVar si)) (hC : Cls X.K C) (hN : NoAttr X.K C "rows") (hk : PD X C T e2 g) (he : PD X C T e f) (hba : attributeBase (.Name sx sp) "rows" X.env (eval (.Name sx sp) X.env) = eval (.Name sx sp) X.env := by rfl)
    (hs : swapsWithSole [.Subscript (.Attribute (.Name sx sp) "rows" ap) e2 tpos] e pos.line X.env = pure false := by rfl) (hw : swappedStores [.Subscript (.Attribute (.Name sx sp) "rows" ap) e2 tpos] e X.env = pure none := by rfl)
    (h1 : (assignEach [.Subscript (.Attribute (.Name sx sp) "rows" ap) e2 tpos] X.env).map (·.2) = [assign (.Subscript (.Attribute (.Name sx sp) "rows" ap) e2 tpos) X.env] := by rfl)
    (ha : ∀ v, assign (.Subscript (.Attribute (.Name sx sp) "rows" ap) e2 tpos) X.env v = (do
      let ov ← holding [v] (eval (.Attribute (.Name sx sp) "rows" ap) X.env)
      let iv ← holding [v, ov] (eval e2 X.env)
      standAt tpos
      holding [v, ov, iv] (setItem ov iv v)
      release [v, ov, iv] []) := by intro _; rfl) : PSD X C T (.Assign [.Subscript (.Attribute (.Name sx sp) "rows" ap) e2 tpos] e pos) (sSetR si g f) :=
  PS.imp (ps_asg he (pg_sub (pe_fld hs0 hba) hk set_list ha) hs hw h1) fun D σ H ⟨B, ρ, r, ⟨S, pm, oa, c⟩, e, q1, q2⟩ => by
  obtain ⟨d, e1, e⟩ := Option.bind_eq_some_iff.mp e
  obtain ⟨k, e2, e⟩ := Option.bind_eq_some_iff.mp e
  obtain ⟨ρ', e3, rfl⟩ := Option.map_eq_some_iff.mp e
  obtain ⟨m, e4, e3⟩ := Option.bind_eq_some_iff.mp e3
  split at e3
  case isFalse => cases e3
  rename_i hw
  obtain ⟨es, e5, rfl⟩ := Option.map_eq_some_iff.mp e3
  obtain ⟨n, e6, e5⟩ := Option.bind_eq_some_iff.mp e5
  obtain ⟨j, e7, rfl⟩ := Option.map_eq_some_iff.mp e5
  obtain rfl := asInt_some e6
  refine ⟨S, ρ, d, c.E, e1, fun v H1 g1 dv => ?_⟩
  have c1 := c.grow g1
  obtain ⟨hmi, hm⟩ := meAt_iff e4
  obtain ⟨k1, k2, _⟩ := c1.me m hm
  obtain ⟨vm, dx, ho, dm⟩ := k2.ob
  obtain ⟨xr, hx, dxr⟩ := k2.rw
  rw [hmi] at k1
  refine ⟨_, k1, pm.p, C, dx, _, _, rfl, ho, hC, hN, flds_rows, S, ρ, _, c1.E, e2, fun v2 H2 g2 dv2 => ?_⟩
  cases dv2
  have dxr' := dxr.grow g2
  refine ⟨_, xr, n, j, rfl, rfl, g2.keep _ _ hx nt_lst, by rw [dxr.length]; exact e7, ?_⟩
  exact q1 _ rfl σ _ ⟨S, pm, oa, (c1.grow g2).wrR (ρ' := ρ) (Fl := some) e4 hw (DVs.set (dv.grow g2) j dxr')⟩
theorem psd_setB {ap : Pos} (hs0 : PE X (.Name sx sp) (tVar si)) (hC : Cls X.K C) (hN : NoAttr X.K C "basis") (hk : PD X C T e2 g) (he : PD X C T e f) (hba : attributeBase (.Name sx sp) "basis" X.env (eval (.Name sx sp) X.env) = eval (.Name sx sp) X.env := by rfl)
    (hs : swapsWithSole [.Subscript (.Attribute (.Name sx sp) "basis" ap) e2 tpos] e pos.line X.env = pure false := by rfl) (hw : swappedStores [.Subscript (.Attribute (.Name sx sp) "basis" ap) e2 tpos] e X.env = pure none := by rfl)
    (h1 : (assignEach [.Subscript (.Attribute (.Name sx sp) "basis" ap) e2 tpos] X.env).map (·.2) = [assign (.Subscript (.Attribute (.Name sx sp) "basis" ap) e2 tpos) X.env] := by rfl)
    (ha : ∀ v, assign (.Subscript (.Attribute (.Name sx sp) "basis" ap) e2 tpos) X.env v = (do
      let ov ← holding [v] (eval (.Attribute (.Name sx sp) "basis" ap) X.env)
      let iv ← holding [v, ov] (eval e2 X.env)
      standAt tpos
      holding [v, ov, iv] (setItem ov iv v)
      release [v, ov, iv] []) := by intro _; rfl) : PSD X C T (.Assign [.Subscript (.Attribute (.Name sx sp) "basis" ap) e2 tpos] e pos) (sSetB si g f) :=
  PS.imp (ps_asg he (pg_sub (pe_fld hs0 hba) hk set_list ha) hs hw h1) fun D σ H ⟨B, ρ, r, ⟨S, pm, oa, c⟩, e, q1, q2⟩ => by
  obtain ⟨d, e1, e⟩ := Option.bind_eq_some_iff.mp e
  obtain ⟨k, e2, e⟩ := Option.bind_eq_some_iff.mp e
  obtain ⟨ρ', e3, rfl⟩ := Option.map_eq_some_iff.mp e
  obtain ⟨m, e4, e3⟩ := Option.bind_eq_some_iff.mp e3
  split at e3
  case isFalse => cases e3
  rename_i hw
  obtain ⟨es, e5, rfl⟩ := Option.map_eq_some_iff.mp e3
  obtain ⟨n, e6, e5⟩ := Option.bind_eq_some_iff.mp e5
  obtain ⟨j, e7, rfl⟩ := Option.map_eq_some_iff.mp e5
  obtain rfl := asInt_some e6
  refine ⟨S, ρ, d, c.E, e1, fun v H1 g1 dv => ?_⟩
  have c1 := c.grow g1
  obtain ⟨hmi, hm⟩ := meAt_iff e4
  obtain ⟨k1, k2, _⟩ := c1.me m hm
  obtain ⟨vm, dx, ho, dm⟩ := k2.ob
  obtain ⟨xr, hx, dxr⟩ := k2.bs
  rw [hmi] at k1
  refine ⟨_, k1, pm.p, C, dx, _, _, rfl, ho, hC, hN, flds_basis, S, ρ, _, c1.E, e2, fun v2 H2 g2 dv2 => ?_⟩
  cases dv2
  have dxr' := dxr.grow g2
  refine ⟨_, xr, n, j, rfl, rfl, g2.keep _ _ hx nt_lst, by rw [dxr.length]; exact e7, ?_⟩
  exact q1 _ rfl σ _ ⟨S, pm, oa, (c1.grow g2).wrB (ρ' := ρ) e4 hw (DVs.set (dv.grow g2) j dxr')⟩
theorem psd_appR {ap : Pos} (hs0 : PE X (.Name sx sp) (tVar si)) (hC : Cls X.K C) (hN : NoAttr X.K C "rows") (he : PD X C T e f) (hba : attributeBase (.Name sx sp) "rows" X.env (eval (.Name sx sp) X.env) = eval (.Name sx sp) X.env := by rfl)
    (hbase : attributeBase (.Attribute (.Name sx sp) "rows" ap) "append" X.env (eval (.Attribute (.Name sx sp) "rows" ap) X.env) = eval (.Attribute (.Name sx sp) "rows" ap) X.env := by rfl)
    (hfew : ((backTo cpos (starEach (e :: []) X.env)).all (fun x => !x.1) && (backToKw cpos (keywordEach [] X.env)).all (fun x => x.1.isSome)
      && decide ((e :: []).length + ([] : List Keyword).length + (if ([] : List Keyword).isEmpty then 0 else 1) < 30)) = true := by rfl)
    (hline : (apos.endLine == cpos.line) = true := by rfl) (hs : starEach (e :: []) X.env = (false, eval e X.env) :: starEach [] X.env := by rfl)
    (hsw : swapsWith (.Call (.Attribute (.Attribute (.Name sx sp) "rows" ap) "append" apos) [e] [] cpos) none pos.line X.env = pure false := by rfl) :
    PSD X C T (.Expr (.Call (.Attribute (.Attribute (.Name sx sp) "rows" ap) "append" apos) [e] [] cpos) pos) (sAppR si f) :=
  PS.imp (ps_expr (pe_bm PySem.F.plainAttrs_list PySem.F.slot_list_append PySem.F.type_list_append mt_append (pe_fld hs0 hba) (pa_cons he pa_nil hs) hbase hfew hline hs) hsw) fun D σ H ⟨B, ρ, r, ⟨S, pm, oa, c⟩, e, q1, q2⟩ => by
  obtain ⟨d, e1, e⟩ := Option.bind_eq_some_iff.mp e
  obtain ⟨ρ', e3, rfl⟩ := Option.map_eq_some_iff.mp e
  obtain ⟨m, e4, e3⟩ := Option.bind_eq_some_iff.mp e3
  split at e3
  case isFalse => cases e3
  rename_i hw
  obtain ⟨es, e5, rfl⟩ := Option.map_eq_some_iff.mp e3
  have e5 : (if m.rows.length < LIM then some (m.rows ++ [d]) else none) = some es := e5
  split at e5
  case isFalse => cases e5
  rename_i hl
  cases e5
  obtain ⟨hmi, hm⟩ := meAt_iff e4
  obtain ⟨k1, k2, _⟩ := c.me m hm
  obtain ⟨vm, dx, ho, dm⟩ := k2.ob
  obtain ⟨xr, hx, dxr⟩ := k2.rw
  rw [hmi] at k1
  refine ⟨_, k1, pm.p, C, dx, _, _, rfl, ho, hC, hN, flds_rows, .inl ⟨rfl, _, SqL.of hx⟩, S, ρ, d, c.E, e1, fun v H' g dv => ?_⟩
  refine ⟨_, xr, _, rfl, rfl, g.keep _ _ hx nt_lst, lim_size (by rw [dxr.length]; omega), ?_⟩
  exact q1 _ rfl σ _ ⟨S, pm, oa, (c.grow g).wrR (ρ' := ρ) (Fl := some) e4 hw ((dxr.grow g).append (.cons dv .nil))⟩
theorem psd_appB {ap : Pos} (hs0 : PE X (.Name sx sp) (tVar si)) (hC : Cls X.K C) (hN : NoAttr X.K C "basis") (he : PD X C T e f) (hba : attributeBase (.Name sx sp) "basis" X.env (eval (.Name sx sp) X.env) = eval (.Name sx sp) X.env := by rfl)
    (hbase : attributeBase (.Attribute (.Name sx sp) "basis" ap) "append" X.env (eval (.Attribute (.Name sx sp) "basis" ap) X.env) = eval (.Attribute (.Name sx sp) "basis" ap) X.env := by rfl)
    (hfew : ((backTo cpos (starEach (e :: []) X.env)).all (fun x => !x.1) && (backToKw cpos (keywordEach [] X.env)).all (fun x => x.1.isSome)
      && decide ((e :: []).length + ([] : List Keyword).length + (if ([] : List Keyword).isEmpty then 0 else 1) < 30)) = true := by rfl)
    (hline : (apos.endLine == cpos.line) = true := by rfl) (hs : starEach (e :: []) X.env = (false, eval e X.env) :: starEach [] X.env := by rfl)
    (hsw : swapsWith (.Call (.Attribute (.Attribute (.Name sx sp) "basis" ap) "append" apos) [e] [] cpos) none pos.line X.env = pure false := by rfl) :
    PSD X C T (.Expr (.Call (.Attribute (.Attribute (.Name sx sp) "basis" ap) "append" apos) [e] [] cpos) pos) (sAppB si f) :=
  PS.imp (ps_expr (pe_bm PySem.F.plainAttrs_list PySem.F.slot_list_append PySem.F.type_list_append mt_append (pe_fld hs0 hba) (pa_cons he pa_nil hs) hbase hfew hline hs) hsw) fun D σ H ⟨B, ρ, r, ⟨S, pm, oa, c⟩, e, q1, q2⟩ => by
  obtain ⟨d, e1, e⟩ := Option.bind_eq_some_iff.mp e
  obtain ⟨ρ', e3, rfl⟩ := Option.map_eq_some_iff.mp e
  obtain ⟨m, e4, e3⟩ := Option.bind_eq_some_iff.mp e3
  split at e3
  case isFalse => cases e3
  rename_i hw
  obtain ⟨es, e5, rfl⟩ := Option.map_eq_some_iff.mp e3
  have e5 : (if m.basis.length < LIM then some (m.basis ++ [d]) else none) = some es := e5
  split at e5
  case isFalse => cases e5
  rename_i hl
  cases e5
  obtain ⟨hmi, hm⟩ := meAt_iff e4
  obtain ⟨k1, k2, _⟩ := c.me m hm
  obtain ⟨vm, dx, ho, dm⟩ := k2.ob
  obtain ⟨xr, hx, dxr⟩ := k2.bs
  rw [hmi] at k1
  refine ⟨_, k1, pm.p, C, dx, _, _, rfl, ho, hC, hN, flds_basis, .inl ⟨rfl, _, SqL.of hx⟩, S, ρ, d, c.E, e1, fun v H' g dv => ?_⟩
  refine ⟨_, xr, _, rfl, rfl, g.keep _ _ hx nt_lst, lim_size (by rw [dxr.length]; omega), ?_⟩
  exact q1 _ rfl σ _ ⟨S, pm, oa, (c.grow g).wrB (ρ' := ρ) e4 hw ((dxr.grow g).append (.cons dv .nil))⟩
/-! ### methods that write -/
def zSelf (pr pb : Addr) : Av := fun a => decide (a = pr) || decide (a = pb)
theorem zSelf_or {pr pb a : Addr} (h : zSelf pr pb a = true) : a = pr ∨ a = pb := by
  unfold zSelf at h
  rw [Bool.or_eq_true, decide_eq_true_eq, decide_eq_true_eq] at h
  exact h
def spMM (C : Addr) (T : List Addr) (G : SelfD → List PyData → Option (SelfD × PyData)) : Sp := fun vs H Q _ => ∃ S m p ps pr pb vs' ds m' d, vs = .ref p :: vs' ∧ (∀ P ∈ T, TabG H P) ∧ SOk S H ∧ SelfR C S H p ps pr pb m ∧ m.w = true ∧ DVs S H vs' ds ∧ G m ds = some (m', d) ∧ m'.w = true ∧
  ∀ v H', GrowM T (zSelf pr pb) H H' → SelfR C S H' p ps pr pb m' → DV S H' v d → Q v H'
variable {k : Nat} {fa : Addr} {fd : FuncData} {ps : List Str} {M : SelfD → List PyData → Option (SelfD × PyData)} {m : Str}
def callM (si : Nat) (M : SelfD → List PyData → Option (SelfD × PyData)) (fs : En → Option (List PyData)) (ρ : En) : Option (En × PyData) := (ρ.meAt si).bind fun m => if m.w = true then (fs ρ).bind fun ds => (M m ds).bind fun r => if r.1.w = true then some (⟨ρ.sl, some r.1, ρ.mi, ρ.ow, ρ.base⟩, r.2) else none else none
theorem callM_some {ρ ρ' : En} {d : PyData} (h : callM si M fs ρ = some (ρ', d)) : ∃ m ds m', ρ.meAt si = some m ∧ m.w = true ∧ fs ρ = some ds ∧ M m ds = some (m', d) ∧ m'.w = true ∧ ρ' = ⟨ρ.sl, some m', ρ.mi, ρ.ow, ρ.base⟩ := by
  obtain ⟨m, e1, h⟩ := Option.bind_eq_some_iff.mp h
  split at h
  case isFalse => cases h
  rename_i hw
  obtain ⟨ds, e2, h⟩ := Option.bind_eq_some_iff.mp h
  obtain ⟨⟨m', d'⟩, e3, h⟩ := Option.bind_eq_some_iff.mp h
  split at h
  case isFalse => cases h
  rename_i hw'
  cases h
  exact ⟨m, ds, m', e1, hw, e2, e3, hw', rfl⟩
/-- the reading of a call that writes self -/
theorem tMM_of {B : Bs} {S : Av} {pm : Pm} {oa : Nat → Addr} {H : Hp} {σ : List (Option V)} {ρ ρ' : En} {d : PyData} {Q : VK} (hC : Cls X.K C) (n1 : ¬ m = "many") (n2 : ¬ m = "signs") (n3 : ¬ m = "rows") (n4 : ¬ m = "basis") (c : EnC C T B S pm oa H σ ρ) (h : callM si M fs ρ = some (ρ', d))
    (q : ∀ v H', EnC C T B S pm oa H' σ ρ' → DV S H' v d → Q v H') : tMeth C m (spMM C T M) [] E0 (tVar si) (tDs C T fs) σ H Q := by
  obtain ⟨md, ds, m', e1, hw, e2, e3, hw', rfl⟩ := callM_some h
  obtain ⟨hmi, hm⟩ := meAt_iff e1
  obtain ⟨k1, k2, _⟩ := c.me md hm
  obtain ⟨vm, dx, ho, _⟩ := k2.ob
  rw [hmi] at k1
  refine ⟨_, k1, pm.p, dx, _, rfl, ho, flds_no n1 n2 n3 n4, S, ρ, ds, c.E, e2, fun vs H1 g1 dvs => ?_⟩
  show spMM C T M (.ref pm.p :: (vs ++ [])) H1 Q E0
  rw [List.append_nil]
  have c1 := c.grow g1
  refine ⟨S, md, pm.p, pm.ps, pm.pr, pm.pb, vs, ds, m', d, rfl, c1.tabs, c1.sok, k2.grow g1, hw, dvs, e3, hw', fun v H' gm s dv => ?_⟩
  exact q v H' (c1.wr hm hw hw' gm (fun a ha => zSelf_or ha) s) dv
def sCallM (si : Nat) (M : SelfD → List PyData → Option (SelfD × PyData)) (fs : En → Option (List PyData)) : En → Option SR := fun ρ => (callM si M fs ρ).map fun r => .nx r.1
theorem psd_callM {pl : Sem Bool} (hs0 : PE X (.Name sx sp) (tVar si)) (hC : Cls X.K C) (hM : Meth X.K C m fa) (hF : FnOk X.prog X.w X.K X.mg X.base CX0 k fa fd ps (spMM C T M)) (hr : Room k X.A) (hb : Binds X.K fd ps []) (ha : PDs X C T (e :: es) fs)
    (n1 : ¬ m = "many") (n2 : ¬ m = "signs") (n3 : ¬ m = "rows") (n4 : ¬ m = "basis")
    (hst : starEach (e :: es) X.env = (false, eval e X.env) :: starEach es X.env := by rfl) (hpl : (backTo cpos (starEach es X.env)).any (·.1) = false := by rfl)
    (ht : eval (.Call (.Attribute (.Name sx sp) m apos) (e :: es) [] cpos) X.env = (do
      let ov ← eval (.Name sx sp) X.env
      standAt apos.atName
      let (f, first) ← holding [ov] (getMethod ov m pl)
      callWith cpos f first (backTo cpos (starEach (e :: es) X.env)) (backToKw cpos (keywordEach [] X.env))) := by rfl)
    (hsw : swapsWith (.Call (.Attribute (.Name sx sp) m apos) (e :: es) [] cpos) none pos.line X.env = pure false := by rfl) :
    PSD X C T (.Expr (.Call (.Attribute (.Name sx sp) m apos) (e :: es) [] cpos) pos) (sCallM si M fs) := PS.imp (ps_expr (pe_meth hs0 hC hM hF hr hb .nil pass0 ha hst hpl ht) hsw) fun D σ H ⟨B, ρ, r, ⟨S, pm, oa, c⟩, e, q1, q2⟩ => by
  obtain ⟨⟨ρ', d⟩, e1, rfl⟩ := Option.map_eq_some_iff.mp e
  exact tMM_of hC n1 n2 n3 n4 c e1 fun v H' c' dv => q1 _ rfl σ H' ⟨S, pm, oa, c'⟩
theorem psd_callM0 {pl : Sem Bool} (hs0 : PE X (.Name sx sp) (tVar si)) (hC : Cls X.K C) (hM : Meth X.K C m fa) (hF : FnOk X.prog X.w X.K X.mg X.base CX0 k fa fd ps (spMM C T M)) (hr : Room k X.A) (hb : Binds X.K fd ps [])
    (n1 : ¬ m = "many") (n2 : ¬ m = "signs") (n3 : ¬ m = "rows") (n4 : ¬ m = "basis")
    (ht : eval (.Call (.Attribute (.Name sx sp) m apos) [] [] cpos) X.env = (do
      let ov ← eval (.Name sx sp) X.env
      standAt apos.atName
      let (f, first) ← holding [ov] (getMethod ov m pl)
      callWith cpos f first (backTo cpos (starEach [] X.env)) (backToKw cpos (keywordEach [] X.env))) := by rfl)
    (hsw : swapsWith (.Call (.Attribute (.Name sx sp) m apos) [] [] cpos) none pos.line X.env = pure false := by rfl) :
    PSD X C T (.Expr (.Call (.Attribute (.Name sx sp) m apos) [] [] cpos) pos) (sCallM si M sNil) := PS.imp (ps_expr (pe_meth0 hs0 hC hM hF hr hb .nil pass0 ht) hsw) fun D σ H ⟨B, ρ, r, ⟨S, pm, oa, c⟩, e, q1, q2⟩ => by
  obtain ⟨⟨ρ', d⟩, e1, rfl⟩ := Option.map_eq_some_iff.mp e
  have z := tMM_of (X := X) (Q := fun _ H1 => D.nx σ H1) hC n1 n2 n3 n4 c e1 fun v H' c' dv => q1 _ rfl σ H' ⟨S, pm, oa, c'⟩
  obtain ⟨x, h1, p, dx, vv, h2, h3, h4, S', ρ'', ds, E, hds, h6⟩ := z
  cases hds
  exact ⟨x, h1, p, dx, vv, h2, h3, h4, h6 [] H .refl .nil⟩
/-- if not self.m(..) -/
def sIfNotM (si : Nat) (M : SelfD → List PyData → Option (SelfD × PyData)) (fs : En → Option (List PyData)) (F G : En → Option SR) : En → Option SR := fun ρ => (callM si M fs ρ).bind fun r => (asB r.2).bind fun b => if (!b) = true then F r.1 else G r.1
theorem psd_ifNotM {pl : Sem Bool} {np : Pos} {a b : List Stmt} (hs0 : PE X (.Name sx sp) (tVar si)) (hC : Cls X.K C) (hM : Meth X.K C m fa) (hF : FnOk X.prog X.w X.K X.mg X.base CX0 k fa fd ps (spMM C T M)) (hr : Room k X.A) (hb : Binds X.K fd ps []) (ha : PDs X C T (e :: es) fs)
    (n1 : ¬ m = "many") (n2 : ¬ m = "signs") (n3 : ¬ m = "rows") (n4 : ¬ m = "basis") (h1 : PSDs X C T a F) (h2 : PSDs X C T b G)
    (hst : starEach (e :: es) X.env = (false, eval e X.env) :: starEach es X.env := by rfl) (hpl : (backTo cpos (starEach es X.env)).any (·.1) = false := by rfl)
    (ht : eval (.Call (.Attribute (.Name sx sp) m apos) (e :: es) [] cpos) X.env = (do
      let ov ← eval (.Name sx sp) X.env
      standAt apos.atName
      let (f, first) ← holding [ov] (getMethod ov m pl)
      callWith cpos f first (backTo cpos (starEach (e :: es) X.env)) (backToKw cpos (keywordEach [] X.env))) := by rfl)
    (hv : ∀ whole, isTrue (.Call (.Attribute (.Name sx sp) m apos) (e :: es) [] cpos) X.env whole = (do let v ← whole; standAt (Expr.pos (.Call (.Attribute (.Name sx sp) m apos) (e :: es) [] cpos)); holding [v] (truthy v)) := by intro _; rfl) :
    PSD X C T (.If (.UnaryOp .Not (.Call (.Attribute (.Name sx sp) m apos) (e :: es) [] cpos) np) a b pos) (sIfNotM si M fs F G) :=
  PS.imp (ps_if (pt_not (pt_val (pe_meth hs0 hC hM hF hr hb .nil pass0 ha hst hpl ht) hv)) h1 h2) fun D σ H ⟨B, ρ, r, ⟨S, pm, oa, c⟩, e, q1, q2⟩ => by
  obtain ⟨⟨ρ', d⟩, e1, e⟩ := Option.bind_eq_some_iff.mp e
  obtain ⟨bb, e2, e⟩ := Option.bind_eq_some_iff.mp e
  obtain rfl := asB_some e2
  refine tMM_of hC n1 n2 n3 n4 c e1 fun v H' c' dv => ?_
  cases dv
  refine ⟨bb, rfl, ?_⟩
  dsimp only at e
  cases bb with
  | true => exact ⟨B, ρ', r, ⟨S, pm, oa, c'⟩, e, q1, q2⟩
  | false => exact ⟨B, ρ', r, ⟨S, pm, oa, c'⟩, e, q1, q2⟩
end
end DL
end
section
set_option maxHeartbeats 4000000
namespace DL
open PySem PySem.Spec PyProof.Rows L2
open GxR (TabB TabG Tabbed)

/-! ### defs -/
/-- a def of the text, its code object in sight -/
structure FC (K : PySem.W.Frag) (x qual : Str) (st : Stmt) (f : Addr) (fd : FuncData) (cdv : Value) : Prop where
  ex : ∃ (oc : Value) (od : Option Addr) (kV doc pm : Value) (an : Option Addr) (ct : Value) (osl : Array (Option Value)),
    fd = PySem.W.fnOf x qual (defArgs st) (defBody st) (defScope st) .none kV doc pm an cdv ct ∧ K.lookup f = some ⟨oc, od, .func fd, osl⟩ ∧ PySem.W.codeIn K cdv qual = true
  kp : PySem.W.keepIn K (.ref f) = true
theorem fc_mk {K : PySem.W.Frag} {x qual : Str} {st : Stmt} {f : Addr} {oc : Value} {od an : Option Addr} {osl : Array (Option Value)} {kV doc pm cdv ct : Value} (l : K.lookup f = some ⟨oc, od, .func (PySem.W.fnOf x qual (defArgs st) (defBody st) (defScope st) .none kV doc pm an cdv ct), osl⟩)
    (c : PySem.W.codeIn K cdv qual = true) (k : PySem.W.keepIn K (.ref f) = true) : FC K x qual st f (PySem.W.fnOf x qual (defArgs st) (defBody st) (defScope st) .none kV doc pm an cdv ct) cdv := ⟨⟨oc, od, kV, doc, pm, an, ct, osl, rfl, l, c⟩, k⟩
theorem FC.binds {K : PySem.W.Frag} {x qual : Str} {st : Stmt} {f : Addr} {fd : FuncData} {cdv : Value} {ps : List Str} (F : FC K x qual st f fd cdv)
    (h : ∀ (kV doc pm : Value) (an : Option Addr) (cdv ct : Value) (us : List Value), us.length = ps.length → bindArgs (PySem.W.fnOf x qual (defArgs st) (defBody st) (defScope st) .none kV doc pm an cdv ct) ⟨us, []⟩ = pure (ps.zip us)) : Binds K fd ps [] := by
  obtain ⟨oc, od, kV, doc, pm, an, ct, osl, rfl, lk, hcd⟩ := F.ex
  exact .all (h kV doc pm an cdv ct)
/-- the start of a def -/
def startE (n : Nat) (me : Option SelfD) (pre : List (Option PyData)) (ds : List PyData) : En := ⟨pre ++ ds.map some ++ List.replicate (n - (pre.length + ds.length)) none, me, 0, [], true⟩
def resD : SR → Option PyData
  | .nx _ => some .none
  | .rt _ d => some d
def resM : SR → Option (SelfD × PyData)
  | .nx ρ => ρ.me.map (·, .none)
  | .rt ρ d => ρ.me.map (·, d)
/-- np parameters, nN names -/
def runD (np nN : Nat) (F : En → Option SR) (ds : List PyData) : Option PyData := if ds.length = np then (F (startE nN none [] ds)).bind resD else none
def ro (m : SelfD) : SelfD := ⟨m.many, m.signs, m.rows, m.basis, false⟩
def runM (np nN : Nat) (F : En → Option SR) (m : SelfD) (ds : List PyData) : Option PyData := if ds.length + 1 = np then (F (startE nN (some (ro m)) [none] ds)).bind resD else none
def runMM (np nN : Nat) (F : En → Option SR) (m : SelfD) (ds : List PyData) : Option (SelfD × PyData) := if ds.length + 1 = np then (F (startE nN (some m) [none] ds)).bind resM else none
theorem SelfR.sub {C : Addr} {S S0 : Av} {H : Hp} {p ps pr pb : Addr} {m : SelfD} (s : SelfR C S H p ps pr pb m) (k : ∀ a, S0 a = true → S a = true) (h : S0 pr = true ∧ S0 pb = true ∧ S0 p = true) : SelfR C S0 H p ps pr pb m := by
  obtain ⟨⟨vm, dx, o1, o2⟩, o3, ⟨xr, o4, o5⟩, ⟨xb, o6, o7⟩, ⟨o8, o9, o10⟩, o11⟩ := s
  have kk : ∀ {a : Addr}, S a = false → S0 a = false := fun {a} hs => by
    cases z : S0 a with
    | false => rfl
    | true => rw [k a z] at hs; cases hs
  have mk : ∀ {v d}, DV S H v d → DV S0 H v d := fun h => h.mono fun a o hs e n => ⟨kk hs, e⟩
  have mks : ∀ {v d}, DVs S H v d → DVs S0 H v d := fun h => h.mono fun a o hs e n => ⟨kk hs, e⟩
  exact ⟨⟨vm, dx, o1, mk o2⟩, mk o3, ⟨xr, o4, mks o5⟩, ⟨xb, o6, mks o7⟩, h, o11⟩
theorem start_get {S : Av} {H : Hp} {vs : List V} {ds : List PyData} {N : List Str} (dv : DVs S H vs ds) {i : Nat} {d : PyData} (h : ([] ++ ds.map some ++ List.replicate (N.length - (0 + ds.length)) none : List (Option PyData))[i]? = some (some d)) : ∃ v : V, (L2.start N vs)[i]? = some (some v) ∧ DV S H v d := by
  rw [List.nil_append] at h
  by_cases hi : i < ds.length
  · rw [List.getElem?_append_left (by rw [List.length_map]; exact hi), List.getElem?_map] at h
    obtain ⟨d', e1, e2⟩ := Option.map_eq_some_iff.mp h
    cases e2
    obtain ⟨v, k1, k2⟩ := dv.get e1
    refine ⟨v, ?_, k2⟩
    unfold L2.start
    rw [List.getElem?_append_left (by rw [List.length_map, dv.length]; exact hi), List.getElem?_map, k1]
    rfl
  · rw [List.getElem?_append_right (by rw [List.length_map]; omega), List.getElem?_replicate] at h
    split at h <;> cases h
theorem start_len {S : Av} {H : Hp} {vs : List V} {ds : List PyData} {N : List Str} (dv : DVs S H vs ds) : ([] ++ ds.map some ++ List.replicate (N.length - (0 + ds.length)) none : List (Option PyData)).length = (L2.start N vs).length := by
  unfold L2.start
  rw [List.nil_append, List.length_append, List.length_append, List.length_map, List.length_map, List.length_replicate, List.length_replicate, dv.length, Nat.zero_add]
theorem startM_get {S : Av} {H : Hp} {v0 : V} {vs : List V} {ds : List PyData} {N : List Str} (dv : DVs S H vs ds) {i : Nat} {d : PyData} (h : ([none] ++ ds.map some ++ List.replicate (N.length - (1 + ds.length)) none : List (Option PyData))[i]? = some (some d)) : ∃ v : V, (L2.start N (v0 :: vs))[i]? = some (some v) ∧ DV S H v d := by
  cases i with
  | zero => cases h
  | succ i =>
    have h : (ds.map some ++ List.replicate (N.length - (1 + ds.length)) none : List (Option PyData))[i]? = some (some d) := by simpa using h
    unfold L2.start
    show ∃ v, (some v0 :: (vs.map some ++ List.replicate (N.length - (vs.length + 1)) none))[i + 1]? = some (some v) ∧ _
    rw [List.getElem?_cons_succ]
    by_cases hi : i < ds.length
    · rw [List.getElem?_append_left (by rw [List.length_map]; exact hi), List.getElem?_map] at h
      obtain ⟨d', e1, e2⟩ := Option.map_eq_some_iff.mp h
      cases e2
      obtain ⟨v, k1, k2⟩ := dv.get e1
      refine ⟨v, ?_, k2⟩
      rw [List.getElem?_append_left (by rw [List.length_map, dv.length]; exact hi), List.getElem?_map, k1]
      rfl
    · rw [List.getElem?_append_right (by rw [List.length_map]; omega), List.getElem?_replicate] at h
      split at h <;> cases h
theorem startM_len {S : Av} {H : Hp} {v0 : V} {vs : List V} {ds : List PyData} {N : List Str} (dv : DVs S H vs ds) : ([none] ++ ds.map some ++ List.replicate (N.length - (1 + ds.length)) none : List (Option PyData)).length = (L2.start N (v0 :: vs)).length := by
  unfold L2.start
  rw [List.length_append, List.length_append, List.length_append, List.length_map, List.length_map, List.length_replicate, List.length_replicate]
  show 0 + 1 + ds.length + (N.length - (1 + ds.length)) = vs.length + 1 + (N.length - (vs.length + 1))
  rw [dv.length]
  omega
section
variable {P : Program} {w : World} {K : PySem.W.Frag} {mg : Str → Option Value} {base : Heap} {C : Addr} {T : List Addr} {x qual : Str} {st : Stmt} {f : Addr} {fd : FuncData} {cdv : Value} {N ps : List Str} {k : Nat} {F : En → Option SR}
theorem fn_pure (Fc : FC K x qual st f fd cdv) (Sc : FnScope N ps (defScope st))
    (hb : ∀ (A : Around) (outer : List Env) (s : Shared) (H : Hp) (E : XK), Room k (A.deeper (envOfC qual (defScope st) s.heap.objs.size f cdv)) → PSDs (cxOf CX0 P w K mg base N qual (defScope st) f cdv A outer s H E).nox C T (defBody st) F) :
    FnOk P w K mg base CX0 (k + 1) f fd ps (spD T (runD ps.length N.length F)) := by
  obtain ⟨oc, od, kV, doc, pm, an, ct, osl, rfl, lk, hcd⟩ := Fc.ex
  refine fn_of lk hcd Sc (fun vs H Q E h => ?_) fun A outer s H vs Q E hr hsp => ⟨_, (hb A outer s H E hr).nox, ?_⟩
  · obtain ⟨S, ds, d, _, _, dv, e, _⟩ := h
    unfold runD at e
    split at e
    · rw [dv.length]
      assumption
    · cases e
  · obtain ⟨S, ds, d, ht, so, dv, e, q⟩ := hsp
    unfold runD at e
    split at e
    case isFalse => cases e
    obtain ⟨r, e1, e2⟩ := Option.bind_eq_some_iff.mp e
    refine ⟨⟨S, fun _ => false, H, none⟩, _, r, ⟨S, ⟨0, 0, 0, 0⟩, fun _ => 0, ht, so, start_len dv, fun i d h => start_get dv h, fun m h => (by cases h), fun i ds h => (by cases h), fun i j ds es _ h => (by cases h), fun a h => h, fun a h => .inl h, so, GrowM.refl, fun q h => (by cases h)⟩, e1, fun ρ' h σ' H' E' => ?_, fun ρ' d' h v σ' H' E' dv' => ?_⟩
    · subst h
      cases e2
      obtain ⟨S2, pm2, oa2, c2⟩ := E'
      exact q _ H' c2.gr.no .non
    · subst h
      cases e2
      obtain ⟨S2, pm2, oa2, c2⟩ := E'
      exact q v H' c2.gr.no dv'
theorem fn_meth (Fc : FC K x qual st f fd cdv) (Sc : FnScope N ps (defScope st))
    (hb : ∀ (A : Around) (outer : List Env) (s : Shared) (H : Hp) (E : XK), Room k (A.deeper (envOfC qual (defScope st) s.heap.objs.size f cdv)) → PSDs (cxOf CX0 P w K mg base N qual (defScope st) f cdv A outer s H E).nox C T (defBody st) F) :
    FnOk P w K mg base CX0 (k + 1) f fd ps (spM C T (runM ps.length N.length F)) := by
  obtain ⟨oc, od, kV, doc, pm, an, ct, osl, rfl, lk, hcd⟩ := Fc.ex
  refine fn_of lk hcd Sc (fun vs H Q E h => ?_) fun A outer s H vs Q E hr hsp => ⟨_, (hb A outer s H E hr).nox, ?_⟩
  · obtain ⟨S, m, p, qs, pr, pb, vs', ds, d, rfl, _, _, _, dv, e, _⟩ := h
    unfold runM at e
    split at e
    · rw [List.length_cons, dv.length]
      assumption
    · cases e
  · obtain ⟨S, m, p, qs, pr, pb, vs', ds, d, rfl, ht, so, sr, dv, e, q⟩ := hsp
    unfold runM at e
    split at e
    case isFalse => cases e
    obtain ⟨r, e1, e2⟩ := Option.bind_eq_some_iff.mp e
    refine ⟨⟨S, fun _ => false, H, none⟩, _, r, ⟨S, ⟨p, qs, pr, pb⟩, fun _ => 0, ht, so, startM_len dv, fun i d h => startM_get dv h, fun m' h => ?_, fun i ds h => (by cases h), fun i j ds es _ h => (by cases h), fun a h => h, fun a h => .inl h, so, GrowM.refl, fun q h => (by cases h)⟩, e1, fun ρ' h σ' H' E' => ?_, fun ρ' d' h v σ' H' E' dv' => ?_⟩
    · have h : some (ro m) = some m' := h
      cases h
      obtain ⟨o1, o2, o3, o4, o5, o6⟩ := sr
      exact ⟨rfl, ⟨o1, o2, o3, o4, o5, o6⟩, fun z => (by cases z)⟩
    · subst h
      cases e2
      obtain ⟨S2, pm2, oa2, c2⟩ := E'
      exact q _ H' c2.gr.no .non
    · subst h
      cases e2
      obtain ⟨S2, pm2, oa2, c2⟩ := E'
      exact q v H' c2.gr.no dv'
theorem fn_mmeth (Fc : FC K x qual st f fd cdv) (Sc : FnScope N ps (defScope st))
    (hb : ∀ (A : Around) (outer : List Env) (s : Shared) (H : Hp) (E : XK), Room k (A.deeper (envOfC qual (defScope st) s.heap.objs.size f cdv)) → PSDs (cxOf CX0 P w K mg base N qual (defScope st) f cdv A outer s H E).nox C T (defBody st) F) :
    FnOk P w K mg base CX0 (k + 1) f fd ps (spMM C T (runMM ps.length N.length F)) := by
  obtain ⟨oc, od, kV, doc, pm, an, ct, osl, rfl, lk, hcd⟩ := Fc.ex
  refine fn_of lk hcd Sc (fun vs H Q E h => ?_) fun A outer s H vs Q E hr hsp => ⟨_, (hb A outer s H E hr).nox, ?_⟩
  · obtain ⟨S, m, p, qs, pr, pb, vs', ds, m', d, rfl, _, _, _, _, dv, e, _⟩ := h
    unfold runMM at e
    split at e
    · rw [List.length_cons, dv.length]
      assumption
    · cases e
  · obtain ⟨S, m, p, qs, pr, pb, vs', ds, m', d, rfl, ht, so, sr, hw, dv, e, hw', q⟩ := hsp
    unfold runMM at e
    split at e
    case isFalse => cases e
    obtain ⟨r, e1, e2⟩ := Option.bind_eq_some_iff.mp e
    have zS : ∀ a, zSelf pr pb a = true → S a = true := fun a ha => by
      rcases zSelf_or ha with z | z
      · rw [z]; exact sr.av.1
      · rw [z]; exact sr.av.2.1
    have z1 : zSelf pr pb pr = true := by unfold zSelf; simp
    have z2 : zSelf pr pb pb = true := by unfold zSelf; simp
    refine ⟨⟨S, zSelf pr pb, H, some ⟨p, qs, pr, pb⟩⟩, _, r, ⟨S, ⟨p, qs, pr, pb⟩, fun _ => 0, ht, so, startM_len dv, fun i d h => startM_get dv h, fun m2 h => ?_, fun i ds h => (by cases h), fun i j ds es _ h => (by cases h), fun a h => h, fun a h => .inl h, so, GrowM.refl, fun q h => (by cases h; rfl)⟩, e1, fun ρ' h σ' H' E' => ?_, fun ρ' d' h v σ' H' E' dv' => ?_⟩
    · have h : some m = some m2 := h
      cases h
      exact ⟨rfl, sr, fun _ => ⟨.inl z1, .inl z2⟩⟩
    · subst h
      obtain ⟨m2, e3, e4⟩ := Option.map_eq_some_iff.mp e2
      cases e4
      obtain ⟨S2, pm2, oa2, c2⟩ := E'
      have := c2.slf _ rfl
      subst this
      obtain ⟨k1, k2, _⟩ := c2.me _ e3
      exact q _ H' c2.gr (k2.sub c2.sub sr.av) .non
    · subst h
      obtain ⟨m2, e3, e4⟩ := Option.map_eq_some_iff.mp e2
      cases e4
      obtain ⟨S2, pm2, oa2, c2⟩ := E'
      have := c2.slf _ rfl
      subst this
      obtain ⟨k1, k2, _⟩ := c2.me _ e3
      exact q v H' c2.gr (k2.sub c2.sub sr.av) dv'
end
/-! ### parallel stores -/
section
variable {X : Cx} {C : Addr} {T : List Addr} {fs : En → Option (List PyData)} {f g : En → Option PyData} {a b c : Expr} {pos px py pz pt : Pos} {i j l : Nat} {x y z : Str}
def sPar (i j : Nat) (fs : En → Option (List PyData)) : En → Option SR := fun ρ => (fs ρ).bind fun
  | [d, e] => (setE i d ρ).bind fun ρ1 => (setE j e ρ1).map .nx
  | _ => none
theorem psd_par {kt k2 pt2} (hc : X.calm = true) (hN : X.N.Nodup) (hi : X.N[i]? = some x) (hj : X.N[j]? = some y) (hij : i ≠ j)
    (hx : X.env.scope.names.lookup x = some .local) (hy : X.env.scope.names.lookup y = some .local) (ha : PDs X C T [a, b] fs)
    (hw : swappedStores [.Tuple [.Name x px, .Name y py] kt pt] (.Tuple [a, b] k2 pt2) X.env = pure (some [x, y]))
    (hs : swapsWithSole [.Tuple [.Name x px, .Name y py] kt pt] (.Tuple [a, b] k2 pt2) pos.line X.env = pure false := by rfl) :
    PSD X C T (.Assign [.Tuple [.Name x px, .Name y py] kt pt] (.Tuple [a, b] k2 pt2) pos) (sPar i j fs) := PS.imp (ps_par hc hN hi hj hij hx hy ha hw hs) fun D σ H ⟨B, ρ, r, ⟨S, pm, oa, c⟩, e, q1, q2⟩ => by
  obtain ⟨ds, e1, e⟩ := Option.bind_eq_some_iff.mp e
  refine ⟨S, ρ, ds, c.E, e1, fun vs H' gg dvs => ?_⟩
  cases dvs with
  | nil => cases e
  | cons d1 dvs =>
    cases dvs with
    | nil => cases e
    | cons d2 dvs =>
      cases dvs with
      | cons _ _ => cases e
      | nil =>
        obtain ⟨ρ1, e2, e⟩ := Option.bind_eq_some_iff.mp e
        obtain ⟨ρ2, e3, rfl⟩ := Option.map_eq_some_iff.mp e
        exact ⟨_, _, rfl, q1 _ rfl _ H' ⟨S, pm, oa, ((((c.grow gg).set d1 e2).1).set d2 e3).1⟩⟩
/-- the third one a new list -/
def sPar3 (i j l : Nat) (f g : En → Option PyData) : En → Option SR := fun ρ => (f ρ).bind fun d => (g ρ).bind fun e => (setE i d ρ).bind fun ρ1 => (setE j e ρ1).bind fun ρ2 => (ownE l [] ρ2).map .nx
theorem psd_par3 {kt k2 pt2 lp} (hc : X.calm = true) (hN : X.N.Nodup) (hi : X.N[i]? = some x) (hj : X.N[j]? = some y) (hl : X.N[l]? = some z) (hij : i ≠ j) (hil : i ≠ l) (hjl : j ≠ l)
    (hx : X.env.scope.names.lookup x = some .local) (hy : X.env.scope.names.lookup y = some .local) (hz : X.env.scope.names.lookup z = some .local) (ha : PD X C T a f) (hb : PD X C T b g)
    (hw : swappedStores [.Tuple [.Name x px, .Name y py, .Name z pz] kt pt] (.Tuple [a, b, .List [] lp] k2 pt2) X.env = pure (some [x, y, z]))
    (hs1 : starEach (a :: [b, .List [] lp]) X.env = (false, eval a X.env) :: starEach [b, .List [] lp] X.env := by rfl) (hs2 : starEach (b :: [.List [] lp]) X.env = (false, eval b X.env) :: starEach [.List [] lp] X.env := by rfl) (hs3 : starEach (.List [] lp :: []) X.env = (false, eval (.List [] lp) X.env) :: starEach [] X.env := by rfl)
    (hs : swapsWithSole [.Tuple [.Name x px, .Name y py, .Name z pz] kt pt] (.Tuple [a, b, .List [] lp] k2 pt2) pos.line X.env = pure false := by rfl) :
    PSD X C T (.Assign [.Tuple [.Name x px, .Name y py, .Name z pz] kt pt] (.Tuple [a, b, .List [] lp] k2 pt2) pos) (sPar3 i j l f g) :=
  PS.imp (ps_par3 hc hN hi hj hl hij hil hjl hx hy hz (pa_cons ha (pa_cons hb (pa_cons (pe_lst pa_nil) pa_nil hs3) hs2) hs1) hw hs) fun D σ H ⟨B, ρ, r, ⟨S, pm, oa, c⟩, e, q1, q2⟩ => by
  obtain ⟨d, e1, e⟩ := Option.bind_eq_some_iff.mp e
  obtain ⟨d2, e2, e⟩ := Option.bind_eq_some_iff.mp e
  obtain ⟨ρ1, e3, e⟩ := Option.bind_eq_some_iff.mp e
  obtain ⟨ρ2, e4, e⟩ := Option.bind_eq_some_iff.mp e
  obtain ⟨ρ3, e5, rfl⟩ := Option.map_eq_some_iff.mp e
  refine ⟨S, ρ, d, c.E, e1, fun v1 H1 g1 dv1 => ⟨S, ρ, d2, c.E.grow g1, e2, fun v2 H2 g2 dv2 => ?_⟩⟩
  refine ⟨Nat.zero_le _, fun p hp => ?_⟩
  have c2 := ((((c.grow g1).grow g2).set (dv1.grow g2) e3).1.set dv2 e4).1
  exact ⟨_, _, _, rfl, q1 _ rfl _ _ ⟨_, _, _, c2.own (Grow.new hp) hp upd_same .nil e5⟩⟩
/-- an empty list -/
theorem pdf_nil {p : Pos} : PDF X C T (.List [] p) (fun _ => some []) := PE.imp (pe_lst pa_nil) fun σ H Q ⟨S, ρ, ds, E, e, q⟩ => by
  cases e
  exact ⟨Nat.zero_le _, fun p hp => q p [] _ (Grow.new hp) hp upd_same .nil⟩
/-- a list display -/
theorem pdf_lst {es : List Expr} {p : Pos} (h : PDs X C T es fs) : PDF X C T (.List es p) (fun ρ => (fs ρ).bind fun ds => if ds.length ≤ LIM then some ds else none) := PE.imp (pe_lst h) fun σ H Q ⟨S, ρ, ds, E, e, q⟩ => by
  obtain ⟨ds', e1, e2⟩ := Option.bind_eq_some_iff.mp e
  split at e2
  case isFalse => cases e2
  rename_i hl
  cases e2
  refine ⟨S, ρ, ds, E, e1, fun vs H' g dvs => ⟨by rw [dvs.length]; exact lim_le hl, fun p hp => ?_⟩⟩
  refine q p vs _ (g.trans (Grow.new hp)) (g.dom p hp) upd_same ?_
  exact dvs.mono fun b o hs e n => ⟨Av.add_ne hs (ne_of_none e hp), by rw [upd_ne (ne_of_none e hp)]; exact e⟩
end
end DL
end
section
set_option maxHeartbeats 4000000
namespace DL
open PySem PySem.Spec PyProof.Rows L2
open GxR (TabB TabG Tabbed)

/-! ### zip of a tuple and a list -/
def ItzM (K : PySem.W.Frag) (a b : Addr) : It :=
  ⟨fun i H => ∃ (xs ys : List V) (x y : V), SqT K H a xs ∧ SqL K H b ys ∧ xs[i]? = some x ∧ ys[i]? = some y,
    fun i H v H' => ∃ T x y, v = .ref T ∧ H T = none ∧ H' = upd H T (.tup [x, y]) ∧ (∀ xs, SqT K H a xs → xs[i]? = some x) ∧ ∀ ys, SqL K H b ys → ys[i]? = some y,
    fun i H => ∃ xs ys : List V, SqT K H a xs ∧ SqL K H b ys ∧ i ≤ xs.length ∧ i ≤ ys.length ∧ (i = xs.length ∨ i = ys.length)⟩
theorem sep_of {z TI TO i1 i2 a b : Addr} (D : ZipApart z TI TO i1 i2 a b) : ZipSep2 z TI TO i1 i2 [i1, a] [i2, b] where
  TIz := D.TIz
  TOz := D.TOz
  TITO := D.TITO
  TIi1 := D.TIi1
  mem1 := by simp
  zf1 := by
    intro h
    rcases List.mem_cons.mp h with h | h
    · exact D.i1z h.symm
    · exact D.l1z (List.mem_singleton.mp h).symm
  Tf1 := by
    intro h
    rcases List.mem_cons.mp h with h | h
    · exact D.TOi1 h
    · exact D.l1TO (List.mem_singleton.mp h).symm
  TIi2 := D.TIi2
  mem2 := by simp
  zf2 := by
    intro h
    rcases List.mem_cons.mp h with h | h
    · exact D.i2z h.symm
    · exact D.l2z (List.mem_singleton.mp h).symm
  Tf2 := by
    intro h
    rcases List.mem_cons.mp h with h | h
    · exact D.TOi2 h
    · exact D.l2TO (List.mem_singleton.mp h).symm
  sep1_2 := by
    intro h
    rcases List.mem_cons.mp h with h | h
    · exact D.i12 h
    · exact D.l2i1 (List.mem_singleton.mp h).symm
  sep2_1 := by
    intro h
    rcases List.mem_cons.mp h with h | h
    · exact D.i12 h.symm
    · exact D.l1i2 (List.mem_singleton.mp h).symm
theorem turn_zipM {P : Program} {w : World} {K : PySem.W.Frag} {elts : List Expr} {kk : Nat} {tpos : Pos} {a b z TI TO i1 i2 : Addr} (D : ZipApart z TI TO i1 i2 a b) (d2 : b ≠ i2) :
    Turn P w K (.Tuple elts kk tpos) (ItzM K a b) [z, TI, TO, i1, i2] z (fun i h => IsZip h z TI TO .none ∧ IsPair h TI (.ref i1) (.ref i2) ∧ (∃ x y, IsPair h TO x y) ∧ h.IsTupleIter i1 a i ∧ h.IsListIter i2 b i) where
  mem := by simp
  obj := fun i h st c hc => by
    obtain ⟨hz, hTI, ⟨x, y, hTO⟩, ⟨o1, e1, _, d1⟩, ⟨o2, e2, _, d2⟩⟩ := st
    have e' : c = z ∨ c = TI ∨ c = TO ∨ c = i1 ∨ c = i2 := by simpa using hc
    rcases e' with q | q | q | q | q
    · rw [q]; exact ⟨_, hz, fun v q => nomatch q⟩
    · rw [q]; exact ⟨_, hTI, fun v q => nomatch q⟩
    · rw [q]; exact ⟨_, hTO, fun v q => nomatch q⟩
    · rw [q]; exact ⟨o1, e1, fun v q => by rw [d1] at q; cases q⟩
    · rw [q]; exact ⟨o2, e2, fun v q => by rw [d2] at q; cases q⟩
  keep := fun i h h' st k => by
    obtain ⟨hz, hTI, ⟨x, y, hTO⟩, h1, h2⟩ := st
    exact ⟨k z (by simp) _ hz, k TI (by simp) _ hTI, ⟨x, y, k TO (by simp) _ hTO⟩, h1.at fun o q => k i1 (by simp) o q, h2.at fun o q => k i2 (by simp) o q⟩
  item := by
    intro X hP hw hK hc i pins s σ H E I hf st hg
    subst hP hw hK
    obtain ⟨hz, hTI, ⟨x0, y0, hTO⟩, h1, h2⟩ := st
    obtain ⟨xs, ys, x, y, hqx, hqy, hx, hy⟩ := hg
    obtain ⟨its, rv, p, _⟩ := I.tuple hqx
    obtain ⟨its2, rv2, p2, _⟩ := I.list hqy
    have hzl : z < s.heap.objs.size := Heap.lt_size hz
    have hd : X.A.in1.handled = none := I.ok.hd hc
    have l1 : i < its.toArray.size := by rw [List.size_toArray, ← rv.length]; exact (List.getElem?_eq_some_iff.mp hx).1
    have l2 : i < its2.toArray.size := by rw [List.size_toArray, ← rv2.length]; exact (List.getElem?_eq_some_iff.mp hy).1
    refine wpAny_pyNext_zipD2_item (sep_of D) (Draws.tuple hd i1 a D.l1i1 its.toArray) (Draws.list hd i2 b d2 its2.toArray) hz hTI hTO ⟨h1, p⟩ ⟨h2, p2.isList⟩ l1 l2 fun u u2 h' tk hu hu2 z' TO' h1' h2' hT hsz hk => ?_
    obtain ⟨ux, hux, ru⟩ := rv.get hx
    obtain ⟨uy, huy, ru2⟩ := rv2.get hy
    have eu : ux = u := by
      have hu : its.toArray[i]? = some u := hu
      rw [List.getElem?_toArray, hux] at hu
      exact Option.some.inj hu
    have eu2 : uy = u2 := by
      have hu2 : its2.toArray[i]? = some u2 := hu2
      rw [List.getElem?_toArray, huy] at hu2
      exact Option.some.inj hu2
    subst eu eu2
    refine ⟨_, rfl, wpAny_letOwnedTupleGo_zip (s := { s with heap := h', toks := tk }) z' fun h'' z'' sb => ?_⟩
    have hT2 : h''.get? s.heap.objs.size = some { cls := .type "tuple", data := .seq #[ux, uy] } := (sb.2 _ (Nat.ne_of_gt hzl)).trans hT
    have new : ObjOk X.prog X.w (upd H s.heap.objs.size (.tup [x, y])) h'' s.heap.objs.size (.tup [x, y]) :=
      ⟨by show 2 ≤ sizeLine; decide, [ux, uy], .cons ru (.cons ru2 .nil), ⟨_, hT2, rfl, _, rfl⟩⟩
    have I1 : Inv X pins σ (upd H s.heap.objs.size (.tup [x, y])) { s with heap := h'', toks := tk } :=
      I.turnedNew (t' := tk) (ch := [z, TI, TO, i1, i2]) (fun c o hb q => (sb.2 c (fun q' => hb (by simp [q']))).trans (hk c o (fun q' => hb (by simp [q'])) (fun q' => hb (by simp [q'])) (fun q' => hb (by simp [q'])) (fun q' => hb (by simp [q'])) q)) hf (Nat.le_refl _) new
    refine ⟨.ref s.heap.objs.size, _, I1, rfl, ⟨_, x, y, rfl, I.hok.fresh (Nat.le_refl _), rfl, fun l hl => by rw [I.tuple_inj hl hqx]; exact hx, fun l hl => by rw [I.list_inj hl hqy]; exact hy⟩, ⟨z'', ?_, ⟨ux, uy, ?_⟩, ?_, ?_⟩, fun c hcm => ?_⟩
    · exact (sb.2 _ D.TIz).trans (hk _ _ D.TIz D.TITO D.TIi1 D.TIi2 hTI)
    · exact (sb.2 _ D.TOz).trans TO'
    · exact h1'.1.at fun o q => (sb.2 _ D.i1z).trans q
    · exact h2'.1.at fun o q => (sb.2 _ D.i2z).trans q
    · have hlt : c < s.heap.objs.size := by
        have e' : c = z ∨ c = TI ∨ c = TO ∨ c = i1 ∨ c = i2 := by simpa using hcm
        rcases e' with q | q | q | q | q
        · rw [q]; exact hzl
        · rw [q]; exact Heap.lt_size hTI
        · rw [q]; exact Heap.lt_size hTO
        · rw [q]; obtain ⟨_, e1, _⟩ := h1; exact Heap.lt_size e1
        · rw [q]; obtain ⟨_, e2, _⟩ := h2; exact Heap.lt_size e2
      rw [upd_ne (Nat.ne_of_lt hlt)]
      exact (hf c hcm).1
  done := by
    intro X hP hw hK hc i pins s σ H E I hf st hg
    subst hP hw hK
    obtain ⟨hz, hTI, ⟨x0, y0, hTO⟩, h1, h2⟩ := st
    obtain ⟨xs, ys, hqx, hqy, b1, b2, hend⟩ := hg
    obtain ⟨its, rv, p, _⟩ := I.tuple hqx
    obtain ⟨its2, rv2, p2, _⟩ := I.list hqy
    have hd : X.A.in1.handled = none := I.ok.hd hc
    have l1 : its.toArray.size = xs.length := by rw [List.size_toArray, rv.length]
    have l2 : its2.toArray.size = ys.length := by rw [List.size_toArray, rv2.length]
    refine wpAny_pyNext_zipD2_end (sep_of D) (Draws.tuple hd i1 a D.l1i1 its.toArray) (Draws.list hd i2 b d2 its2.toArray) hz hTI hTO ⟨h1, p⟩ ⟨h2, p2.isList⟩ (by rw [l1]; exact b1) (by rw [l2]; exact b2) (by rw [l1, l2]; exact hend) fun h' tk hk => ⟨rfl, I.turnedL (t' := tk) (ch := [z, TI, TO, i1, i2]) (fun c o hb q =>
      hk c o (fun q' => hb (by simp [q'])) (fun q' => hb (by simp [q'])) (fun q' => hb (by simp [q'])) (fun q' => hb (by simp [q'])) q) hf⟩
  self := fun A i s Q E st h => wpAny_pyIter_zip st.1 h
def iZipM (K : PySem.W.Frag) (ta : TA) : TI := fun σ H R => ta σ H fun vs H1 => ∃ a b xs ys, vs = [.ref a, .ref b] ∧ SqT K H1 a xs ∧ SqL K H1 b ys ∧ R (ItzM K a b) H1
theorem pi_zipM {X : Cx} {e e2 : Expr} {ta : TA} {p pos tpos : Pos} {elts : List Expr} {kk : Nat} (hg : Gl X "zip") (hm : X.mg "zip" = none) (ha : PA X [e, e2] ta)
    (hs : starEach [e, e2] X.env = (false, eval e X.env) :: starEach [e2] X.env := by rfl) (hpl : (backTo pos (starEach [e2] X.env)).any (·.1) = false := by rfl) :
    PI X (.Tuple elts kk tpos) (.Call (.Name "zip" p) [e, e2] [] pos) (iZipM X.K ta) := by
  refine ⟨fun pins s σ H R I h => ?_⟩
  refine Call_ (ld_blt I hg hm PyProof.Rows.boot_zip (PyProof.Rows.callWith_type1 (thn (ha.run pos pins s σ H _ I h) fun us s1 ⟨vs, H1, I1, r1, q1⟩ => ?_) hs hpl))
  obtain ⟨a, b, xs, ys, ex, hqx, hqy, q⟩ := q1
  subst ex
  cases r1 with
  | cons r rr =>
    cases rr with
    | cons r' rr =>
      cases rr
      cases r
      cases r'
      have fresh5 : ∀ c, c ∈ [s1.heap.objs.size + 4, s1.heap.objs.size + 2, s1.heap.objs.size + 3, s1.heap.objs.size, s1.heap.objs.size + 1] → FpOk X pins H1 c := fun c hcm => by
        have e' : c = s1.heap.objs.size + 4 ∨ c = s1.heap.objs.size + 2 ∨ c = s1.heap.objs.size + 3 ∨ c = s1.heap.objs.size ∨ c = s1.heap.objs.size + 1 := by simpa using hcm
        have hle : s1.heap.objs.size ≤ c := by
          rcases e' with z | z | z | z | z
          · rw [z]; exact Nat.le_add_right _ _
          · rw [z]; exact Nat.le_add_right _ _
          · rw [z]; exact Nat.le_add_right _ _
          · rw [z]; exact Nat.le_refl _
          · rw [z]; exact Nat.le_add_right _ _
        exact I1.fpOk hle (I1.hok.fresh hle)
      obtain ⟨its, rv, p1, _⟩ := I1.tuple hqx
      obtain ⟨its2, rv2, p2, _⟩ := I1.list hqy
      obtain ⟨o1, ho1, _⟩ := id p1
      refine zip_begins2 (begins_tuple a its.toArray) (begins_list b its2.toArray) p1 p2.isList fun h' hz hTI hTO h1 h2 hsz hk => wpAny_pyIter_zip hz ?_
      have I2 : Inv X pins σ H1 { s1 with heap := h' } := I1.kept (t' := s1.toks) hk
      have hbn : b ≠ s1.heap.objs.size + 1 := Nat.ne_of_lt (Nat.lt_succ_of_lt p2.lt)
      exact ⟨s1.heap.objs.size + 4, [s1.heap.objs.size + 4, s1.heap.objs.size + 2, s1.heap.objs.size + 3, s1.heap.objs.size, s1.heap.objs.size + 1], _, _, H1, rfl, I2, turn_zipM (PySem.W.ktu_apart s1.heap.objs.size a b (Heap.lt_size ho1) p2.lt) hbn, ⟨hz, hTI, ⟨_, _, hTO⟩, ⟨_, h1, rfl, rfl⟩, ⟨_, h2, rfl, rfl⟩⟩, fresh5, q⟩
section
variable {X : Cx} {C : Addr} {T : List Addr} {K : PySem.W.Frag} {S Z : Av} {H : Hp} {a b : Expr} {f g : En → Option PyData} {tg : Expr} {pos : Pos}
theorem itok_zipM {p q : Addr} {xs ys : List V} {ds es : List PyData} (hz' : ∀ a, Z a = true → S a = true) (hp : Z p = false) (hq : Z q = false) (h : H p = some (.tup xs)) (r : DVs S H xs ds) (h2 : H q = some (.lst ys)) (r2 : DVs S H ys es) : ItOk T S Z (ItzM K p q) H (zipL ds es) := by
  refine ⟨fun i H1 g hi => ?_, fun i H1 x H' S' g so k hi y => ?_, fun i H1 g hi => ?_⟩
  · rw [zipL_len] at hi
    have := r.length
    have := r2.length
    exact ⟨xs, ys, xs[i]'(by omega), ys[i]'(by omega), .of (g.keep _ _ hp h nt_tup), .of (g.keep _ _ hq h2 nt_lst), List.getElem?_eq_getElem _, List.getElem?_eq_getElem _⟩
  · obtain ⟨P, y, z, rfl, hn, rfl, hy, hz⟩ := y
    obtain ⟨d, e1, dv⟩ := r.getV (hy xs (.of (g.keep _ _ hp h nt_tup)))
    obtain ⟨d2, e2, dv2⟩ := r2.getV (hz ys (.of (g.keep _ _ hq h2 nt_lst)))
    have dv1 : DV S' H1 y d := dv.mono fun a o hs e n => ⟨k a o hs e, g.keep a o (zf hz' hs) e n⟩
    have dv3 : DV S' H1 z d2 := dv2.mono fun a o hs e n => ⟨k a o hs e, g.keep a o (zf hz' hs) e n⟩
    exact ⟨.new hn, _, zipL_get e1 e2, .newT so hn (.cons dv1 (.cons dv3 .nil))⟩
  · rw [zipL_len] at hi
    have := r.length
    have := r2.length
    exact ⟨xs, ys, .of (g.keep _ _ hp h nt_tup), .of (g.keep _ _ hq h2 nt_lst), by omega, by omega, by omega⟩
def sZipM (f g : En → Option PyData) : En → Option (List PyData) := fun ρ => (f ρ).bind fun x => (g ρ).bind fun y => match x, y with
  | .tuple ds, .list es => some (zipL ds es)
  | _, _ => none
theorem pit_zipM {p tpos : Pos} {elts : List Expr} {kk : Nat} (hg : Gl X "zip") (hm : X.mg "zip" = none) (ha : PD X C T a f) (hb : PD X C T b g)
    (hs : starEach (a :: [b]) X.env = (false, eval a X.env) :: starEach [b] X.env := by rfl) (hs2 : starEach (b :: []) X.env = (false, eval b X.env) :: starEach [] X.env := by rfl) (hpl : (backTo pos (starEach [b] X.env)).any (·.1) = false := by rfl) :
    PIt X C T (.Tuple elts kk tpos) (.Call (.Name "zip" p) [a, b] [] pos) (sZipM f g) := by
  refine PI.imp (pi_zipM hg hm (pds_cons ha (pds_cons hb pds_nil hs2) hs) hs hpl) fun σ H R ⟨S, Z, ρ, ds, E, hZ, e, q⟩ => ?_
  obtain ⟨x, e1, e2⟩ := Option.bind_eq_some_iff.mp e
  obtain ⟨y, e3, e4⟩ := Option.bind_eq_some_iff.mp e2
  cases x <;> try contradiction
  cases y <;> try contradiction
  rename_i us ws
  have e4 : some (zipL us ws) = some ds := e4
  cases e4
  refine ⟨S, ρ, [.tuple us, .list ws], E, by unfold sCons sNil; simp only [e1, e3]; rfl, fun vs H1 g dvs => ?_⟩
  cases dvs with
  | cons dv r =>
    cases r with
    | cons dv2 r =>
      cases r
      cases dv with
      | tup h1 h2 h3 =>
        cases dv2 with
        | lst k1 k2 k3 => exact ⟨_, _, _, _, rfl, .of h2, .of k2, q _ H1 g (itok_zipM hZ.1 (zf hZ.1 h1) (zf hZ.1 k1) h2 h3 k2 k3)⟩
/-! ### range(i, j, -1) -/
def downL (lo : Int) (n : Nat) : List PyData := (List.range n).map fun (k : Nat) => PyData.int (lo + (k : Int) * (-1))
theorem downL_len (lo : Int) (n : Nat) : (downL lo n).length = n := by unfold downL; simp
theorem downL_get {lo : Int} {n i : Nat} (h : i < n) : (downL lo n)[i]? = some (.int (lo + (i : Int) * (-1))) := by
  unfold downL
  rw [List.getElem?_map, List.getElem?_range h]
  rfl
theorem itok_down {lo : Int} {n : Nat} : ItOk T S Z (Itc lo (-1) n) H (downL lo n) := by
  refine ⟨fun i H1 g hi => ?_, fun i H1 x H' S' g so k hi y => ?_, fun i H1 g hi' => ?_⟩
  · rw [downL_len] at hi
    exact hi
  · obtain ⟨rfl, rfl⟩ := y
    rw [downL_len] at hi
    exact ⟨.refl, _, downL_get hi, .int _⟩
  · rw [downL_len] at hi'
    exact Nat.le_of_eq hi'.symm
def sRngD (f g : En → Option PyData) : En → Option (List PyData) := fun ρ => (f ρ).bind fun x => (g ρ).bind fun y => match x, y with
  | .int i, .int j => if i ≤ 1000 ∧ -1000 ≤ i ∧ j ≤ 1000 ∧ -1000 ≤ j then some (downL i (i - j).toNat) else none
  | _, _ => none
theorem pit_rngD {p p1 p2 : Pos} {kk : Nat} (hg : Gl X "range") (hm : X.mg "range" = none) (ha : PD X C T a f) (hb : PD X C T b g)
    (hs : starEach [a, b, .UnaryOp .USub (.Constant (.int 1) kk p1) p2] X.env = (false, eval a X.env) :: starEach [b, .UnaryOp .USub (.Constant (.int 1) kk p1) p2] X.env := by rfl) (hpl : (backTo pos (starEach [b, .UnaryOp .USub (.Constant (.int 1) kk p1) p2] X.env)).any (·.1) = false := by rfl)
    (he2 : starEach (b :: [.UnaryOp .USub (.Constant (.int 1) kk p1) p2]) X.env = (false, eval b X.env) :: starEach [.UnaryOp .USub (.Constant (.int 1) kk p1) p2] X.env := by rfl)
    (he3 : starEach (.UnaryOp .USub (.Constant (.int 1) kk p1) p2 :: []) X.env = (false, eval (.UnaryOp .USub (.Constant (.int 1) kk p1) p2) X.env) :: starEach [] X.env := by rfl) :
    PIt X C T tg (.Call (.Name "range" p) [a, b, .UnaryOp .USub (.Constant (.int 1) kk p1) p2] [] pos) (sRngD f g) := by
  refine PI.imp (pi_range3 hg hm (pds_cons ha (pds_cons hb (pds_cons (pd_neg pd_int) pds_nil he3) he2) hs) hs hpl) fun σ H R ⟨S, Z, ρ, ds, E, hZ, e, q⟩ => ?_
  obtain ⟨x, e1, e2⟩ := Option.bind_eq_some_iff.mp e
  obtain ⟨y, e3, e4⟩ := Option.bind_eq_some_iff.mp e2
  cases x <;> try contradiction
  cases y <;> try contradiction
  rename_i i j
  have e4 : (if i ≤ 1000 ∧ -1000 ≤ i ∧ j ≤ 1000 ∧ -1000 ≤ j then some (downL i (i - j).toNat) else none) = some ds := e4
  split at e4
  · rename_i hn
    cases e4
    refine ⟨S, ρ, [.int i, .int j, .int (-1)], E, by unfold sCons sNil dNeg dC; simp only [e1, e3]; rfl, fun vs H1 g dvs => ?_⟩
    cases dvs with
    | cons dv r =>
      cases r with
      | cons dv2 r =>
        cases r with
        | cons dv3 r =>
          cases r
          cases dv
          cases dv2
          cases dv3
          exact ⟨i, j, -1, _, rfl, RgC.neg (by omega) (by omega) (by omega) (by omega), q _ H1 g itok_down⟩
  · cases e4
end
end DL
end
section
set_option maxHeartbeats 4000000
namespace DL
open PySem PySem.Spec PyProof.Rows L2
open GxR (TabB TabG Tabbed)
open PySem.W (alike alikeAll AlikeAll maxD dataLt)

/-! ### max of pairs of a number and a lot -/
def aPair : PyData → Bool
  | .tuple [.int _, .tuple l] => (asInts l).isSome
  | _ => false
theorem aPair_some {d : PyData} (h : aPair d = true) : ∃ (i : Int) (ns : List Int), d = .tuple [.int i, .tuple (ns.map .int)] := by
  unfold aPair at h
  split at h
  · rename_i i l
    obtain ⟨ns, e⟩ := Option.isSome_iff_exists.mp h
    exact ⟨i, ns, by rw [asInts_some e]⟩
  · cases h
theorem alike_ints : ∀ ns ms : List Int, alikeAll (ns.map PyData.int) (ms.map PyData.int) = true
  | [], _ => by simp [alikeAll]
  | _ :: _, [] => by simp [alikeAll]
  | n :: ns, m :: ms => by
    simp only [List.map_cons, alikeAll, alike, Bool.true_and]
    exact alike_ints ns ms
theorem alike_pair {x y : PyData} (hx : aPair x = true) (hy : aPair y = true) : alike x y = true := by
  obtain ⟨i, ns, rfl⟩ := aPair_some hx
  obtain ⟨j, ms, rfl⟩ := aPair_some hy
  simp [alike, alikeAll, alike_ints]
theorem depth_ints : ∀ ns : List Int, PyData.depthAll (ns.map PyData.int) ≤ 1
  | [] => by simp [PyData.depthAll]
  | n :: ns => by
    have := depth_ints ns
    simp only [List.map_cons, PyData.depthAll, PyData.depth]
    omega
theorem depth_pair {x : PyData} (hx : aPair x = true) : x.depth ≤ 4 := by
  obtain ⟨i, ns, rfl⟩ := aPair_some hx
  have := depth_ints ns
  simp only [PyData.depth, PyData.depthAll]
  omega
theorem depthAll_le {k : Nat} : ∀ {xs : List PyData}, (∀ x ∈ xs, x.depth ≤ k) → PyData.depthAll xs ≤ k
  | [], _ => by simp [PyData.depthAll]
  | x :: xs, h => by
    have h1 := h x List.mem_cons_self
    have h2 := depthAll_le (xs := xs) fun y hy => h y (List.mem_cons_of_mem _ hy)
    simp only [PyData.depthAll]
    omega
def fMaxP : PyData → Option PyData
  | .list (x :: xs) => if (x :: xs).all aPair = true then some (maxD x xs) else none
  | _ => none
theorem maxD_mem (x : PyData) : ∀ xs : List PyData, maxD x xs ∈ x :: xs := by
  intro xs
  unfold maxD
  induction xs generalizing x with
  | nil => exact List.mem_singleton.mpr rfl
  | cons y r ih =>
    rw [List.foldl_cons]
    have := ih (if dataLt x y = true then y else x)
    rcases List.mem_cons.mp this with h | h
    · rw [h]
      split
      · exact List.mem_cons_of_mem _ List.mem_cons_self
      · exact List.mem_cons_self
    · exact List.mem_cons_of_mem _ (List.mem_cons_of_mem _ h)
def rMaxP (K : PySem.W.Frag) : List V → Hp → VK → Prop := fun vs H Q => ∃ (a : Addr) (xs : List V) (d : PyData) (ds : List PyData), vs = [.ref a] ∧ SqL K H a xs ∧ DpAll K H xs (d :: ds) ∧ (d :: ds).all aPair = true ∧ ∀ (i : Nat) (v : V), xs[i]? = some v → (d :: ds)[i]? = some (maxD d ds) → Q v H
theorem DpAll.len {K : PySem.W.Frag} {H : Hp} : ∀ {xs : List V} {ds : List PyData}, DpAll K H xs ds → xs.length = ds.length
  | _, _, .nil => rfl
  | _, _, .cons _ h => by rw [List.length_cons, List.length_cons, DpAll.len h]
theorem reads_at {h : Heap} : ∀ {us : List Value} {ds : List PyData} {as : List Addr}, PySem.ReadsAll h us ds as → ∀ {i : Nat} {v : Value}, us[i]? = some v → ∃ d bs, ds[i]? = some d ∧ PySem.Reads h v d bs
  | _, _, _, .nil, _, _, hv => by simp at hv
  | _, _, _, .cons r rs, 0, v, hv => by
    have e := Option.some.inj (show some _ = some v from hv)
    subst e
    exact ⟨_, _, rfl, r⟩
  | _, _, _, .cons r rs, i + 1, v, hv => by
    obtain ⟨d, bs, h1, h2⟩ := reads_at rs (i := i) (v := v) (by simpa using hv)
    exact ⟨d, bs, by simpa using h1, h2⟩
theorem Vals.getU : ∀ {xs : List V} {us : List Value} {i : Nat} {u : Value}, Vals xs us → us[i]? = some u → ∃ x, xs[i]? = some x ∧ RelV x u
  | _, _, _, _, .nil, h => by simp at h
  | _, _, 0, _, .cons r _, h => by
    have h := Option.some.inj h
    subst h
    exact ⟨_, rfl, r⟩
  | _, _, i + 1, u, .cons _ t, h => by
    obtain ⟨x, h1, h2⟩ := Vals.getU t (i := i) (u := u) (by simpa using h)
    exact ⟨x, by simpa using h1, h2⟩
theorem cr_maxP {X : Cx} (hc : X.calm = true) (hu : X.A.units + 65 < cLine) : CallR X (.builtin "max") (rMaxP X.K) := by
  intro pins s σ H vs us Q I r h
  obtain ⟨a, xs, d, ds, rfl, hs, hd, hp, q⟩ := h
  obtain ⟨its, rv, hl, _⟩ := I.list hs
  obtain ⟨as, hr⟩ := Dp.readsAll I (d :: ds) xs its hd rv
  have hp' : ∀ x ∈ d :: ds, aPair x = true := List.all_eq_true.mp hp
  have ha : AlikeAll (d :: ds) := ⟨fun x hx y hy => alike_pair (hp' x hx) (hp' y hy), fun x hx z => by
    have := hp' x hx
    rw [z] at this
    cases this⟩
  rw [Vals.ref1 r]
  refine PySem.W.max_list_data (I.ok.hd hc) hl.isList hr ha ?_ fun i v h' tk bs hv hm hk => ?_
  · have := depthAll_le (k := 4) (xs := d :: ds) fun x hx => depth_pair (hp' x hx)
    omega
  · have hv' : its[i]? = some v := by simpa using hv
    obtain ⟨x, hx, rx⟩ := Vals.getU rv hv'
    obtain ⟨e, cs, he, hre⟩ := reads_at hr hv'
    have hmem := maxD_mem d ds
    have hem : e ∈ d :: ds := List.mem_of_getElem? he
    have := PySem.W.alike_unique e (maxD d ds) v cs bs (ha.1 _ hem _ hmem) (Reads.keeps hk hre) hm
    exact ⟨x, H, I.kept hk, rx, q i x hx (by rw [he, this])⟩
section
variable {X : Cx} {C : Addr} {T : List Addr} {a b : Expr} {f g : En → Option PyData} {pos : Pos}
theorem fnd_maxP {K : PySem.W.Frag} : FnD T (rMaxP K) fMaxP := by
  intro S H x d e Q so dx he q
  cases dx <;> try (cases he; done)
  rename_i h1 h2 h3
  rename_i p xs ds
  cases ds with
  | nil => cases he
  | cons d0 ds0 =>
    have he : (if (d0 :: ds0).all aPair = true then some (maxD d0 ds0) else none) = some e := he
    split at he
    case isFalse => cases he
    rename_i hp
    cases he
    refine ⟨_, xs, d0, ds0, rfl, .of h2, h3.dp, hp, fun i v hv hm => ?_⟩
    obtain ⟨e, e1, dv⟩ := h3.getV hv
    rw [hm] at e1
    cases e1
    exact q _ H .refl dv
theorem pd_maxP {k : Nat} {p : Pos} (hr : Room k X.A) (hc : X.calm = true) (hg : Gl X "max") (hm : X.mg "max" = none) (ha : PD X C T a f) (hb : bootBuiltins "max" = some (.builtin "max") := by decide +kernel) (he : starEach (a :: []) X.env = (false, eval a X.env) :: starEach [] X.env := by rfl) : PD X C T (.Call (.Name "max" p) [a] [] pos) (dFun fMaxP f) :=
  PE.imp (pe_callB (cr_maxP hc (units65 hr)) hg hm hb (pds_cons ha pds_nil he) (he := he)) fun σ H Q q => tCB_of fnd_maxP q
/-! ### l.index(x) -/
def findJ (d : PyData) : Nat → List PyData → Option Nat
  | _, [] => none
  | j, z :: zs => if PyData.eqv z d = true then some j else findJ d (j + 1) zs
theorem findJ_some {d : PyData} : ∀ {zs : List PyData} {k j : Nat}, findJ d k zs = some j → ∃ i z, j = k + i ∧ zs[i]? = some z ∧ PyData.eqv z d = true ∧ ∀ (m : Nat) (z' : PyData), m < i → zs[m]? = some z' → PyData.eqv z' d = false
  | [], k, j, h => by cases h
  | z :: zs, k, j, h => by
    unfold findJ at h
    by_cases hz : PyData.eqv z d = true
    · rw [if_pos hz] at h
      cases h
      exact ⟨0, z, rfl, rfl, hz, fun m _ hm => by omega⟩
    · rw [if_neg hz] at h
      obtain ⟨i, y, h1, h2, h3, h4⟩ := findJ_some h
      refine ⟨i + 1, y, by omega, by simpa using h2, h3, fun m z' hm hz' => ?_⟩
      cases m with
      | zero =>
        have e := Option.some.inj hz'
        rw [← e]
        exact Bool.eq_false_iff.mpr hz
      | succ m => exact h4 m z' (by omega) (by simpa using hz')
def dIdx : PyData → PyData → Option PyData
  | .list ds, d => if SeqAt.shaped (.list ds) && SeqAt.shaped d then (findJ d 0 ds).map fun j => .int (j : Nat) else none
  | _, _ => none
theorem pd_index {k : Nat} {apos cpos sp : Pos} {x : Str} (hr : Room k X.A) (ha : PD X C T (.Name x sp) f) (hb : PD X C T b g) (hbase : attributeBase (.Name x sp) "index" X.env (eval (.Name x sp) X.env) = eval (.Name x sp) X.env := by rfl)
    (hfew : ((backTo cpos (starEach (b :: []) X.env)).all (fun x => !x.1) && (backToKw cpos (keywordEach [] X.env)).all (fun x => x.1.isSome)
      && decide ((b :: []).length + ([] : List Keyword).length + (if ([] : List Keyword).isEmpty then 0 else 1) < 30)) = true := by rfl)
    (hline : (apos.endLine == cpos.line) = true := by rfl) (hs : starEach (b :: []) X.env = (false, eval b X.env) :: starEach [] X.env := by rfl) :
    PD X C T (.Call (.Attribute (.Name x sp) "index" apos) [b] [] cpos) (bin2 dIdx f g) := by
  refine PE.imp (pe_bm PySem.F.plainAttrs_list PySem.F.slot_list_index PySem.F.type_list_index (mt_indexD (units65 hr)) ha (pa_cons hb pa_nil hs) hbase hfew hline hs) fun σ H Q ⟨S, ρ, d, E, e, q⟩ => ?_
  obtain ⟨a, b, e1, e2, e3⟩ := bin2_some e
  cases a <;> try contradiction
  rename_i ds
  have e3 : (if SeqAt.shaped (.list ds) && SeqAt.shaped b then (findJ b 0 ds).map fun j => PyData.int (j : Nat) else none) = some d := e3
  split at e3
  case isFalse => cases e3
  rename_i hsh
  rw [Bool.and_eq_true] at hsh
  obtain ⟨j, e4, rfl⟩ := Option.map_eq_some_iff.mp e3
  obtain ⟨i, z, h1, h2, h3, h4⟩ := findJ_some e4
  refine ⟨S, ρ, _, E, e1, fun v H1 g1 dv => ?_⟩
  cases dv with
  | lst k1 k2 k3 =>
    refine ⟨.inl ⟨rfl, _, SqL.of k2⟩, S, ρ, b, E.grow g1, e2, fun w H2 g2 dw => ?_⟩
    have dl : DV S H2 _ (.list ds) := (DV.lst k1 k2 k3).grow g2
    refine ⟨_, w, b, ds, i, z, rfl, rfl, dl.dp, dw.dp, hsh.1, hsh.2, h2, h3, h4, ?_⟩
    rw [h1, Nat.zero_add] at q
    exact q _ H2 (g1.trans g2) (.int _)
end

/-! ### defs that are called by their names -/
structure DefC (K : PySem.W.Frag) (mg : Str → Option Value) (x : Str) (st : Stmt) (f : Addr) (fd : FuncData) (cdv : Value) (ps : List Str) : Prop where
  fn : FC K x x st f fd cdv
  mgf : mg x = some (.ref f)
  b : Binds K fd ps []
structure CalD (P : Program) (w : World) (K : PySem.W.Frag) (mg : Str → Option Value) (base : Heap) (T : List Addr) (k : Nat) (x : Str) (F : List PyData → Option PyData) : Prop where
  ex : ∃ (f : Addr) (fd : FuncData) (ps : List Str), FnOk P w K mg base CX0 k f fd ps (spD T F) ∧ mg x = some (.ref f) ∧ PySem.W.keepIn K (.ref f) = true ∧ Binds K fd ps []
section
variable {P : Program} {w : World} {K : PySem.W.Frag} {mg : Str → Option Value} {base : Heap} {C : Addr} {T : List Addr} {x qual : Str} {st : Stmt} {f : Addr} {fd : FuncData} {cdv : Value} {N ps : List Str} {k : Nat} {F : En → Option SR}
theorem cal_mk {np nN : Nat} {G : List PyData → Option PyData} (hG : G = runD np nN F) (D : DefC K mg x st f fd cdv ps) (Sc : FnScope N ps (defScope st)) (h1 : ps.length = np) (h2 : N.length = nN)
    (hb : ∀ (A : Around) (outer : List Env) (s : Shared) (H : Hp) (E : XK), Room k (A.deeper (envOfC x (defScope st) s.heap.objs.size f cdv)) → PSDs (cxOf CX0 P w K mg base N x (defScope st) f cdv A outer s H E).nox C T (defBody st) F) :
    CalD P w K mg base T (k + 1) x G := by
  subst h1 h2 hG
  exact ⟨f, fd, ps, fn_pure D.fn Sc hb, D.mgf, D.fn.kp, D.b⟩
end
section
variable {X : Cx} {C : Addr} {T : List Addr} {k j : Nat} {F : List PyData → Option PyData} {fs : En → Option (List PyData)} {x : Str} {e : Expr} {es : List Expr} {pos : Pos}
theorem pd_c {p : Pos} (c : CalD X.prog X.w X.K X.mg X.base T k x F) (hr : Room j X.A) (hg : Gl X x) (ha : PDs X C T (e :: es) fs) (hk : k ≤ j := by decide) (hdb : (x == ("__debug__" : Str)) = false := by decide) (he : starEach (e :: es) X.env = (false, eval e X.env) :: starEach es X.env := by rfl) (hpl : (backTo pos (starEach es X.env)).any (·.1) = false := by rfl) :
    PD X C T (.Call (.Name x p) (e :: es) [] pos) (dCall F fs) := by
  obtain ⟨fa, fd, ps, h1, h2, h3, h4⟩ := c.ex
  exact pd_call h1 (hr.mono hk) hg h2 h3 h4 ha hdb he hpl
end
/-- the built-ins that the program uses -/
structure Blt (mg : Str → Option Value) : Prop where
  len : mg "len" = none
  range : mg "range" = none
  isinstance : mg "isinstance" = none
  int : mg "int" = none
  bool : mg "bool" = none
  str : mg "str" = none
  tuple : mg "tuple" = none
  list : mg "list" = none
  all : mg "all" = none
  any : mg "any" = none
  sum : mg "sum" = none
  max : mg "max" = none
  min : mg "min" = none
  enumerate : mg "enumerate" = none
  zip : mg "zip" = none
  abs : mg "abs" = none
  gcd : mg "gcd" = some (.builtin "math.gcd")
  people : ∃ t, mg "MOST_PEOPLE" = some (.int 6 t)
  gain : ∃ t, mg "MOST_GAIN" = some (.int 1000 t)
end DL
end
section
set_option maxHeartbeats 4000000
namespace DL
open PySem PySem.Spec PyProof.Rows L2
open GxR (TabB TabG Tabbed)
section
variable {X : Cx} {C : Addr} {T : List Addr} {fs : En → Option (List PyData)} {es : List Expr} {pos px py pz pt pt2 : Pos} {i j l kt k2 : Nat} {x y z : Str}
def sAsg3 (i j l : Nat) (fs : En → Option (List PyData)) : En → Option SR := fun ρ => (fs ρ).bind fun
  | [d, e, f] => (setE i d ρ).bind fun ρ1 => (setE j e ρ1).bind fun ρ2 => (setE l f ρ2).map .nx
  | _ => none
theorem psd_asg3 (hc : X.calm = true) (hN : X.N.Nodup) (hi : X.N[i]? = some x) (hj : X.N[j]? = some y) (hl : X.N[l]? = some z) (hx : Loc X.env.scope x) (hy : Loc X.env.scope y) (hz : Loc X.env.scope z) (ha : PDs X C T es fs)
    (hfx : X.fn x = true ∨ X.env.scope.names.lookup x = some .local := by first | exact .inl rfl | exact .inr rfl | assumption) (hfy : X.fn y = true ∨ X.env.scope.names.lookup y = some .local := by first | exact .inl rfl | exact .inr rfl | assumption) (hfz : X.fn z = true ∨ X.env.scope.names.lookup z = some .local := by first | exact .inl rfl | exact .inr rfl | assumption)
    (hs : swapsWithSole [.Tuple [.Name x px, .Name y py, .Name z pz] kt pt] (.Tuple es k2 pt2) pos.line X.env = pure false := by rfl) (hw : swappedStores [.Tuple [.Name x px, .Name y py, .Name z pz] kt pt] (.Tuple es k2 pt2) X.env = pure none := by rfl)
    (h1 : (assignEach [.Tuple [.Name x px, .Name y py, .Name z pz] kt pt] X.env).map (·.2) = [assign (.Tuple [.Name x px, .Name y py, .Name z pz] kt pt) X.env] := by rfl) :
    PSD X C T (.Assign [.Tuple [.Name x px, .Name y py, .Name z pz] kt pt] (.Tuple es k2 pt2) pos) (sAsg3 i j l fs) :=
  PS.imp (ps_asg (pe_tup ha) (pg_tup hc (pgs_cons (pg_name hN hi hx hfx) (pgs_cons (pg_name hN hj hy hfy) (pgs_cons (pg_name hN hl hz hfz) pgs_nil)))) hs hw h1) fun D σ H ⟨B, ρ, r, ⟨S, pm, oa, c⟩, e, q1, q2⟩ => by
  obtain ⟨ds, e1, e⟩ := Option.bind_eq_some_iff.mp e
  refine ⟨S, ρ, ds, c.E, e1, fun vs H' gg dvs => ?_⟩
  cases dvs with
  | nil => cases e
  | @cons w1 _ _ _ d1 dvs =>
    cases dvs with
    | nil => cases e
    | @cons w2 _ _ _ d2 dvs =>
      cases dvs with
      | nil => cases e
      | @cons w3 _ _ _ d3 dvs =>
        cases dvs with
        | cons _ _ => cases e
        | nil =>
          obtain ⟨ρ1, e2, e⟩ := Option.bind_eq_some_iff.mp e
          obtain ⟨ρ2, e3, e⟩ := Option.bind_eq_some_iff.mp e
          obtain ⟨ρ3, e4, rfl⟩ := Option.map_eq_some_iff.mp e
          refine ⟨by show 3 ≤ sizeLine; decide, fun p hp => ?_⟩
          have g2 : Grow T H' (upd H' p (.tup [w1, w2, w3])) := Grow.new hp
          have c2 := (((((c.grow gg).grow g2).set (d1.grow g2) e2).1).set (d2.grow g2) e3).1.set (d3.grow g2) e4
          exact ⟨p, _, rfl, .of upd_same, rfl, _, _, rfl, _, _, rfl, _, _, rfl, rfl, q1 _ rfl _ _ ⟨S, pm, oa, c2.1⟩⟩
end
end DL
end
section
set_option maxHeartbeats 4000000
namespace DL
open PySem PySem.Spec PyProof.Rows L2
/-! ### what the denotations compute -/
section
variable {tg : Tgt} {tt : En → Option Bool} {el : En → Option PyData} {ρ : En}
theorem compL_fm (p : PyData → Bool) (g : PyData → PyData) : ∀ {ds : List PyData}, (∀ d ∈ ds, ∃ ρ1, setT tg d ρ = some ρ1 ∧ tt ρ1 = some (p d) ∧ (p d = true → el ρ1 = some (g d))) → compL tg tt el ρ ds = some ((ds.filter p).map g)
  | [], _ => rfl
  | d :: ds, h => by
    obtain ⟨ρ1, h1, h2, h3⟩ := h d List.mem_cons_self
    have ih := compL_fm p g (ds := ds) fun x hx => h x (List.mem_cons_of_mem _ hx)
    show ((setT tg d ρ).bind fun ρ1 => (tt ρ1).bind fun c => if c = true then (el ρ1).bind fun y => (compL tg tt el ρ ds).map (y :: ·) else compL tg tt el ρ ds) = _
    rw [h1, Option.bind_some, h2, Option.bind_some, ih, List.filter_cons]
    cases hp : p d with
    | true => rw [if_pos rfl, if_pos rfl, h3 hp, Option.bind_some]; rfl
    | false => rw [if_neg Bool.false_ne_true, if_neg Bool.false_ne_true]
theorem compL_map (g : PyData → PyData) {ds : List PyData} (h : ∀ d ∈ ds, ∃ ρ1, setT tg d ρ = some ρ1 ∧ tt ρ1 = some true ∧ el ρ1 = some (g d)) : compL tg tt el ρ ds = some (ds.map g) := by
  rw [compL_fm (fun _ => true) g fun d hd => let ⟨ρ1, h1, h2, h3⟩ := h d hd; ⟨ρ1, h1, h2, fun _ => h3⟩, List.filter_eq_self.mpr fun _ _ => rfl]
theorem allL_eq {ix : Nat} (p : PyData → Bool) : ∀ {ds : List PyData}, (∀ d ∈ ds, ∃ ρ1, setE ix d ρ = some ρ1 ∧ el ρ1 = some (.bool (p d))) → allL ix el ρ ds = some (ds.all p)
  | [], _ => rfl
  | d :: ds, h => by
    obtain ⟨ρ1, h1, h2⟩ := h d List.mem_cons_self
    have ih := allL_eq p (ds := ds) fun x hx => h x (List.mem_cons_of_mem _ hx)
    show ((setE ix d ρ).bind fun ρ1 => ((el ρ1).bind asB).bind fun b => if b = true then allL ix el ρ ds else some false) = _
    rw [h1, Option.bind_some, h2]
    show (if p d = true then allL ix el ρ ds else some false) = some (p d && ds.all p)
    cases p d with
    | true => rw [if_pos rfl, ih]; rfl
    | false => rfl
theorem anyL_eq {ix : Nat} (p : PyData → Bool) : ∀ {ds : List PyData}, (∀ d ∈ ds, ∃ ρ1, setE ix d ρ = some ρ1 ∧ el ρ1 = some (.bool (p d))) → anyL ix el ρ ds = some (ds.any p)
  | [], _ => rfl
  | d :: ds, h => by
    obtain ⟨ρ1, h1, h2⟩ := h d List.mem_cons_self
    have ih := anyL_eq p (ds := ds) fun x hx => h x (List.mem_cons_of_mem _ hx)
    show ((setE ix d ρ).bind fun ρ1 => ((el ρ1).bind asB).bind fun b => if b = true then some true else anyL ix el ρ ds) = _
    rw [h1, Option.bind_some, h2]
    show (if p d = true then some true else anyL ix el ρ ds) = some (p d || ds.any p)
    cases p d with
    | true => rfl
    | false => rw [if_neg Bool.false_ne_true, ih]; rfl
theorem sumL_eq {ix : Nat} (g : PyData → Int) : ∀ {ds : List PyData}, (∀ d ∈ ds, ∃ ρ1, setE ix d ρ = some ρ1 ∧ el ρ1 = some (.int (g d)) ∧ g d ≤ 1000000 ∧ -1000000 ≤ g d) → sumL ix el ρ ds = some (ds.map g)
  | [], _ => rfl
  | d :: ds, h => by
    obtain ⟨ρ1, h1, h2, h3⟩ := h d List.mem_cons_self
    have ih := sumL_eq g (ds := ds) fun x hx => h x (List.mem_cons_of_mem _ hx)
    show ((setE ix d ρ).bind fun ρ1 => ((el ρ1).bind asInt).bind fun n => if n ≤ 1000000 ∧ -1000000 ≤ n then (sumL ix el ρ ds).map (n :: ·) else none) = _
    rw [h1, Option.bind_some, h2]
    show (if g d ≤ 1000000 ∧ -1000000 ≤ g d then (sumL ix el ρ ds).map (g d :: ·) else none) = _
    rw [if_pos h3, ih]
    rfl
/-- a loop that always goes on: the state by the turn -/
theorem forL_inv {body : En → Option SR} (I : Nat → En → Prop) : ∀ {ds : List PyData} {k : Nat} {ρ : En}, I k ρ →
    (∀ (i : Nat) (d : PyData) (ρ : En), ds[i]? = some d → I (k + i) ρ → ∃ ρ1 ρ2, setT tg d ρ = some ρ1 ∧ body ρ1 = some (.nx ρ2) ∧ I (k + i + 1) ρ2) → ∃ ρ', forL tg body ds ρ = some (.nx ρ') ∧ I (k + ds.length) ρ'
  | [], k, ρ, h0, _ => ⟨ρ, rfl, h0⟩
  | d :: ds, k, ρ, h0, h => by
    obtain ⟨ρ1, ρ2, h1, h2, h3⟩ := h 0 d ρ rfl h0
    obtain ⟨ρ', h4, h5⟩ := forL_inv I (ds := ds) (k := k + 1) (ρ := ρ2) h3 fun i x ρ hx hi => by
      have := h (i + 1) x ρ (by simpa using hx) (by rw [← Nat.add_assoc, Nat.add_right_comm]; exact hi)
      rw [← Nat.add_assoc, Nat.add_right_comm k i 1] at this
      exact this
    refine ⟨ρ', ?_, by rw [List.length_cons, Nat.add_comm ds.length 1, ← Nat.add_assoc]; exact h5⟩
    show ((setT tg d ρ).bind fun ρ1 => (body ρ1).bind fun r => thenE r (forL tg body ds)) = _
    rw [h1, Option.bind_some, h2, Option.bind_some]
    exact h4
end
theorem mem_rangeL {lo : Int} {n : Nat} {d : PyData} : d ∈ rangeL lo n ↔ ∃ k : Nat, k < n ∧ d = .int (lo + k) := by
  unfold rangeL
  rw [List.mem_map]
  constructor
  · rintro ⟨k, h1, rfl⟩
    exact ⟨k, List.mem_range.mp h1, rfl⟩
  · rintro ⟨k, h1, rfl⟩
    exact ⟨k, List.mem_range.mpr h1, rfl⟩
end DL
end
section
set_option maxHeartbeats 4000000
namespace CD
open PySem PySem.Spec PyProof.Rows L2 DL
def top (i : Nat) : Stmt := PySem.Challenge.pw_chiefdeeds_k19_whole_parties.main.body.getD i (.Pass ⟨0, 0, 0, 0⟩)
structure ClsT (K : PySem.W.Frag) (C : Addr) : Prop where
  c : Cls K C
  many : NoAttr K C "many"
  signs : NoAttr K C "signs"
  rows : NoAttr K C "rows"
  basis : NoAttr K C "basis"
def fL (fs : En → Option (List PyData)) : En → Option (List PyData) := fun ρ => (fs ρ).bind fun ds => if ds.length ≤ LIM then some ds else none
/-! ### methods by their names -/
structure MethC (K : PySem.W.Frag) (C : Addr) (m qual : Str) (st : Stmt) (f : Addr) (fd : FuncData) (cdv : Value) (ps : List Str) : Prop where
  fn : FC K m qual st f fd cdv
  me : Meth K C m f
  b : Binds K fd ps []
structure MetD (P : Program) (w : World) (K : PySem.W.Frag) (mg : Str → Option Value) (base : Heap) (C : Addr) (T : List Addr) (k : Nat) (m : Str) (G : SelfD → List PyData → Option PyData) : Prop where
  ex : ∃ (f : Addr) (fd : FuncData) (ps : List Str), FnOk P w K mg base CX0 k f fd ps (spM C T G) ∧ Meth K C m f ∧ Binds K fd ps []
structure MetMM (P : Program) (w : World) (K : PySem.W.Frag) (mg : Str → Option Value) (base : Heap) (C : Addr) (T : List Addr) (k : Nat) (m : Str) (G : SelfD → List PyData → Option (SelfD × PyData)) : Prop where
  ex : ∃ (f : Addr) (fd : FuncData) (ps : List Str), FnOk P w K mg base CX0 k f fd ps (spMM C T G) ∧ Meth K C m f ∧ Binds K fd ps []
section
variable {P : Program} {w : World} {K : PySem.W.Frag} {mg : Str → Option Value} {base : Heap} {C : Addr} {T : List Addr} {m qual : Str} {st : Stmt} {f : Addr} {fd : FuncData} {cdv : Value} {N ps : List Str} {k : Nat} {F : En → Option SR}
theorem met_mk {np nN : Nat} {G : SelfD → List PyData → Option PyData} (hG : G = runM np nN F) (D : MethC K C m qual st f fd cdv ps) (Sc : FnScope N ps (defScope st)) (h1 : ps.length = np) (h2 : N.length = nN)
    (hb : ∀ (A : Around) (outer : List Env) (s : Shared) (H : Hp) (E : XK), Room k (A.deeper (envOfC qual (defScope st) s.heap.objs.size f cdv)) → PSDs (cxOf CX0 P w K mg base N qual (defScope st) f cdv A outer s H E).nox C T (defBody st) F) :
    MetD P w K mg base C T (k + 1) m G := by
  subst h1 h2 hG
  exact ⟨f, fd, ps, fn_meth D.fn Sc hb, D.me, D.b⟩
theorem metmm_mk {np nN : Nat} {G : SelfD → List PyData → Option (SelfD × PyData)} (hG : G = runMM np nN F) (D : MethC K C m qual st f fd cdv ps) (Sc : FnScope N ps (defScope st)) (h1 : ps.length = np) (h2 : N.length = nN)
    (hb : ∀ (A : Around) (outer : List Env) (s : Shared) (H : Hp) (E : XK), Room k (A.deeper (envOfC qual (defScope st) s.heap.objs.size f cdv)) → PSDs (cxOf CX0 P w K mg base N qual (defScope st) f cdv A outer s H E).nox C T (defBody st) F) :
    MetMM P w K mg base C T (k + 1) m G := by
  subst h1 h2 hG
  exact ⟨f, fd, ps, fn_mmeth D.fn Sc hb, D.me, D.b⟩
end
section
variable {X : Cx} {C : Addr} {T : List Addr} {G : SelfD → List PyData → Option PyData} {M : SelfD → List PyData → Option (SelfD × PyData)} {fs : En → Option (List PyData)} {F1 F2 : En → Option SR} {e : Expr} {es : List Expr} {pos apos cpos sp : Pos} {si k j : Nat} {m sx : Str}
theorem pd_m {pl : Sem Bool} (c : MetD X.prog X.w X.K X.mg X.base C T k m G) (hs0 : PE X (.Name sx sp) (tVar si)) (cl : ClsT X.K C) (hr : Room j X.A) (ha : PDs X C T (e :: es) fs) (hk : k ≤ j := by decide)
    (n1 : ¬ m = "many" := by decide +kernel) (n2 : ¬ m = "signs" := by decide +kernel) (n3 : ¬ m = "rows" := by decide +kernel) (n4 : ¬ m = "basis" := by decide +kernel)
    (hst : starEach (e :: es) X.env = (false, eval e X.env) :: starEach es X.env := by rfl) (hpl : (backTo pos (starEach es X.env)).any (·.1) = false := by rfl)
    (ht : eval (.Call (.Attribute (.Name sx sp) m apos) (e :: es) [] pos) X.env = (do
      let ov ← eval (.Name sx sp) X.env
      standAt apos.atName
      let (f, first) ← holding [ov] (getMethod ov m pl)
      callWith pos f first (backTo pos (starEach (e :: es) X.env)) (backToKw pos (keywordEach [] X.env))) := by rfl) :
    PD X C T (.Call (.Attribute (.Name sx sp) m apos) (e :: es) [] pos) (dMeth si G fs) := by
  obtain ⟨fa, fd, ps, h1, h2, h3⟩ := c.ex
  exact pd_meth hs0 cl.c h2 h1 (hr.mono hk) h3 ha n1 n2 n3 n4 hst hpl ht
theorem pd_m0 {pl : Sem Bool} (c : MetD X.prog X.w X.K X.mg X.base C T k m G) (hs0 : PE X (.Name sx sp) (tVar si)) (cl : ClsT X.K C) (hr : Room j X.A) (hk : k ≤ j := by decide)
    (n1 : ¬ m = "many" := by decide +kernel) (n2 : ¬ m = "signs" := by decide +kernel) (n3 : ¬ m = "rows" := by decide +kernel) (n4 : ¬ m = "basis" := by decide +kernel)
    (ht : eval (.Call (.Attribute (.Name sx sp) m apos) [] [] pos) X.env = (do
      let ov ← eval (.Name sx sp) X.env
      standAt apos.atName
      let (f, first) ← holding [ov] (getMethod ov m pl)
      callWith pos f first (backTo pos (starEach [] X.env)) (backToKw pos (keywordEach [] X.env))) := by rfl) :
    PD X C T (.Call (.Attribute (.Name sx sp) m apos) [] [] pos) (dMeth si G sNil) := by
  obtain ⟨fa, fd, ps, hF, h2, hb⟩ := c.ex
  refine PE.imp (pe_meth0 hs0 cl.c h2 hF (hr.mono hk) hb .nil pass0 ht) fun σ H Q ⟨S, ρ, d, E, e, q⟩ => ?_
  obtain ⟨md, e1, e⟩ := Option.bind_eq_some_iff.mp e
  obtain ⟨ds, e2, e3⟩ := Option.bind_eq_some_iff.mp e
  cases e2
  obtain ⟨p, ps', pr, pb, h1, h2'⟩ := E.meAt md e1
  obtain ⟨vm, dx, ho, _⟩ := h2'.ob
  refine ⟨_, h1, p, dx, _, rfl, ho, flds_no n1 n2 n3 n4, ?_⟩
  exact ⟨S, md, p, ps', pr, pb, [], [], d, rfl, E.tabs, E.sok, h2', .nil, e3, q⟩
theorem psds_never {sts : List Stmt} : PSDs X C T sts (fun _ => none) := PSs.imp pss_never fun D σ H ⟨B, ρ, r, E, e, q1, q2⟩ => by cases e
theorem psd_callMm {pl : Sem Bool} (c : MetMM X.prog X.w X.K X.mg X.base C T k m M) (hs0 : PE X (.Name sx sp) (tVar si)) (cl : ClsT X.K C) (hr : Room j X.A) (ha : PDs X C T (e :: es) fs) (hk : k ≤ j := by decide)
    (n1 : ¬ m = "many" := by decide +kernel) (n2 : ¬ m = "signs" := by decide +kernel) (n3 : ¬ m = "rows" := by decide +kernel) (n4 : ¬ m = "basis" := by decide +kernel)
    (hst : starEach (e :: es) X.env = (false, eval e X.env) :: starEach es X.env := by rfl) (hpl : (backTo cpos (starEach es X.env)).any (·.1) = false := by rfl)
    (ht : eval (.Call (.Attribute (.Name sx sp) m apos) (e :: es) [] cpos) X.env = (do
      let ov ← eval (.Name sx sp) X.env
      standAt apos.atName
      let (f, first) ← holding [ov] (getMethod ov m pl)
      callWith cpos f first (backTo cpos (starEach (e :: es) X.env)) (backToKw cpos (keywordEach [] X.env))) := by rfl)
    (hsw : swapsWith (.Call (.Attribute (.Name sx sp) m apos) (e :: es) [] cpos) none pos.line X.env = pure false := by rfl) :
    PSD X C T (.Expr (.Call (.Attribute (.Name sx sp) m apos) (e :: es) [] cpos) pos) (sCallM si M fs) := by
  obtain ⟨fa, fd, ps, h1, h2, h3⟩ := c.ex
  exact psd_callM hs0 cl.c h2 h1 (hr.mono hk) h3 ha n1 n2 n3 n4 hst hpl ht hsw
theorem psd_callMm0 {pl : Sem Bool} (c : MetMM X.prog X.w X.K X.mg X.base C T k m M) (hs0 : PE X (.Name sx sp) (tVar si)) (cl : ClsT X.K C) (hr : Room j X.A) (hk : k ≤ j := by decide)
    (n1 : ¬ m = "many" := by decide +kernel) (n2 : ¬ m = "signs" := by decide +kernel) (n3 : ¬ m = "rows" := by decide +kernel) (n4 : ¬ m = "basis" := by decide +kernel)
    (ht : eval (.Call (.Attribute (.Name sx sp) m apos) [] [] cpos) X.env = (do
      let ov ← eval (.Name sx sp) X.env
      standAt apos.atName
      let (f, first) ← holding [ov] (getMethod ov m pl)
      callWith cpos f first (backTo cpos (starEach [] X.env)) (backToKw cpos (keywordEach [] X.env))) := by rfl)
    (hsw : swapsWith (.Call (.Attribute (.Name sx sp) m apos) [] [] cpos) none pos.line X.env = pure false := by rfl) :
    PSD X C T (.Expr (.Call (.Attribute (.Name sx sp) m apos) [] [] cpos) pos) (sCallM si M sNil) := by
  obtain ⟨fa, fd, ps, h1, h2, h3⟩ := c.ex
  exact psd_callM0 hs0 cl.c h2 h1 (hr.mono hk) h3 n1 n2 n3 n4 ht hsw
theorem psd_ifNotMm {pl : Sem Bool} {np : Pos} {a b : List Stmt} (c : MetMM X.prog X.w X.K X.mg X.base C T k m M) (hs0 : PE X (.Name sx sp) (tVar si)) (cl : ClsT X.K C) (hr : Room j X.A) (ha : PDs X C T (e :: es) fs) (h1' : PSDs X C T a F1) (h2' : PSDs X C T b F2) (hk : k ≤ j := by decide)
    (n1 : ¬ m = "many" := by decide +kernel) (n2 : ¬ m = "signs" := by decide +kernel) (n3 : ¬ m = "rows" := by decide +kernel) (n4 : ¬ m = "basis" := by decide +kernel)
    (hst : starEach (e :: es) X.env = (false, eval e X.env) :: starEach es X.env := by rfl) (hpl : (backTo cpos (starEach es X.env)).any (·.1) = false := by rfl)
    (ht : eval (.Call (.Attribute (.Name sx sp) m apos) (e :: es) [] cpos) X.env = (do
      let ov ← eval (.Name sx sp) X.env
      standAt apos.atName
      let (f, first) ← holding [ov] (getMethod ov m pl)
      callWith cpos f first (backTo cpos (starEach (e :: es) X.env)) (backToKw cpos (keywordEach [] X.env))) := by rfl)
    (hv : ∀ whole, isTrue (.Call (.Attribute (.Name sx sp) m apos) (e :: es) [] cpos) X.env whole = (do let v ← whole; standAt (Expr.pos (.Call (.Attribute (.Name sx sp) m apos) (e :: es) [] cpos)); holding [v] (truthy v)) := by intro _; rfl) :
    PSD X C T (.If (.UnaryOp .Not (.Call (.Attribute (.Name sx sp) m apos) (e :: es) [] cpos) np) a b pos) (sIfNotM si M fs F1 F2) := by
  obtain ⟨fa, fd, ps, h1, h2, h3⟩ := c.ex
  exact psd_ifNotM hs0 cl.c h2 h1 (hr.mono hk) h3 ha n1 n2 n3 n4 h1' h2' hst hpl ht hv
end
end CD
end
section
set_option maxHeartbeats 4000000
namespace CD
open PySem PySem.Spec PyProof.Rows L2 DL
open GxR (TabB TabG Tabbed)
section
variable {P : Program} {w : World} {K : PySem.W.Frag} {mg : Str → Option Value} {base : Heap} {C : Addr} {T : List Addr} {f : Addr} {fd : FuncData} {cdv : Value}
def s_is_in : Stmt := by
  refine (fun (x : Stmt) (h : top 7 = x) => x) ?x ?h
  case h =>
    conv => lhs; whnf
def B_is_in : En → Option SR := (sRet (vAnd (dIsi "int" (dVar 0)) (vAnd (vNot (dIsi "bool" (dVar 0))) (dChain dLe dLe (dVar 1) (dVar 0) (dVar 2)))))
def F_is_in : List PyData → Option PyData := runD 3 3 B_is_in
theorem sc_is_in : FnScope ["value", "least", "most"] ["value", "least", "most"] (defScope s_is_in) := ⟨rfl, rfl, rfl, by decide +kernel, rfl, by decide +kernel, by decide +kernel⟩
theorem ok_is_in (b : Blt mg) (D : DefC K mg "is_in" s_is_in f fd cdv ["value", "least", "most"]) : CalD P w K mg base T 1 "is_in" F_is_in :=
  cal_mk (C := 0) (F := B_is_in) (np := 3) (nN := 3) (by rw [F_is_in]) D sc_is_in rfl rfl fun A outer s H E hr => by
    unfold B_is_in
    exact (psds_one (psd_ret (pd_and (pd_isi tyOk_int (by rfl) b.isinstance (by rfl) b.int (pd_var (pv 0))) (pd_and (pd_not (pd_isi tyOk_bool (by rfl) b.isinstance (by rfl) b.bool (pd_var (pv 0)))) (pd_one (pd_le2 (pd_var (pv 1)) (pd_var (pv 0)) (pd_var (pv 2))))))))
def s_comes_up : Stmt := by
  refine (fun (x : Stmt) (h : top 8 = x) => x) ?x ?h
  case h =>
    conv => lhs; whnf
def B_comes_up : En → Option SR := (sThen (sFor (sRng2 (dC (.int 1)) (bin2 dAdd (dFun fLen (dVar 0)) (dC (.int 1)))) (.one 1) (sThen (sPar 2 3 (sCons (dVar 1) (sCons (dC (.int 0)) sNil)))
  (sThen (whileL (bAnd (bOf (bin2 dNe (dVar 2) (dC (.int 0)))) (bOf (bin2 dLe (dVar 3) (dFun fLen (dVar 0))))) (sPar 2 3 (sCons (bin2 dIx (dVar 0) (bin2 dSub (dVar 2) (dC (.int 1)))) (sCons (bin2 dAdd (dVar 3) (dC (.int 1))) sNil))) 1267650600228229401496703205376)
  (sIf (bOf (bin2 dNe (dVar 2) (dC (.int 0)))) (sRet (dC (.bool false))) sSkip))))
  (sRet (dC (.bool true))))
def F_comes_up : List PyData → Option PyData := runD 1 4 B_comes_up
theorem sc_comes_up : FnScope ["chiefs", "person", "here", "many"] ["chiefs"] (defScope s_comes_up) := ⟨rfl, rfl, rfl, by decide +kernel, rfl, by decide +kernel, by decide +kernel⟩
theorem ok_comes_up (b : Blt mg) (D : DefC K mg "comes_up" s_comes_up f fd cdv ["chiefs"]) : CalD P w K mg base T 1 "comes_up" F_comes_up :=
  cal_mk (C := 0) (F := B_comes_up) (np := 1) (nN := 4) (by rw [F_comes_up]) D sc_comes_up rfl rfl fun A outer s H E hr => by
    unfold B_comes_up
    exact (psds_cons (psd_for (tgt := (.one 1)) PassesOwn.never (by rfl) (pit_rng2 (by rfl) b.range pd_int (pd_add (pd_len (by rfl) b.len (pd_var (pv 0))) pd_int)) (pgt_one (i := 1) sc_comes_up.nd rfl (Or.inl rfl)) (psds_cons (psd_par (i := 2) (j := 3) (by rfl) sc_comes_up.nd rfl rfl (by decide) rfl rfl (pds_cons (pd_var (pv 1)) (pds_cons pd_int pds_nil)) (by with_unfolding_all rfl))
    (psds_cons (psd_while 1267650600228229401496703205376 PassesOwn.never (ptb_of (pwb_and (pt_ne hr (pd_var (pv 2)) pd_int) (pwb_and1 (pt_le (pd_var (pv 3)) (pd_len (by rfl) b.len (pd_var (pv 0))))))) (psds_one (psd_par (i := 2) (j := 3) (by rfl) sc_comes_up.nd rfl rfl (by decide) rfl rfl (pds_cons (pd_ix (pd_var (pv 0)) (pd_sub (pd_var (pv 2)) pd_int) (fun _ _ => rfl)) (pds_cons (pd_add (pd_var (pv 3)) pd_int) pds_nil)) (by with_unfolding_all rfl))))
    (psds_one (psd_if (pt_ne hr (pd_var (pv 2)) pd_int) (psds_one (psd_ret pd_bl)) psds_nil)))))
    (psds_one (psd_ret pd_bl)))
def s_is_chart : Stmt := by
  refine (fun (x : Stmt) (h : top 9 = x) => x) ?x ?h
  case h =>
    conv => lhs; whnf
def B_is_chart : En → Option SR := (sThen (sIf (bOr (bNot (bOf (dIsi "tuple" (dVar 0)))) (bNot (bOf (dChain dLe dLe (dC (.int 1)) (dFun fLen (dVar 0)) (dC (.int 6)))))) (sRet (dC (.bool false))) sSkip)
  (sRet (vAnd (dAll 1 (sSeq (dVar 0)) (dCall F_is_in (sCons (dVar 1) (sCons (dC (.int 0)) (sCons (dFun fLen (dVar 0)) sNil))))) (dCall F_comes_up (sCons (dVar 0) sNil)))))
def F_is_chart : List PyData → Option PyData := runD 1 2 B_is_chart
theorem sc_is_chart : FnScope ["value", "one"] ["value"] (defScope s_is_chart) := ⟨rfl, rfl, rfl, by decide +kernel, rfl, by decide +kernel, by decide +kernel⟩
theorem ok_is_chart (b : Blt mg) {c Pt : Addr} (TB : TabB base mg c Pt) (hP : Pt ∈ T) (c_is_in : CalD P w K mg base T 1 "is_in" F_is_in) (c_comes_up : CalD P w K mg base T 1 "comes_up" F_comes_up) (D : DefC K mg "is_chart" s_is_chart f fd (.ref c) ["value"]) : CalD P w K mg base T 5 "is_chart" F_is_chart :=
  cal_mk (C := 0) (F := B_is_chart) (np := 1) (nN := 2) (by rw [F_is_chart]) D sc_is_chart rfl rfl fun A outer s H E hr => by
    unfold B_is_chart
    exact (psds_cons (psd_if (ptb_of (pwb_or (ptb_not (pdb_val (pd_isi tyOk_tuple (by rfl) b.isinstance (by rfl) b.tuple (pd_var (pv 0))))) (pwb_or1 (ptb_not (pt_le2 pd_int (pd_len (by rfl) b.len (pd_var (pv 0))) (pd_glob (by rfl) b.people)))))) (psds_one (psd_ret pd_bl)) psds_nil)
    (psds_one (psd_ret (pd_and (pd_all (k := 1) (ix := 1) hP (hr.mono (by decide)) (by rfl) b.all TB rfl (by rfl) sc_is_chart.nd (pit_seq (pd_var (pv 0))) (blkOk_by (by kernel_rfl)) (WG.gscp_by (by kernel_rfl)) (fun A2 _ _ _ _ _ _ _ hr2 => (pd_c c_is_in hr2 (by rfl) (pds_cons (pd_var (pv 1)) (pds_cons pd_int (pds_cons (pd_len (by rfl) b.len (pd_var (pv 0))) pds_nil)))))) (pd_one (pd_c c_comes_up hr (by rfl) (pds_cons (pd_var (pv 0)) pds_nil)))))))
def s_need_chart : Stmt := by
  refine (fun (x : Stmt) (h : top 10 = x) => x) ?x ?h
  case h =>
    conv => lhs; whnf
def B_need_chart : En → Option SR := (sIf (bNot (bOf (dCall F_is_chart (sCons (dVar 0) sNil)))) (fun _ => none) sSkip)
def F_need_chart : List PyData → Option PyData := runD 1 1 B_need_chart
theorem sc_need_chart : FnScope ["chart"] ["chart"] (defScope s_need_chart) := ⟨rfl, rfl, rfl, by decide +kernel, rfl, by decide +kernel, by decide +kernel⟩
theorem ok_need_chart (b : Blt mg) (c_is_chart : CalD P w K mg base T 5 "is_chart" F_is_chart) (D : DefC K mg "need_chart" s_need_chart f fd cdv ["chart"]) : CalD P w K mg base T 6 "need_chart" F_need_chart :=
  cal_mk (C := 0) (F := B_need_chart) (np := 1) (nN := 1) (by rw [F_need_chart]) D sc_need_chart rfl rfl fun A outer s H E hr => by
    unfold B_need_chart
    exact (psds_one (psd_if (ptb_not (pdb_val (pd_c c_is_chart hr (by rfl) (pds_cons (pd_var (pv 0)) pds_nil)))) (psds_one psd_never) psds_nil))
def s_are_people : Stmt := by
  refine (fun (x : Stmt) (h : top 12 = x) => x) ?x ?h
  case h =>
    conv => lhs; whnf
def B_are_people : En → Option SR := (sThen (sIf (bOr (bNot (bOf (dIsi "tuple" (dVar 1)))) (bNot (bOf (dAll 2 (sSeq (dVar 1)) (dCall F_is_in (sCons (dVar 2) (sCons (dC (.int 1)) (sCons (dVar 0) sNil)))))))) (sRet (dC (.bool false))) sSkip)
  (sRet (dAll 3 (sRng1 (bin2 dSub (dFun fLen (dVar 1)) (dC (.int 1)))) (bin2 dLt (bin2 dIx (dVar 1) (dVar 3)) (bin2 dIx (dVar 1) (bin2 dAdd (dVar 3) (dC (.int 1))))))))
def F_are_people : List PyData → Option PyData := runD 2 4 B_are_people
theorem sc_are_people : FnScope ["size", "value", "one", "k"] ["size", "value"] (defScope s_are_people) := ⟨rfl, rfl, rfl, by decide +kernel, rfl, by decide +kernel, by decide +kernel⟩
theorem ok_are_people (b : Blt mg) {c Pt : Addr} (TB : TabB base mg c Pt) (hP : Pt ∈ T) (c_is_in : CalD P w K mg base T 1 "is_in" F_is_in) (D : DefC K mg "are_people" s_are_people f fd (.ref c) ["size", "value"]) : CalD P w K mg base T 5 "are_people" F_are_people :=
  cal_mk (C := 0) (F := B_are_people) (np := 2) (nN := 4) (by rw [F_are_people]) D sc_are_people rfl rfl fun A outer s H E hr => by
    unfold B_are_people
    exact (psds_cons (psd_if (ptb_of (pwb_or (ptb_not (pdb_val (pd_isi tyOk_tuple (by rfl) b.isinstance (by rfl) b.tuple (pd_var (pv 1))))) (pwb_or1 (ptb_not (pdb_val (pd_all (k := 1) (ix := 2) hP (hr.mono (by decide)) (by rfl) b.all TB rfl (by rfl) sc_are_people.nd (pit_seq (pd_var (pv 1))) (blkOk_by (by kernel_rfl)) (WG.gscp_by (by kernel_rfl)) (fun A2 _ _ _ _ _ _ _ hr2 => (pd_c c_is_in hr2 (by rfl) (pds_cons (pd_var (pv 2)) (pds_cons pd_int (pds_cons (pd_var (pv 0)) pds_nil))))))))))) (psds_one (psd_ret pd_bl)) psds_nil)
    (psds_one (psd_ret (pd_all (k := 1) (ix := 3) hP (hr.mono (by decide)) (by rfl) b.all TB rfl (by rfl) sc_are_people.nd (pit_rng1 (by rfl) b.range (pd_sub (pd_len (by rfl) b.len (pd_var (pv 1))) pd_int)) (blkOk_by (by kernel_rfl)) (WG.gscp_by (by kernel_rfl)) (fun A2 _ _ _ _ _ _ _ hr2 => (pd_lt (pd_ix (pd_var (pv 1)) (pd_var (pv 3)) (fun _ _ => rfl)) (pd_ix (pd_var (pv 1)) (pd_add (pd_var (pv 3)) pd_int) (fun _ _ => rfl))))))))
def s_lots_of : Stmt := by
  refine (fun (x : Stmt) (h : top 14 = x) => x) ?x ?h
  case h =>
    conv => lhs; whnf
def B_lots_of : En → Option SR := (sThen (sSet 1 (dLst (sCons (dTup sNil) sNil)))
  (sThen (sFor (sRng2 (dC (.int 1)) (bin2 dAdd (dVar 0) (dC (.int 1)))) (.one 2) (sSet 1 (bin2 dAdd (dVar 1) (dComp [3] (sSeq (dVar 1)) (.one 3) bYes (dTup (sStar (dVar 3) (sCons (dVar 2) sNil)))))))
  (sRet (dVar 1))))
def F_lots_of : List PyData → Option PyData := runD 1 4 B_lots_of
theorem sc_lots_of : FnScope ["size", "found", "person", "one"] ["size"] (defScope s_lots_of) := ⟨rfl, rfl, rfl, by decide +kernel, rfl, by decide +kernel, by decide +kernel⟩
theorem ok_lots_of (b : Blt mg) (D : DefC K mg "lots_of" s_lots_of f fd cdv ["size"]) : CalD P w K mg base T 1 "lots_of" F_lots_of :=
  cal_mk (C := 0) (F := B_lots_of) (np := 1) (nN := 4) (by rw [F_lots_of]) D sc_lots_of rfl rfl fun A outer s H E hr => by
    unfold B_lots_of
    exact (psds_cons (psd_set (i := 1) sc_lots_of.nd rfl (Or.inl rfl) (pd_lst (pds_cons (pd_tup pds_nil) pds_nil)))
    (psds_cons (psd_for (tgt := (.one 2)) PassesOwn.never (by rfl) (pit_rng2 (by rfl) b.range pd_int (pd_add (pd_var (pv 0)) pd_int)) (pgt_one (i := 2) sc_lots_of.nd rfl (Or.inr rfl)) (psds_one (psd_set (i := 1) sc_lots_of.nd rfl (Or.inl rfl) (pd_add (pd_var (pv 1)) (pd_lc (own := [("one", 3)]) (tgt := (.one 3)) (by rfl) sc_lots_of.nd (pit_seq (pd_var (pv 1))) (blkOk_by (by kernel_rfl)) (fun _ _ _ _ _ => pgt_one (i := 3) sc_lots_of.nd rfl (Or.inl rfl)) (fun _ _ _ _ _ => pts_no) (fun _ _ _ _ _ => (pd_tup (pds_star (pd_var (pv 3)) (pds_cons (pd_var (pv 2)) pds_nil)))))))))
    (psds_one (psd_ret (pd_var (pv 1))))))
def s_ratio : Stmt := by
  refine (fun (x : Stmt) (h : top 16 = x) => x) ?x ?h
  case h =>
    conv => lhs; whnf
def B_ratio : En → Option SR := (sThen (sSet 2 (dIf (bOf (bin2 dGt (dVar 1) (dC (.int 0)))) (bin2 dGcd (dVar 0) (dVar 1)) (bin2 dSub (dC (.int 0)) (bin2 dGcd (dVar 0) (dVar 1)))))
  (sRet (dTup (sCons (bin2 dFdv (dVar 0) (dVar 2)) (sCons (bin2 dFdv (dVar 1) (dVar 2)) sNil)))))
def F_ratio : List PyData → Option PyData := runD 2 3 B_ratio
theorem sc_ratio : FnScope ["top", "bottom", "common"] ["top", "bottom"] (defScope s_ratio) := ⟨rfl, rfl, rfl, by decide +kernel, rfl, by decide +kernel, by decide +kernel⟩
theorem ok_ratio (b : Blt mg) (D : DefC K mg "ratio" s_ratio f fd cdv ["top", "bottom"]) : CalD P w K mg base T 1 "ratio" F_ratio :=
  cal_mk (C := 0) (F := B_ratio) (np := 2) (nN := 3) (by rw [F_ratio]) D sc_ratio rfl rfl fun A outer s H E hr => by
    unfold B_ratio
    exact (psds_cons (psd_set (i := 2) sc_ratio.nd rfl (Or.inl rfl) (pd_if (pt_gt (pd_var (pv 1)) pd_int) (pd_gcd (by rfl) b.gcd (pd_var (pv 0)) (pd_var (pv 1))) (pd_sub pd_int (pd_gcd (by rfl) b.gcd (pd_var (pv 0)) (pd_var (pv 1))))))
    (psds_one (psd_ret (pd_tup (pds_cons (pd_fdv (pd_var (pv 0)) (pd_var (pv 2))) (pds_cons (pd_fdv (pd_var (pv 1)) (pd_var (pv 2))) pds_nil))))))
def s_plus : Stmt := by
  refine (fun (x : Stmt) (h : top 17 = x) => x) ?x ?h
  case h =>
    conv => lhs; whnf
def B_plus : En → Option SR := (sRet (dCall F_ratio (sCons (bin2 dAdd (bin2 dMul (bin2 dIx (dVar 0) (dC (.int 0))) (bin2 dIx (dVar 1) (dC (.int 1)))) (bin2 dMul (bin2 dIx (dVar 1) (dC (.int 0))) (bin2 dIx (dVar 0) (dC (.int 1))))) (sCons (bin2 dMul (bin2 dIx (dVar 0) (dC (.int 1))) (bin2 dIx (dVar 1) (dC (.int 1)))) sNil))))
def F_plus : List PyData → Option PyData := runD 2 2 B_plus
theorem sc_plus : FnScope ["one", "other"] ["one", "other"] (defScope s_plus) := ⟨rfl, rfl, rfl, by decide +kernel, rfl, by decide +kernel, by decide +kernel⟩
theorem ok_plus (b : Blt mg) (c_ratio : CalD P w K mg base T 1 "ratio" F_ratio) (D : DefC K mg "plus" s_plus f fd cdv ["one", "other"]) : CalD P w K mg base T 2 "plus" F_plus :=
  cal_mk (C := 0) (F := B_plus) (np := 2) (nN := 2) (by rw [F_plus]) D sc_plus rfl rfl fun A outer s H E hr => by
    unfold B_plus
    exact (psds_one (psd_ret (pd_c c_ratio hr (by rfl) (pds_cons (pd_add (pd_mul (pd_ix (pd_var (pv 0)) pd_int (fun _ _ => rfl)) (pd_ix (pd_var (pv 1)) pd_int (fun _ _ => rfl))) (pd_mul (pd_ix (pd_var (pv 1)) pd_int (fun _ _ => rfl)) (pd_ix (pd_var (pv 0)) pd_int (fun _ _ => rfl)))) (pds_cons (pd_mul (pd_ix (pd_var (pv 0)) pd_int (fun _ _ => rfl)) (pd_ix (pd_var (pv 1)) pd_int (fun _ _ => rfl))) pds_nil)))))
def s_minus : Stmt := by
  refine (fun (x : Stmt) (h : top 18 = x) => x) ?x ?h
  case h =>
    conv => lhs; whnf
def B_minus : En → Option SR := (sRet (dCall F_ratio (sCons (bin2 dSub (bin2 dMul (bin2 dIx (dVar 0) (dC (.int 0))) (bin2 dIx (dVar 1) (dC (.int 1)))) (bin2 dMul (bin2 dIx (dVar 1) (dC (.int 0))) (bin2 dIx (dVar 0) (dC (.int 1))))) (sCons (bin2 dMul (bin2 dIx (dVar 0) (dC (.int 1))) (bin2 dIx (dVar 1) (dC (.int 1)))) sNil))))
def F_minus : List PyData → Option PyData := runD 2 2 B_minus
theorem sc_minus : FnScope ["one", "other"] ["one", "other"] (defScope s_minus) := ⟨rfl, rfl, rfl, by decide +kernel, rfl, by decide +kernel, by decide +kernel⟩
theorem ok_minus (b : Blt mg) (c_ratio : CalD P w K mg base T 1 "ratio" F_ratio) (D : DefC K mg "minus" s_minus f fd cdv ["one", "other"]) : CalD P w K mg base T 2 "minus" F_minus :=
  cal_mk (C := 0) (F := B_minus) (np := 2) (nN := 2) (by rw [F_minus]) D sc_minus rfl rfl fun A outer s H E hr => by
    unfold B_minus
    exact (psds_one (psd_ret (pd_c c_ratio hr (by rfl) (pds_cons (pd_sub (pd_mul (pd_ix (pd_var (pv 0)) pd_int (fun _ _ => rfl)) (pd_ix (pd_var (pv 1)) pd_int (fun _ _ => rfl))) (pd_mul (pd_ix (pd_var (pv 1)) pd_int (fun _ _ => rfl)) (pd_ix (pd_var (pv 0)) pd_int (fun _ _ => rfl)))) (pds_cons (pd_mul (pd_ix (pd_var (pv 0)) pd_int (fun _ _ => rfl)) (pd_ix (pd_var (pv 1)) pd_int (fun _ _ => rfl))) pds_nil)))))
def s_by : Stmt := by
  refine (fun (x : Stmt) (h : top 19 = x) => x) ?x ?h
  case h =>
    conv => lhs; whnf
def B_by : En → Option SR := (sRet (dCall F_ratio (sCons (bin2 dMul (bin2 dIx (dVar 0) (dC (.int 0))) (bin2 dIx (dVar 1) (dC (.int 0)))) (sCons (bin2 dMul (bin2 dIx (dVar 0) (dC (.int 1))) (bin2 dIx (dVar 1) (dC (.int 1)))) sNil))))
def F_by : List PyData → Option PyData := runD 2 2 B_by
theorem sc_by : FnScope ["one", "other"] ["one", "other"] (defScope s_by) := ⟨rfl, rfl, rfl, by decide +kernel, rfl, by decide +kernel, by decide +kernel⟩
theorem ok_by (b : Blt mg) (c_ratio : CalD P w K mg base T 1 "ratio" F_ratio) (D : DefC K mg "by" s_by f fd cdv ["one", "other"]) : CalD P w K mg base T 2 "by" F_by :=
  cal_mk (C := 0) (F := B_by) (np := 2) (nN := 2) (by rw [F_by]) D sc_by rfl rfl fun A outer s H E hr => by
    unfold B_by
    exact (psds_one (psd_ret (pd_c c_ratio hr (by rfl) (pds_cons (pd_mul (pd_ix (pd_var (pv 0)) pd_int (fun _ _ => rfl)) (pd_ix (pd_var (pv 1)) pd_int (fun _ _ => rfl))) (pds_cons (pd_mul (pd_ix (pd_var (pv 0)) pd_int (fun _ _ => rfl)) (pd_ix (pd_var (pv 1)) pd_int (fun _ _ => rfl))) pds_nil)))))
def s_over : Stmt := by
  refine (fun (x : Stmt) (h : top 20 = x) => x) ?x ?h
  case h =>
    conv => lhs; whnf
def B_over : En → Option SR := (sRet (dCall F_ratio (sCons (bin2 dMul (bin2 dIx (dVar 0) (dC (.int 0))) (bin2 dIx (dVar 1) (dC (.int 1)))) (sCons (bin2 dMul (bin2 dIx (dVar 0) (dC (.int 1))) (bin2 dIx (dVar 1) (dC (.int 0)))) sNil))))
def F_over : List PyData → Option PyData := runD 2 2 B_over
theorem sc_over : FnScope ["one", "other"] ["one", "other"] (defScope s_over) := ⟨rfl, rfl, rfl, by decide +kernel, rfl, by decide +kernel, by decide +kernel⟩
theorem ok_over (b : Blt mg) (c_ratio : CalD P w K mg base T 1 "ratio" F_ratio) (D : DefC K mg "over" s_over f fd cdv ["one", "other"]) : CalD P w K mg base T 2 "over" F_over :=
  cal_mk (C := 0) (F := B_over) (np := 2) (nN := 2) (by rw [F_over]) D sc_over rfl rfl fun A outer s H E hr => by
    unfold B_over
    exact (psds_one (psd_ret (pd_c c_ratio hr (by rfl) (pds_cons (pd_mul (pd_ix (pd_var (pv 0)) pd_int (fun _ _ => rfl)) (pd_ix (pd_var (pv 1)) pd_int (fun _ _ => rfl))) (pds_cons (pd_mul (pd_ix (pd_var (pv 0)) pd_int (fun _ _ => rfl)) (pd_ix (pd_var (pv 1)) pd_int (fun _ _ => rfl))) pds_nil)))))
def s_less : Stmt := by
  refine (fun (x : Stmt) (h : top 21 = x) => x) ?x ?h
  case h =>
    conv => lhs; whnf
def B_less : En → Option SR := (sRet (bin2 dLt (bin2 dMul (bin2 dIx (dVar 0) (dC (.int 0))) (bin2 dIx (dVar 1) (dC (.int 1)))) (bin2 dMul (bin2 dIx (dVar 1) (dC (.int 0))) (bin2 dIx (dVar 0) (dC (.int 1))))))
def F_less : List PyData → Option PyData := runD 2 2 B_less
theorem sc_less : FnScope ["one", "other"] ["one", "other"] (defScope s_less) := ⟨rfl, rfl, rfl, by decide +kernel, rfl, by decide +kernel, by decide +kernel⟩
theorem ok_less (b : Blt mg) (D : DefC K mg "less" s_less f fd cdv ["one", "other"]) : CalD P w K mg base T 1 "less" F_less :=
  cal_mk (C := 0) (F := B_less) (np := 2) (nN := 2) (by rw [F_less]) D sc_less rfl rfl fun A outer s H E hr => by
    unfold B_less
    exact (psds_one (psd_ret (pd_lt (pd_mul (pd_ix (pd_var (pv 0)) pd_int (fun _ _ => rfl)) (pd_ix (pd_var (pv 1)) pd_int (fun _ _ => rfl))) (pd_mul (pd_ix (pd_var (pv 1)) pd_int (fun _ _ => rfl)) (pd_ix (pd_var (pv 0)) pd_int (fun _ _ => rfl))))))
def s_sum_of : Stmt := by
  refine (fun (x : Stmt) (h : top 22 = x) => x) ?x ?h
  case h =>
    conv => lhs; whnf
def B_sum_of : En → Option SR := (sThen (sSet 1 (dTup (sCons (dC (.int 0)) (sCons (dC (.int 1)) sNil))))
  (sThen (sFor (sSeq (dVar 0)) (.one 2) (sSet 1 (dCall F_plus (sCons (dVar 1) (sCons (dVar 2) sNil)))))
  (sRet (dVar 1))))
def F_sum_of : List PyData → Option PyData := runD 1 3 B_sum_of
theorem sc_sum_of : FnScope ["some", "found", "one"] ["some"] (defScope s_sum_of) := ⟨rfl, rfl, rfl, by decide +kernel, rfl, by decide +kernel, by decide +kernel⟩
theorem ok_sum_of (b : Blt mg) (c_plus : CalD P w K mg base T 2 "plus" F_plus) (D : DefC K mg "sum_of" s_sum_of f fd cdv ["some"]) : CalD P w K mg base T 3 "sum_of" F_sum_of :=
  cal_mk (C := 0) (F := B_sum_of) (np := 1) (nN := 3) (by rw [F_sum_of]) D sc_sum_of rfl rfl fun A outer s H E hr => by
    unfold B_sum_of
    exact (psds_cons (psd_set (i := 1) sc_sum_of.nd rfl (Or.inl rfl) (pd_tup (pds_cons pd_int (pds_cons pd_int pds_nil))))
    (psds_cons (psd_for (tgt := (.one 2)) PassesOwn.never (by rfl) (pit_seq (pd_var (pv 0))) (pgt_one (i := 2) sc_sum_of.nd rfl (Or.inl rfl)) (psds_one (psd_set (i := 1) sc_sum_of.nd rfl (Or.inl rfl) (pd_c c_plus hr (by rfl) (pds_cons (pd_var (pv 1)) (pds_cons (pd_var (pv 2)) pds_nil))))))
    (psds_one (psd_ret (pd_var (pv 1))))))
def s_is_ratio : Stmt := by
  refine (fun (x : Stmt) (h : top 23 = x) => x) ?x ?h
  case h =>
    conv => lhs; whnf
def B_is_ratio : En → Option SR := (sThen (sIf (bOr (bNot (bOf (dIsi "tuple" (dVar 0)))) (bOf (bin2 dNe (dFun fLen (dVar 0)) (dC (.int 2))))) (sRet (dC (.bool false))) sSkip)
  (sThen (sIf (bNot (bOf (dAll 1 (sSeq (dVar 0)) (vAnd (dIsi "int" (dVar 1)) (vNot (dIsi "bool" (dVar 1))))))) (sRet (dC (.bool false))) sSkip)
  (sRet (vAnd (bin2 dGt (bin2 dIx (dVar 0) (dC (.int 1))) (dC (.int 0))) (bin2 dEq (bin2 dGcd (bin2 dIx (dVar 0) (dC (.int 0))) (bin2 dIx (dVar 0) (dC (.int 1)))) (dC (.int 1)))))))
def F_is_ratio : List PyData → Option PyData := runD 1 2 B_is_ratio
theorem sc_is_ratio : FnScope ["value", "one"] ["value"] (defScope s_is_ratio) := ⟨rfl, rfl, rfl, by decide +kernel, rfl, by decide +kernel, by decide +kernel⟩
theorem ok_is_ratio (b : Blt mg) {c Pt : Addr} (TB : TabB base mg c Pt) (hP : Pt ∈ T) (D : DefC K mg "is_ratio" s_is_ratio f fd (.ref c) ["value"]) : CalD P w K mg base T 4 "is_ratio" F_is_ratio :=
  cal_mk (C := 0) (F := B_is_ratio) (np := 1) (nN := 2) (by rw [F_is_ratio]) D sc_is_ratio rfl rfl fun A outer s H E hr => by
    unfold B_is_ratio
    exact (psds_cons (psd_if (ptb_of (pwb_or (ptb_not (pdb_val (pd_isi tyOk_tuple (by rfl) b.isinstance (by rfl) b.tuple (pd_var (pv 0))))) (pwb_or1 (pt_ne hr (pd_len (by rfl) b.len (pd_var (pv 0))) pd_int)))) (psds_one (psd_ret pd_bl)) psds_nil)
    (psds_cons (psd_if (ptb_not (pdb_val (pd_all (k := 0) (ix := 1) hP (hr.mono (by decide)) (by rfl) b.all TB rfl (by rfl) sc_is_ratio.nd (pit_seq (pd_var (pv 0))) (blkOk_by (by kernel_rfl)) (WG.gscp_by (by kernel_rfl)) (fun A2 _ _ _ _ _ _ _ hr2 => (pd_and (pd_isi tyOk_int (by rfl) b.isinstance (by rfl) b.int (pd_var (pv 1))) (pd_one (pd_not (pd_isi tyOk_bool (by rfl) b.isinstance (by rfl) b.bool (pd_var (pv 1)))))))))) (psds_one (psd_ret pd_bl)) psds_nil)
    (psds_one (psd_ret (pd_and (pd_gt (pd_ix (pd_var (pv 0)) pd_int (fun _ _ => rfl)) pd_int) (pd_one (pd_eq hr (pd_gcd (by rfl) b.gcd (pd_ix (pd_var (pv 0)) pd_int (fun _ _ => rfl)) (pd_ix (pd_var (pv 0)) pd_int (fun _ _ => rfl))) pd_int)))))))
end
end CD
end
section
set_option maxHeartbeats 4000000
namespace CD
open PySem PySem.Spec PyProof.Rows L2 DL
open GxR (TabB TabG Tabbed)
section
variable {P : Program} {w : World} {K : PySem.W.Frag} {mg : Str → Option Value} {base : Heap} {C : Addr} {T : List Addr} {f : Addr} {fd : FuncData} {cdv : Value}
def s_Program_turn : Stmt := by
  refine (fun (x : Stmt) (h : inClass (top 25) 1 = x) => x) ?x ?h
  case h =>
    conv => lhs; whnf
def B_Program_turn : En → Option SR := (sThen (sSet 3 (bin2 dIx (dRowAt 0 (dVar 1)) (dVar 2)))
  (sThen (sSetR 0 (dVar 1) (dComp [4] (sSeq (dRowAt 0 (dVar 1))) (.one 4) bYes (dCall F_over (sCons (dVar 4) (sCons (dVar 3) sNil)))))
  (sThen (sForM (sRng1 (dLenRows 0)) (.one 5) (sThen (sSet 6 (bin2 dIx (dRowAt 0 (dVar 5)) (dVar 2)))
  (sIf (bAnd (bOf (bin2 dNe (dVar 5) (dVar 1))) (bOf (bin2 dNe (bin2 dIx (dVar 6) (dC (.int 0))) (dC (.int 0))))) (sSetR 0 (dVar 5) (dComp [7, 8] (sZip (dRowAt 0 (dVar 5)) (dRowAt 0 (dVar 1))) (.two 7 8) bYes (dCall F_minus (sCons (dVar 7) (sCons (dCall F_by (sCons (dVar 6) (sCons (dVar 8) sNil))) sNil))))) sSkip)))
  (sSetB 0 (dVar 1) (dVar 2)))))
def F_Program_turn : SelfD → List PyData → Option (SelfD × PyData) := runMM 3 9 B_Program_turn
theorem sc_Program_turn : FnScope ["self", "j", "k", "pivot", "one", "i", "factor", "a", "b"] ["self", "j", "k"] (defScope s_Program_turn) := ⟨rfl, rfl, rfl, by decide +kernel, rfl, by decide +kernel, by decide +kernel⟩
theorem ok_Program_turn (b : Blt mg) (cl : ClsT K C) (c_over : CalD P w K mg base T 2 "over" F_over) (c_minus : CalD P w K mg base T 2 "minus" F_minus) (c_by : CalD P w K mg base T 2 "by" F_by) (D : MethC K C "turn" "Program.turn" s_Program_turn f fd cdv ["self", "j", "k"]) : MetMM P w K mg base C T 3 "turn" F_Program_turn :=
  metmm_mk (F := B_Program_turn) (np := 3) (nN := 9) (by rw [F_Program_turn]) D sc_Program_turn rfl rfl fun A outer s H E hr => by
    unfold B_Program_turn
    exact (psds_cons (psd_set (i := 3) sc_Program_turn.nd rfl (Or.inr rfl) (pd_ix (pd_rowAt (si := 0) (pv 0) cl.c cl.rows (pd_var (pv 1)) (fun _ _ => rfl)) (pd_var (pv 2)) (fun _ _ => rfl)))
    (psds_cons (psd_setR (si := 0) (pv 0) cl.c cl.rows (pd_var (pv 1)) (pd_lc (own := [("one", 4)]) (tgt := (.one 4)) (by rfl) sc_Program_turn.nd (pit_seq (pd_rowAt (si := 0) (pv 0) cl.c cl.rows (pd_var (pv 1)) (fun _ _ => rfl))) (blkOk_by (by kernel_rfl)) (fun _ _ _ _ _ => pgt_one (i := 4) sc_Program_turn.nd rfl (Or.inl rfl)) (fun _ _ _ _ _ => pts_no) (fun _ _ _ _ _ => (pd_c c_over hr (by rfl) (pds_cons (pd_var (pv 4)) (pds_cons (pd_var (pv 3)) pds_nil))))))
    (psds_cons (psd_forM (tgt := (.one 5)) PassesOwn.never (by rfl) (pit_rng1 (by rfl) b.range (pd_lenRows (si := 0) (pv 0) cl.c cl.rows (by rfl) b.len)) (pgt_one (i := 5) sc_Program_turn.nd rfl (Or.inl rfl)) (psds_cons (psd_set (i := 6) sc_Program_turn.nd rfl (Or.inr rfl) (pd_ix (pd_rowAt (si := 0) (pv 0) cl.c cl.rows (pd_var (pv 5)) (fun _ _ => rfl)) (pd_var (pv 2)) (fun _ _ => rfl)))
    (psds_one (psd_if (ptb_of (pwb_and (pt_ne hr (pd_var (pv 5)) (pd_var (pv 1))) (pwb_and1 (pt_ne hr (pd_ix (pd_var (pv 6)) pd_int (fun _ _ => rfl)) pd_int)))) (psds_one (psd_setR (si := 0) (pv 0) cl.c cl.rows (pd_var (pv 5)) (pd_lc (own := [("a", 7), ("b", 8)]) (tgt := (.two 7 8)) (by rfl) sc_Program_turn.nd (pit_zip (by rfl) b.zip (pd_rowAt (si := 0) (pv 0) cl.c cl.rows (pd_var (pv 5)) (fun _ _ => rfl)) (pd_rowAt (si := 0) (pv 0) cl.c cl.rows (pd_var (pv 1)) (fun _ _ => rfl))) (blkOk_by (by kernel_rfl)) (fun _ _ _ _ _ => pgt_two (i := 7) (j := 8) (by rfl) sc_Program_turn.nd rfl rfl (Or.inl rfl) (Or.inl rfl)) (fun _ _ _ _ _ => pts_no) (fun _ _ _ _ _ => (pd_c c_minus hr (by rfl) (pds_cons (pd_var (pv 7)) (pds_cons (pd_c c_by hr (by rfl) (pds_cons (pd_var (pv 6)) (pds_cons (pd_var (pv 8)) pds_nil))) pds_nil))))))) psds_nil))))
    (psds_one (psd_setB (si := 0) (pv 0) cl.c cl.basis (pd_var (pv 1)) (pd_var (pv 2)))))))
def s_Program_multiplier : Stmt := by
  refine (fun (x : Stmt) (h : inClass (top 25) 2 = x) => x) ?x ?h
  case h =>
    conv => lhs; whnf
def B_Program_multiplier : En → Option SR := (sThen (sSet 3 (dComp [4, 5] (sEnumRows 0) (.two 4 5) (bAnd (bOf (bin2 dNe (bin2 dIx (bin2 dIx (dVar 5) (dVar 2)) (dC (.int 0))) (dC (.int 0)))) (bOf (bin2 dNe (bin2 dIx (bin2 dIx (dVar 1) (dBasAt 0 (dVar 4))) (dC (.int 0))) (dC (.int 0))))) (dVar 4)))
  (sRet (dCall F_sum_of (sCons (dComp [4] (sSeq (dVar 3)) (.one 4) bYes (dCall F_by (sCons (bin2 dIx (dVar 1) (dBasAt 0 (dVar 4))) (sCons (bin2 dIx (dRowAt 0 (dVar 4)) (dVar 2)) sNil)))) sNil))))
def F_Program_multiplier : SelfD → List PyData → Option PyData := runM 3 6 B_Program_multiplier
theorem sc_Program_multiplier : FnScope ["self", "costs", "k", "some", "j", "row"] ["self", "costs", "k"] (defScope s_Program_multiplier) := ⟨rfl, rfl, rfl, by decide +kernel, rfl, by decide +kernel, by decide +kernel⟩
theorem ok_Program_multiplier (b : Blt mg) (cl : ClsT K C) (c_sum_of : CalD P w K mg base T 3 "sum_of" F_sum_of) (c_by : CalD P w K mg base T 2 "by" F_by) (D : MethC K C "multiplier" "Program.multiplier" s_Program_multiplier f fd cdv ["self", "costs", "k"]) : MetD P w K mg base C T 4 "multiplier" F_Program_multiplier :=
  met_mk (F := B_Program_multiplier) (np := 3) (nN := 6) (by rw [F_Program_multiplier]) D sc_Program_multiplier rfl rfl fun A outer s H E hr => by
    unfold B_Program_multiplier
    exact (psds_cons (psd_setLc (i := 3) (own := [("j", 4), ("row", 5)]) (tgt := (.two 4 5)) (by rfl) sc_Program_multiplier.nd rfl rfl (sw_true rfl rfl rfl (by kernel_rfl)) (pit_enumRows (si := 0) (pv 0) cl.c cl.rows (by rfl) b.enumerate) (blkOk_by (by kernel_rfl)) (fun _ _ _ _ _ => pgt_two (i := 4) (j := 5) (by rfl) sc_Program_multiplier.nd rfl rfl (Or.inl rfl) (Or.inl rfl)) (fun _ _ _ _ _ => pts_one (ptb_of (pwb_and (pt_ne hr (pd_ix (pd_ix (pd_var (pv 5)) (pd_var (pv 2)) (fun _ _ => rfl)) pd_int (fun _ _ => rfl)) pd_int) (pwb_and1 (pt_ne hr (pd_ix (pd_ix (pd_var (pv 1)) (pd_basAt (si := 0) (pv 0) cl.c cl.basis (pd_var (pv 4)) (fun _ _ => rfl)) (fun _ _ => rfl)) pd_int (fun _ _ => rfl)) pd_int))))) (fun _ _ _ _ _ => (pd_var (pv 4))))
    (psds_one (psd_ret (pd_c c_sum_of hr (by rfl) (pds_cons (pd_lc (own := [("j", 4)]) (tgt := (.one 4)) (by rfl) sc_Program_multiplier.nd (pit_seq (pd_var (pv 3))) (blkOk_by (by kernel_rfl)) (fun _ _ _ _ _ => pgt_one (i := 4) sc_Program_multiplier.nd rfl (Or.inl rfl)) (fun _ _ _ _ _ => pts_no) (fun _ _ _ _ _ => (pd_c c_by hr (by rfl) (pds_cons (pd_ix (pd_var (pv 1)) (pd_basAt (si := 0) (pv 0) cl.c cl.basis (pd_var (pv 4)) (fun _ _ => rfl)) (fun _ _ => rfl)) (pds_cons (pd_ix (pd_rowAt (si := 0) (pv 0) cl.c cl.rows (pd_var (pv 4)) (fun _ _ => rfl)) (pd_var (pv 2)) (fun _ _ => rfl)) pds_nil))))) pds_nil)))))
def s_Program_rising : Stmt := by
  refine (fun (x : Stmt) (h : inClass (top 25) 3 = x) => x) ?x ?h
  case h =>
    conv => lhs; whnf
def B_Program_rising : En → Option SR := (sThen (sFor (sRng1 (dVar 2)) (.one 3) (sIf (bOf (dCall F_less (sCons (dMeth 0 F_Program_multiplier (sCons (dVar 1) (sCons (dVar 3) sNil))) (sCons (bin2 dIx (dVar 1) (dVar 3)) sNil)))) (sRet (dVar 3)) sSkip))
  (sRet (dC .none)))
def F_Program_rising : SelfD → List PyData → Option PyData := runM 3 4 B_Program_rising
theorem sc_Program_rising : FnScope ["self", "costs", "columns", "k"] ["self", "costs", "columns"] (defScope s_Program_rising) := ⟨rfl, rfl, rfl, by decide +kernel, rfl, by decide +kernel, by decide +kernel⟩
theorem ok_Program_rising (b : Blt mg) (cl : ClsT K C) (c_less : CalD P w K mg base T 1 "less" F_less) (m_multiplier : MetD P w K mg base C T 4 "multiplier" F_Program_multiplier) (D : MethC K C "rising" "Program.rising" s_Program_rising f fd cdv ["self", "costs", "columns"]) : MetD P w K mg base C T 5 "rising" F_Program_rising :=
  met_mk (F := B_Program_rising) (np := 3) (nN := 4) (by rw [F_Program_rising]) D sc_Program_rising rfl rfl fun A outer s H E hr => by
    unfold B_Program_rising
    exact (psds_cons (psd_for (tgt := (.one 3)) PassesOwn.never (by rfl) (pit_rng1 (by rfl) b.range (pd_var (pv 2))) (pgt_one (i := 3) sc_Program_rising.nd rfl (Or.inl rfl)) (psds_one (psd_if (pdb_val (pd_c c_less hr (by rfl) (pds_cons (pd_m (si := 0) m_multiplier (pv 0) cl hr (pds_cons (pd_var (pv 1)) (pds_cons (pd_var (pv 3)) pds_nil))) (pds_cons (pd_ix (pd_var (pv 1)) (pd_var (pv 3)) (fun _ _ => rfl)) pds_nil)))) (psds_one (psd_ret (pd_var (pv 3)))) psds_nil)))
    (psds_one (psd_ret pd_non)))
def s_Program_climb : Stmt := by
  refine (fun (x : Stmt) (h : inClass (top 25) 4 = x) => x) ?x ?h
  case h =>
    conv => lhs; whnf
def B_Program_climb : En → Option SR := (whileL (bOf (dC (.bool true))) (sThen (sPar 3 4 (sCons (dMeth 0 F_Program_rising (sCons (dVar 1) (sCons (dVar 2) sNil))) (sCons (dC .none) sNil)))
  (sThen (sIf (bOf (bin2 dIsN (dVar 3) (dC .none))) (sRet (dC (.bool true))) sSkip)
  (sThen (sFor (sEnumRows 0) (.two 5 6) (sIf (bOf (bin2 dGt (bin2 dIx (bin2 dIx (dVar 6) (dVar 3)) (dC (.int 0))) (dC (.int 0)))) (sThen (sSet 7 (dCall F_over (sCons (bin2 dIx (dVar 6) (dNeg (dC (.int 1)))) (sCons (bin2 dIx (dVar 6) (dVar 3)) sNil))))
  (sIf (bOr (bOf (bin2 dIsN (dVar 4) (dC .none))) (bOr (bOf (dCall F_less (sCons (dVar 7) (sCons (bin2 dIx (dVar 4) (dC (.int 0))) sNil)))) (bAnd (bOf (bin2 dEq (dVar 7) (bin2 dIx (dVar 4) (dC (.int 0))))) (bOf (bin2 dLt (dBasAt 0 (dVar 5)) (dBasAt 0 (bin2 dIx (dVar 4) (dC (.int 1))))))))) (sSet 4 (dTup (sCons (dVar 7) (sCons (dVar 5) sNil)))) sSkip)) sSkip))
  (sThen (sIf (bOf (bin2 dIsN (dVar 4) (dC .none))) (sRet (dC (.bool false))) sSkip)
  (sCallM 0 F_Program_turn (sCons (bin2 dIx (dVar 4) (dC (.int 1))) (sCons (dVar 3) sNil))))))) 1267650600228229401496703205376)
def F_Program_climb : SelfD → List PyData → Option (SelfD × PyData) := runMM 3 8 B_Program_climb
theorem sc_Program_climb : FnScope ["self", "costs", "columns", "k", "best", "j", "row", "here"] ["self", "costs", "columns"] (defScope s_Program_climb) := ⟨rfl, rfl, rfl, by decide +kernel, rfl, by decide +kernel, by decide +kernel⟩
theorem ok_Program_climb (b : Blt mg) (cl : ClsT K C) (c_over : CalD P w K mg base T 2 "over" F_over) (c_less : CalD P w K mg base T 1 "less" F_less) (m_rising : MetD P w K mg base C T 5 "rising" F_Program_rising) (m_turn : MetMM P w K mg base C T 3 "turn" F_Program_turn) (D : MethC K C "climb" "Program.climb" s_Program_climb f fd cdv ["self", "costs", "columns"]) : MetMM P w K mg base C T 6 "climb" F_Program_climb :=
  metmm_mk (F := B_Program_climb) (np := 3) (nN := 8) (by rw [F_Program_climb]) D sc_Program_climb rfl rfl fun A outer s H E hr => by
    unfold B_Program_climb
    exact (psds_one (psd_while 1267650600228229401496703205376 PassesOwn.never (pdb_val pd_bl) (psds_cons (psd_par (i := 3) (j := 4) (by rfl) sc_Program_climb.nd rfl rfl (by decide) rfl rfl (pds_cons (pd_m (si := 0) m_rising (pv 0) cl hr (pds_cons (pd_var (pv 1)) (pds_cons (pd_var (pv 2)) pds_nil))) (pds_cons pd_non pds_nil)) (by with_unfolding_all rfl))
    (psds_cons (psd_if (pt_isN (pd_var (pv 3)) pd_non) (psds_one (psd_ret pd_bl)) psds_nil)
    (psds_cons (psd_for (tgt := (.two 5 6)) PassesOwn.never (by rfl) (pit_enumRows (si := 0) (pv 0) cl.c cl.rows (by rfl) b.enumerate) (pgt_two (i := 5) (j := 6) (by rfl) sc_Program_climb.nd rfl rfl (Or.inl rfl) (Or.inl rfl)) (psds_one (psd_if (pt_gt (pd_ix (pd_ix (pd_var (pv 6)) (pd_var (pv 3)) (fun _ _ => rfl)) pd_int (fun _ _ => rfl)) pd_int) (psds_cons (psd_set (i := 7) sc_Program_climb.nd rfl (Or.inl rfl) (pd_c c_over hr (by rfl) (pds_cons (pd_ix (pd_var (pv 6)) (pd_neg pd_int) (fun _ _ => rfl)) (pds_cons (pd_ix (pd_var (pv 6)) (pd_var (pv 3)) (fun _ _ => rfl)) pds_nil))))
    (psds_one (psd_if (ptb_of (pwb_or (pt_isN (pd_var (pv 4)) pd_non) (pwb_or (pdb_val (pd_c c_less hr (by rfl) (pds_cons (pd_var (pv 7)) (pds_cons (pd_ix (pd_var (pv 4)) pd_int (fun _ _ => rfl)) pds_nil)))) (pwb_or1 (ptb_of (pwb_and (pt_eq hr (pd_var (pv 7)) (pd_ix (pd_var (pv 4)) pd_int (fun _ _ => rfl))) (pwb_and1 (pt_lt (pd_basAt (si := 0) (pv 0) cl.c cl.basis (pd_var (pv 5)) (fun _ _ => rfl)) (pd_basAt (si := 0) (pv 0) cl.c cl.basis (pd_ix (pd_var (pv 4)) pd_int (fun _ _ => rfl)) (fun _ _ => rfl)))))))))) (psds_one (psd_set (i := 4) sc_Program_climb.nd rfl (Or.inl rfl) (pd_tup (pds_cons (pd_var (pv 7)) (pds_cons (pd_var (pv 5)) pds_nil))))) psds_nil))) psds_nil)))
    (psds_cons (psd_if (pt_isN (pd_var (pv 4)) pd_non) (psds_one (psd_ret pd_bl)) psds_nil)
    (psds_one (psd_callMm (si := 0) m_turn (pv 0) cl hr (pds_cons (pd_ix (pd_var (pv 4)) pd_int (fun _ _ => rfl)) (pds_cons (pd_var (pv 3)) pds_nil))))))))))
def s_Program_leave_help : Stmt := by
  refine (fun (x : Stmt) (h : inClass (top 25) 5 = x) => x) ?x ?h
  case h =>
    conv => lhs; whnf
def B_Program_leave_help : En → Option SR := (sForM (sRngD (bin2 dSub (dLenRows 0) (dC (.int 1))) (dNeg (dC (.int 1)))) (.one 1) (sIf (bOf (bin2 dGe (dBasAt 0 (dVar 1)) (dMany 0))) (sThen (sSet 2 (dComp [3] (sRng1 (dMany 0)) (.one 3) (bOf (bin2 dNe (bin2 dIx (bin2 dIx (dRowAt 0 (dVar 1)) (dVar 3)) (dC (.int 0))) (dC (.int 0)))) (dVar 3)))
  (sIf (dTruL (dVar 2)) (sCallM 0 F_Program_turn (sCons (dVar 1) (sCons (bin2 dIx (dVar 2) (dC (.int 0))) sNil))) (sThen (fun _ => none)
  (fun _ => none)))) sSkip))
def F_Program_leave_help : SelfD → List PyData → Option (SelfD × PyData) := runMM 1 4 B_Program_leave_help
theorem sc_Program_leave_help : FnScope ["self", "j", "some", "k"] ["self"] (defScope s_Program_leave_help) := ⟨rfl, rfl, rfl, by decide +kernel, rfl, by decide +kernel, by decide +kernel⟩
theorem ok_Program_leave_help (b : Blt mg) (cl : ClsT K C) (m_turn : MetMM P w K mg base C T 3 "turn" F_Program_turn) (D : MethC K C "leave_help" "Program.leave_help" s_Program_leave_help f fd cdv ["self"]) : MetMM P w K mg base C T 4 "leave_help" F_Program_leave_help :=
  metmm_mk (F := B_Program_leave_help) (np := 1) (nN := 4) (by rw [F_Program_leave_help]) D sc_Program_leave_help rfl rfl fun A outer s H E hr => by
    unfold B_Program_leave_help
    exact (psds_one (psd_forM (tgt := (.one 1)) PassesOwn.never (by rfl) (pit_rngD (by rfl) b.range (pd_sub (pd_lenRows (si := 0) (pv 0) cl.c cl.rows (by rfl) b.len) pd_int) (pd_neg pd_int)) (pgt_one (i := 1) sc_Program_leave_help.nd rfl (Or.inr rfl)) (psds_one (psd_if (pt_ge (pd_basAt (si := 0) (pv 0) cl.c cl.basis (pd_var (pv 1)) (fun _ _ => rfl)) (pd_many (si := 0) (pv 0) cl.c cl.many)) (psds_cons (psd_setLc (i := 2) (own := [("k", 3)]) (tgt := (.one 3)) (by rfl) sc_Program_leave_help.nd rfl rfl (sw_true rfl rfl rfl (by kernel_rfl)) (pit_rng1 (by rfl) b.range (pd_many (si := 0) (pv 0) cl.c cl.many)) (blkOk_by (by kernel_rfl)) (fun _ _ _ _ _ => pgt_one (i := 3) sc_Program_leave_help.nd rfl (Or.inl rfl)) (fun _ _ _ _ _ => pts_one (pt_ne hr (pd_ix (pd_ix (pd_rowAt (si := 0) (pv 0) cl.c cl.rows (pd_var (pv 1)) (fun _ _ => rfl)) (pd_var (pv 3)) (fun _ _ => rfl)) pd_int (fun _ _ => rfl)) pd_int)) (fun _ _ _ _ _ => (pd_var (pv 3))))
    (psds_one (psd_if (pdb_truth (pd_var (pv 2))) (psds_one (psd_callMm (si := 0) m_turn (pv 0) cl hr (pds_cons (pd_var (pv 1)) (pds_cons (pd_ix (pd_var (pv 2)) pd_int (fun _ _ => rfl)) pds_nil)))) (psds_cons psd_never
    (psds_one psd_never))))) psds_nil))))
def s_Program_amounts : Stmt := by
  refine (fun (x : Stmt) (h : inClass (top 25) 6 = x) => x) ?x ?h
  case h =>
    conv => lhs; whnf
def B_Program_amounts : En → Option SR := (sThen (sOwn 1 (sComp [2] (sRng1 (dMany 0)) (.one 2) bYes (dTup (sCons (dC (.int 0)) (sCons (dC (.int 1)) sNil)))))
  (sThen (sForM (sEnumRows 0) (.two 3 4) (sIf (bOf (bin2 dLt (dBasAt 0 (dVar 3)) (dMany 0))) (sSetI 1 (dBasAt 0 (dVar 3)) (bin2 dIx (dVar 4) (dNeg (dC (.int 1))))) sSkip))
  (sRel 1 (sRet (dVar 1)))))
def F_Program_amounts : SelfD → List PyData → Option PyData := runM 1 5 B_Program_amounts
theorem sc_Program_amounts : FnScope ["self", "found", "k", "j", "row"] ["self"] (defScope s_Program_amounts) := ⟨rfl, rfl, rfl, by decide +kernel, rfl, by decide +kernel, by decide +kernel⟩
theorem ok_Program_amounts (b : Blt mg) (cl : ClsT K C) (D : MethC K C "amounts" "Program.amounts" s_Program_amounts f fd cdv ["self"]) : MetD P w K mg base C T 1 "amounts" F_Program_amounts :=
  met_mk (F := B_Program_amounts) (np := 1) (nN := 5) (by rw [F_Program_amounts]) D sc_Program_amounts rfl rfl fun A outer s H E hr => by
    unfold B_Program_amounts
    exact (psds_cons (psd_ownLc (i := 1) (own := [("k", 2)]) (tgt := (.one 2)) (by rfl) sc_Program_amounts.nd rfl rfl (sw_true rfl rfl rfl (by kernel_rfl)) (pit_rng1 (by rfl) b.range (pd_many (si := 0) (pv 0) cl.c cl.many)) (blkOk_by (by kernel_rfl)) (fun _ _ _ _ _ => pgt_one (i := 2) sc_Program_amounts.nd rfl (Or.inl rfl)) (fun _ _ _ _ _ => pts_no) (fun _ _ _ _ _ => (pd_tup (pds_cons pd_int (pds_cons pd_int pds_nil)))))
    (psds_cons (psd_forM (tgt := (.two 3 4)) PassesOwn.never (by rfl) (pit_enumRows (si := 0) (pv 0) cl.c cl.rows (by rfl) b.enumerate) (pgt_two (i := 3) (j := 4) (by rfl) sc_Program_amounts.nd rfl rfl (Or.inl rfl) (Or.inl rfl)) (psds_one (psd_if (pt_lt (pd_basAt (si := 0) (pv 0) cl.c cl.basis (pd_var (pv 3)) (fun _ _ => rfl)) (pd_many (si := 0) (pv 0) cl.c cl.many)) (psds_one (psd_setI (i := 1) (pv 1) (pd_basAt (si := 0) (pv 0) cl.c cl.basis (pd_var (pv 3)) (fun _ _ => rfl)) (pd_ix (pd_var (pv 4)) (pd_neg pd_int) (fun _ _ => rfl)))) psds_nil)))
    (psds_one (psd_rel (i := 1) (psd_ret (pd_var (pv 1)))))))
def s_Program_prices : Stmt := by
  refine (fun (x : Stmt) (h : inClass (top 25) 7 = x) => x) ?x ?h
  case h =>
    conv => lhs; whnf
def B_Program_prices : En → Option SR := (sRet (dComp [2, 3] (sEnum (dSigns 0)) (.two 2 3) bYes (dCall F_by (sCons (dVar 3) (sCons (dMeth 0 F_Program_multiplier (sCons (dVar 1) (sCons (bin2 dAdd (dMany 0) (dVar 2)) sNil))) sNil)))))
def F_Program_prices : SelfD → List PyData → Option PyData := runM 2 4 B_Program_prices
theorem sc_Program_prices : FnScope ["self", "costs", "j", "sign"] ["self", "costs"] (defScope s_Program_prices) := ⟨rfl, rfl, rfl, by decide +kernel, rfl, by decide +kernel, by decide +kernel⟩
theorem ok_Program_prices (b : Blt mg) (cl : ClsT K C) (c_by : CalD P w K mg base T 2 "by" F_by) (m_multiplier : MetD P w K mg base C T 4 "multiplier" F_Program_multiplier) (D : MethC K C "prices" "Program.prices" s_Program_prices f fd cdv ["self", "costs"]) : MetD P w K mg base C T 5 "prices" F_Program_prices :=
  met_mk (F := B_Program_prices) (np := 2) (nN := 4) (by rw [F_Program_prices]) D sc_Program_prices rfl rfl fun A outer s H E hr => by
    unfold B_Program_prices
    exact (psds_one (psd_ret (pd_lc (own := [("j", 2), ("sign", 3)]) (tgt := (.two 2 3)) (by rfl) sc_Program_prices.nd (pit_enum (by rfl) b.enumerate (pd_signs (si := 0) (pv 0) cl.c cl.signs)) (blkOk_by (by kernel_rfl)) (fun _ _ _ _ _ => pgt_two (i := 2) (j := 3) (by rfl) sc_Program_prices.nd rfl rfl (Or.inl rfl) (Or.inl rfl)) (fun _ _ _ _ _ => pts_no) (fun _ _ _ _ _ => (pd_c c_by hr (by rfl) (pds_cons (pd_var (pv 3)) (pds_cons (pd_m (si := 0) m_multiplier (pv 0) cl hr (pds_cons (pd_var (pv 1)) (pds_cons (pd_add (pd_many (si := 0) (pv 0) cl.c cl.many) (pd_var (pv 2))) pds_nil))) pds_nil)))))))
end
end CD
end
section
set_option maxHeartbeats 4000000
namespace CD
open PySem PySem.Spec PyProof.Rows L2 DL
open GxR (TabB TabG Tabbed)
/-! ### Program(rows, goals) -/
theorem flds_mk (vm vs vr vb : V) : putF "basis" vb (putF "rows" vr (putF "signs" vs (putF "many" vm []))) = ([("many", vm), ("signs", vs), ("rows", vr), ("basis", vb)] : List (Str × V)) := by
  have h1 : ¬ (("many" : Str) = "signs") := by decide +kernel
  have h2 : ¬ (("many" : Str) = "rows") := by decide +kernel
  have h3 : ¬ (("many" : Str) = "basis") := by decide +kernel
  have h4 : ¬ (("signs" : Str) = "rows") := by decide +kernel
  have h5 : ¬ (("signs" : Str) = "basis") := by decide +kernel
  have h6 : ¬ (("rows" : Str) = "basis") := by decide +kernel
  simp only [putF, if_neg h1, if_neg h2, if_neg h3, if_neg h4, if_neg h5, if_neg h6]
def s_init : Stmt := by
  refine (fun (x : Stmt) (h : inClass (top 25) 0 = x) => x) ?x ?h
  case h =>
    conv => lhs; whnf
theorem sc_init : FnScope ["self", "rows", "goals", "goal", "j", "row", "helping", "k", "one"] ["self", "rows", "goals"] (defScope s_init) := ⟨rfl, rfl, rfl, by decide +kernel, rfl, by decide +kernel, by decide +kernel⟩
def I_many : En → Option PyData := (dFun fLen (bin2 dIx (dVar 1) (dC (.int 0))))
def I_signs : En → Option PyData := (dComp [3] (sSeq (dVar 2)) (.one 3) bYes (dIf (bOf (bin2 dLt (bin2 dIx (dVar 3) (dC (.int 0))) (dC (.int 0)))) (dTup (sCons (dNeg (dC (.int 1))) (sCons (dC (.int 1)) sNil))) (dTup (sCons (dC (.int 1)) (sCons (dC (.int 1)) sNil)))))
def I_loop : En → Option SR := (sForM (sEnum (dVar 1)) (.two 4 5) (sThen (sSet 6 (dComp [7] (sRng1 (dFun fLen (dVar 1))) (.one 7) bYes (dIf (bOf (bin2 dEq (dVar 7) (dVar 4))) (dTup (sCons (dC (.int 1)) (sCons (dC (.int 1)) sNil))) (dTup (sCons (dC (.int 0)) (sCons (dC (.int 1)) sNil))))))
  (sThen (sAppR 0 (bin2 dAdd (bin2 dAdd (dComp [8] (sSeq (dVar 5)) (.one 8) bYes (dCall F_by (sCons (dVar 8) (sCons (bin2 dIx (dSigns 0) (dVar 4)) sNil)))) (dVar 6)) (dLst (sCons (dCall F_by (sCons (bin2 dIx (dVar 2) (dVar 4)) (sCons (bin2 dIx (dSigns 0) (dVar 4)) sNil))) sNil))))
  (sAppB 0 (bin2 dAdd (dMany 0) (dVar 4))))))
def endI : SR → Option SelfD
  | .nx ρ => ρ.me
  | .rt _ _ => none
def F_init (ds : List PyData) : Option SelfD := if ds.length = 2 then (I_many (startE 9 none [none] ds)).bind fun a => (I_signs (startE 9 none [none] ds)).bind fun s => match s with
  | .list ss => (I_loop (startE 9 (some ⟨a, ss, [], [], true⟩) [none] ds)).bind endI
  | _ => none
  else none
def onlyA (p : Addr) : Av := fun a => decide (a = p)
def spInit (C : Addr) (T : List Addr) : Sp := fun vs H Q _ => ∃ S p dx vs' ds m, vs = .ref p :: vs' ∧ (∀ P ∈ T, TabG H P) ∧ SOk S H ∧ S p = true ∧ H p = some (.ins C dx []) ∧ DVs S H vs' ds ∧ F_init ds = some m ∧ m.w = true ∧
  ∀ H' S' ps pr pb, GrowM T (onlyA p) H H' → (∀ a, S a = true → S' a = true) → (∀ a, S' a = true → S a = true ∨ H a = none) → SOk S' H' → (∀ P ∈ T, TabG H' P) → H pr = none → H pb = none → SelfR C S' H' p ps pr pb m → Q .non H'
theorem EnR.updA {C : Addr} {T : List Addr} {S : Av} {H : Hp} {σ : List (Option V)} {sl : List (Option PyData)} {mi : Nat} {bs : Bool} {a : Addr} {o o' : HO} (E : EnR C T S H σ ⟨sl, none, mi, [], bs⟩) (ha : S a = true) (ho : H a = some o) (n : NT o) (n' : NT o') : EnR C T S (upd H a o') σ ⟨sl, none, mi, [], bs⟩ :=
  ⟨tabs_upd E.tabs ho n, E.sok.upd n', E.len, fun i d h => let ⟨v, h1, h2⟩ := E.sl i d h; ⟨v, h1, h2.updA ha⟩, fun m h => (by cases h), fun i ds h => (by cases h)⟩
theorem GrowM.upd2 {T : List Addr} {H H1 : Hp} {p : Addr} {o o' : HO} (g : GrowM T (onlyA p) H H1) (ho : H1 p = some o) (n : NT o) (n' : NT o') : GrowM T (onlyA p) H (upd H1 p o') := g.trans (GrowM.upd1 ho n n')
theorem DVs.keepN {S S' : Av} {H H' : Hp} {v : List V} {d : List PyData} (h : DVs S H v d) (k : ∀ a o, S a = false → H a = some o → NT o → S' a = false ∧ H' a = some o) : DVs S' H' v d := h.mono k
section
variable {P : Program} {w : World} {K : PySem.W.Frag} {mg : Str → Option Value} {base : Heap} {C : Addr} {T : List Addr} {f : Addr} {fd : FuncData} {cdv : Value}
theorem ok_init (b : Blt mg) (cl : ClsT K C) (c_by : CalD P w K mg base T 2 "by" F_by) (Fc : FC K "__init__" "Program.__init__" s_init f fd cdv) : FnOk P w K mg base CX0 3 f fd ["self", "rows", "goals"] (spInit C T) := by
  obtain ⟨oc, od, kV, doc, pm, an, ct, osl, rfl, lk, hcd⟩ := Fc.ex
  refine fn_of lk hcd sc_init (fun vs H Q E h => ?_) fun A outer s H vs Q E hr hsp => ⟨_, PSs.nox (pss_cons (ps_fld (pv 0) (pd_len (C := C) (T := T) (f := bin2 dIx (dVar 1) (dC (.int 0))) (by rfl) b.len (pd_ix (pd_var (pv 1)) pd_int (fun _ _ => rfl))) rfl)
    (pss_cons (ps_fld (pv 0) (show PD _ C T _ I_signs from (pd_lc (own := [("goal", 3)]) (tgt := (.one 3)) (by rfl) sc_init.nd (pit_seq (pd_var (pv 2))) (blkOk_by (by kernel_rfl)) (fun _ _ _ _ _ => pgt_one (i := 3) sc_init.nd rfl (Or.inl rfl)) (fun _ _ _ _ _ => pts_no) (fun _ _ _ _ _ => (pd_if (pt_lt (pd_ix (pd_var (pv 3)) pd_int (fun _ _ => rfl)) pd_int) (pd_tup (pds_cons (pd_neg pd_int) (pds_cons pd_int pds_nil))) (pd_tup (pds_cons pd_int (pds_cons pd_int pds_nil))))))) rfl)
    (pss_cons (ps_fld (pv 0) (pe_lst pa_nil) rfl)
    (pss_cons (ps_fld (pv 0) (pe_lst pa_nil) rfl)
    (pss_one (show PSD _ C T _ I_loop from (psd_forM (tgt := (.two 4 5)) PassesOwn.never (by rfl) (pit_enum (by rfl) b.enumerate (pd_var (pv 1))) (pgt_two (i := 4) (j := 5) (by rfl) sc_init.nd rfl rfl (Or.inr rfl) (Or.inl rfl)) (psds_cons (psd_setLc (i := 6) (own := [("k", 7)]) (tgt := (.one 7)) (by rfl) sc_init.nd rfl rfl (sw_true rfl rfl rfl (by kernel_rfl)) (pit_rng1 (by rfl) b.range (pd_len (by rfl) b.len (pd_var (pv 1)))) (blkOk_by (by kernel_rfl)) (fun _ _ _ _ _ => pgt_one (i := 7) sc_init.nd rfl (Or.inl rfl)) (fun _ _ _ _ _ => pts_no) (fun _ _ _ _ _ => (pd_if (pt_eq hr (pd_var (pv 7)) (pd_var (pv 4))) (pd_tup (pds_cons pd_int (pds_cons pd_int pds_nil))) (pd_tup (pds_cons pd_int (pds_cons pd_int pds_nil))))))
      (psds_cons (psd_appR (si := 0) (pv 0) cl.c cl.rows (pd_add (pd_add (pd_lc (own := [("one", 8)]) (tgt := (.one 8)) (by rfl) sc_init.nd (pit_seq (pd_var (pv 5))) (blkOk_by (by kernel_rfl)) (fun _ _ _ _ _ => pgt_one (i := 8) sc_init.nd rfl (Or.inl rfl)) (fun _ _ _ _ _ => pts_no) (fun _ _ _ _ _ => (pd_c c_by hr (by rfl) (pds_cons (pd_var (pv 8)) (pds_cons (pd_ix (pd_signs (si := 0) (pv 0) cl.c cl.signs) (pd_var (pv 4)) (fun _ _ => rfl)) pds_nil))))) (pd_var (pv 6))) (pd_lst (pds_cons (pd_c c_by hr (by rfl) (pds_cons (pd_ix (pd_var (pv 2)) (pd_var (pv 4)) (fun _ _ => rfl)) (pds_cons (pd_ix (pd_signs (si := 0) (pv 0) cl.c cl.signs) (pd_var (pv 4)) (fun _ _ => rfl)) pds_nil))) pds_nil))))
      (psds_one (psd_appB (si := 0) (pv 0) cl.c cl.basis (pd_add (pd_many (si := 0) (pv 0) cl.c cl.many) (pd_var (pv 4)))))))))))))), ?_⟩
  · obtain ⟨S, p, dx, vs', ds, m, rfl, _, _, _, _, dv, e, _⟩ := h
    unfold F_init at e
    split at e
    · rename_i h2
      rw [List.length_cons, dv.length, h2]
      rfl
    · cases e
  · obtain ⟨S, p, dx, vs', ds, m, rfl, ht, so, hS, hp, dv, e, hw, q⟩ := hsp
    unfold F_init at e
    split at e
    case isFalse => cases e
    obtain ⟨a, e1, e⟩ := Option.bind_eq_some_iff.mp e
    obtain ⟨sg, e2, e⟩ := Option.bind_eq_some_iff.mp e
    cases sg <;> try (cases e; done)
    rename_i ss
    obtain ⟨r, e3, e4⟩ := Option.bind_eq_some_iff.mp (e : (I_loop (startE 9 (some ⟨a, ss, [], [], true⟩) [none] ds)).bind endI = some m)
    have E0 : EnR C T S H (L2.start ["self", "rows", "goals", "goal", "j", "row", "helping", "k", "one"] (.ref p :: vs')) (startE 9 none [none] ds) := ⟨ht, so, startM_len (N := ["self", "rows", "goals", "goal", "j", "row", "helping", "k", "one"]) dv, fun i d h => startM_get (N := ["self", "rows", "goals", "goal", "j", "row", "helping", "k", "one"]) dv h, fun m h => (by cases h), fun i ds h => (by cases h)⟩
    -- self.many
    refine ⟨S, _, _, E0, e1, fun v1 H1 g1 dv1 => ⟨.ref p, rfl, p, C, dx, [], rfl, g1.keep _ _ hp nt_ins, cl.c, cl.many, (by decide : (0 : Nat) < 1000), ?_⟩⟩
    have p1 := g1.keep _ _ hp nt_ins
    have gm1 : GrowM T (onlyA p) H (upd H1 p (.ins C dx (putF "many" v1 []))) := GrowM.upd2 g1.gm p1 nt_ins nt_ins
    have E1 := EnR.updA (E0.grow g1) hS p1 nt_ins (o' := .ins C dx (putF "many" v1 [])) nt_ins
    have d1 := dv1.updA (o := .ins C dx (putF "many" v1 [])) hS
    -- self.signs
    refine ⟨S, _, _, E1, e2, fun v2 H2 g2 dv2 => ⟨.ref p, rfl, p, C, dx, _, rfl, g2.keep _ _ upd_same nt_ins, cl.c, cl.signs, (by decide : (1 : Nat) < 1000), ?_⟩⟩
    have p2 := g2.keep _ _ upd_same (nt_ins (C := C) (dx := dx) (fs := putF "many" v1 []))
    have gm2 : GrowM T (onlyA p) H (upd H2 p (.ins C dx (putF "signs" v2 (putF "many" v1 [])))) := GrowM.upd2 (gm1.trans g2.gm) p2 nt_ins nt_ins
    have E2 := EnR.updA (E1.grow g2) hS p2 nt_ins (o' := .ins C dx (putF "signs" v2 (putF "many" v1 []))) nt_ins
    have d1 := (d1.grow g2).updA (o := .ins C dx (putF "signs" v2 (putF "many" v1 []))) hS
    have d2 := dv2.updA (o := .ins C dx (putF "signs" v2 (putF "many" v1 []))) hS
    obtain ⟨ps, rfl⟩ : ∃ ps, v2 = .ref ps := by
      cases dv2
      exact ⟨_, rfl⟩
    -- self.rows
    refine ⟨Nat.zero_le _, fun pr hpr => ?_⟩
    have npr : p ≠ pr := ne_of_none upd_same hpr
    refine ⟨.ref p, rfl, p, C, dx, _, rfl, (by rw [upd_ne npr]; exact upd_same), cl.c, cl.rows, (by show 2 < 1000; decide), ?_⟩
    have g3 : Grow T _ (upd (upd H2 p (.ins C dx (putF "signs" (.ref ps) (putF "many" v1 [])))) pr (.lst [])) := Grow.new hpr
    have p3 := g3.keep _ _ upd_same (nt_ins (C := C) (dx := dx) (fs := putF "signs" (.ref ps) (putF "many" v1 [])))
    have E3 := EnR.updA (E2.grow g3) hS p3 nt_ins (o' := .ins C dx (putF "rows" (.ref pr) (putF "signs" (.ref ps) (putF "many" v1 [])))) nt_ins
    have ga3 := GrowM.upd2 (o' := .ins C dx (putF "rows" (.ref pr) (putF "signs" (.ref ps) (putF "many" v1 [])))) (g3.gm (Z := onlyA p)) p3 nt_ins nt_ins
    -- self.basis
    refine ⟨Nat.zero_le _, fun pb hpb => ?_⟩
    have npb : p ≠ pb := ne_of_none upd_same hpb
    have nrb : pr ≠ pb := ne_of_none (by rw [upd_ne npr.symm]; exact upd_same) hpb
    refine ⟨.ref p, rfl, p, C, dx, _, rfl, (by rw [upd_ne npb]; exact upd_same), cl.c, cl.basis, (by show 3 < 1000; decide), ?_⟩
    generalize hHa : upd H2 p (.ins C dx (putF "signs" (.ref ps) (putF "many" v1 []))) = Ha at *
    generalize hH4 : upd (upd Ha pr (.lst [])) p (.ins C dx (putF "rows" (.ref pr) (putF "signs" (.ref ps) (putF "many" v1 [])))) = H4 at E3 ga3 hpb
    have q4 : H4 pr = some (.lst []) := by rw [← hH4, upd_ne npr.symm]; exact upd_same
    have q4p : H4 p = some (.ins C dx (putF "rows" (.ref pr) (putF "signs" (.ref ps) (putF "many" v1 [])))) := by rw [← hH4]; exact upd_same
    have g4 : Grow T H4 (upd H4 pb (.lst [])) := Grow.new hpb
    have p4 := g4.keep _ _ q4p nt_ins
    have E4 := EnR.updA (E3.grow g4) hS p4 nt_ins (o' := .ins C dx (putF "basis" (.ref pb) (putF "rows" (.ref pr) (putF "signs" (.ref ps) (putF "many" v1 []))))) nt_ins
    have ga4 := GrowM.upd2 (o' := .ins C dx (putF "basis" (.ref pb) (putF "rows" (.ref pr) (putF "signs" (.ref ps) (putF "many" v1 []))))) (ga3.trans g4.gm) p4 nt_ins nt_ins
    generalize hH5 : upd (upd H4 pb (.lst [])) p (.ins C dx (putF "basis" (.ref pb) (putF "rows" (.ref pr) (putF "signs" (.ref ps) (putF "many" v1 []))))) = H5 at E4 ga4
    have q5p : H5 p = some (.ins C dx (flds v1 ps pr pb)) := by rw [← hH5, flds_mk]; exact upd_same
    have q5b : H5 pb = some (.lst []) := by rw [← hH5, upd_ne npb.symm]; exact upd_same
    have q5r : H5 pr = some (.lst []) := by rw [← hH5, upd_ne npr.symm, upd_ne nrb]; exact q4
    -- the loop
    have gm4 : GrowM T (onlyA p) H H5 := gm2.trans ga4
    have napr : Ha pr = none := hpr
    have napb : Ha pb = none := ga3.dom pb hpb
    have hnpr : H pr = none := gm2.dom pr napr
    have hnpb : H pb = none := gm2.dom pb napb
    have so5 : SOk ((S.add pr).add pb) H5 := (E4.sok.add q5r nt_lst).add q5b nt_lst
    have nep : ∀ {b : Addr}, S b = false → onlyA p b = false := fun {b} hs => decide_eq_false fun z => by
      rw [z, hS] at hs
      cases hs
    have S5f : ∀ {b : Addr} {o : HO}, S b = false → Ha b = some o → ((S.add pr).add pb) b = false := fun {b o} hs ho => Av.add_ne (Av.add_ne hs (ne_of_none ho napr)) (ne_of_none ho napb)
    have mk : ∀ {v d}, DV S Ha v d → DV ((S.add pr).add pb) H5 v d := fun h => h.mono fun b o hs e n => ⟨S5f hs e, ga4.keep b o (nep hs) e n⟩
    have dv5 : DVs ((S.add pr).add pb) H5 vs' ds := dv.mono fun b o hs e n => by
      have ea := gm2.keep b o (nep hs) e n
      exact ⟨S5f hs ea, ga4.keep b o (nep hs) ea n⟩
    refine ⟨⟨S, onlyA p, H, some ⟨p, ps, pr, pb⟩⟩, _, r, ⟨(S.add pr).add pb, ⟨p, ps, pr, pb⟩, fun _ => 0, E4.tabs, so5, startM_len (N := ["self", "rows", "goals", "goal", "j", "row", "helping", "k", "one"]) dv5, fun i d h => startM_get (N := ["self", "rows", "goals", "goal", "j", "row", "helping", "k", "one"]) dv5 h, fun m0 h => ?_, fun i ds h => (by cases h), fun i j ds es _ h => (by cases h), fun a h => Av.add_of (Av.add_of h), fun a h => ?_, so, gm4, fun q h => (by cases h; rfl)⟩, e3, fun ρ' h σ' H' E' => ?_, fun ρ' d' h v σ' H' E' dv' => ?_⟩
    · have h : some (⟨a, ss, [], [], true⟩ : SelfD) = some m0 := h
      cases h
      refine ⟨rfl, ⟨⟨v1, dx, q5p, mk d1⟩, mk d2, ⟨[], q5r, .nil⟩, ⟨[], q5b, .nil⟩, ⟨Av.add_of Av.add_self, Av.add_self, Av.add_of (Av.add_of hS)⟩, nrb⟩, fun _ => ⟨.inr hnpr, .inr hnpb⟩⟩
    · by_cases h1 : a = pr
      · rw [h1]; exact .inr hnpr
      · by_cases h2 : a = pb
        · rw [h2]; exact .inr hnpb
        · refine .inl ?_
          unfold Av.add at h
          rw [decide_eq_false h1, decide_eq_false h2, Bool.or_false, Bool.or_false] at h
          exact h
    · subst h
      obtain ⟨S2, pm2, oa2, c2⟩ := E'
      have := c2.slf _ rfl
      subst this
      obtain ⟨k1, k2, _⟩ := c2.me m e4
      exact q H' S2 ps pr pb c2.gr c2.sub c2.new c2.sok c2.tabs hnpr hnpb k2
    · subst h
      cases e4
end
end CD
end
section
set_option maxHeartbeats 4000000
namespace CD
open PySem PySem.Spec PyProof.Rows L2 DL
open GxR (TabB TabG Tabbed)
section
variable {P : Program} {w : World} {K : PySem.W.Frag} {mg : Str → Option Value} {base : Heap} {C : Addr} {T : List Addr} {f : Addr} {fd : FuncData} {cdv : Value}
def s_need_gains : Stmt := by
  refine (fun (x : Stmt) (h : top 29 = x) => x) ?x ?h
  case h =>
    conv => lhs; whnf
def B_need_gains : En → Option SR := (sThen (sExp (dCall F_need_chart (sCons (dVar 0) sNil)))
  (sIf (bOr (bNot (bOf (dIsi "tuple" (dVar 1)))) (bOr (bOf (bin2 dNe (dFun fLen (dVar 1)) (dFun fLen (dVar 0)))) (bNot (bOf (dAll 2 (sSeq (dVar 1)) (dCall F_is_in (sCons (dVar 2) (sCons (dC (.int 0)) (sCons (dC (.int 1000)) sNil))))))))) (fun _ => none) sSkip))
def F_need_gains : List PyData → Option PyData := runD 2 3 B_need_gains
theorem sc_need_gains : FnScope ["chart", "gains", "one"] ["chart", "gains"] (defScope s_need_gains) := ⟨rfl, rfl, rfl, by decide +kernel, rfl, by decide +kernel, by decide +kernel⟩
theorem ok_need_gains (b : Blt mg) {c Pt : Addr} (TB : TabB base mg c Pt) (hP : Pt ∈ T) (c_need_chart : CalD P w K mg base T 6 "need_chart" F_need_chart) (c_is_in : CalD P w K mg base T 1 "is_in" F_is_in) (D : DefC K mg "need_gains" s_need_gains f fd (.ref c) ["chart", "gains"]) : CalD P w K mg base T 7 "need_gains" F_need_gains :=
  cal_mk (C := 0) (F := B_need_gains) (np := 2) (nN := 3) (by rw [F_need_gains]) D sc_need_gains rfl rfl fun A outer s H E hr => by
    unfold B_need_gains
    exact (psds_cons (psd_exp (pd_c c_need_chart hr (by rfl) (pds_cons (pd_var (pv 0)) pds_nil)))
    (psds_one (psd_if (ptb_of (pwb_or (ptb_not (pdb_val (pd_isi tyOk_tuple (by rfl) b.isinstance (by rfl) b.tuple (pd_var (pv 1))))) (pwb_or (pt_ne hr (pd_len (by rfl) b.len (pd_var (pv 1))) (pd_len (by rfl) b.len (pd_var (pv 0)))) (pwb_or1 (ptb_not (pdb_val (pd_all (k := 1) (ix := 2) hP (hr.mono (by decide)) (by rfl) b.all TB rfl (by rfl) sc_need_gains.nd (pit_seq (pd_var (pv 1))) (blkOk_by (by kernel_rfl)) (WG.gscp_by (by kernel_rfl)) (fun A2 _ _ _ _ _ _ _ hr2 => (pd_c c_is_in hr2 (by rfl) (pds_cons (pd_var (pv 2)) (pds_cons pd_int (pds_cons (pd_glob (by rfl) b.gain) pds_nil)))))))))))) (psds_one psd_never) psds_nil)))
def s_is_party : Stmt := by
  refine (fun (x : Stmt) (h : top 30 = x) => x) ?x ?h
  case h =>
    conv => lhs; whnf
def B_is_party : En → Option SR := (sRet (vNot (dAny 2 (sSeq (dVar 1)) (bin2 dIn (bin2 dIx (dVar 0) (bin2 dSub (dVar 2) (dC (.int 1)))) (dVar 1)))))
def F_is_party : List PyData → Option PyData := runD 2 3 B_is_party
theorem sc_is_party : FnScope ["chart", "lot", "one"] ["chart", "lot"] (defScope s_is_party) := ⟨rfl, rfl, rfl, by decide +kernel, rfl, by decide +kernel, by decide +kernel⟩
theorem ok_is_party (b : Blt mg) {c Pt : Addr} (TB : TabB base mg c Pt) (hP : Pt ∈ T) (D : DefC K mg "is_party" s_is_party f fd (.ref c) ["chart", "lot"]) : CalD P w K mg base T 4 "is_party" F_is_party :=
  cal_mk (C := 0) (F := B_is_party) (np := 2) (nN := 3) (by rw [F_is_party]) D sc_is_party rfl rfl fun A outer s H E hr => by
    unfold B_is_party
    exact (psds_one (psd_ret (pd_not (pd_any (k := 0) (ix := 2) hP (hr.mono (by decide)) (by rfl) b.any TB rfl (by rfl) sc_is_party.nd (pit_seq (pd_var (pv 1))) (blkOk_by (by kernel_rfl)) (WG.gscp_by (by kernel_rfl)) (fun A2 _ _ _ _ _ _ _ hr2 => (pd_in hr2 (pd_ix (pd_var (pv 0)) (pd_sub (pd_var (pv 2)) pd_int) (fun _ _ => rfl)) (pd_var (pv 1))))))))
def s_gain_of : Stmt := by
  refine (fun (x : Stmt) (h : top 31 = x) => x) ?x ?h
  case h =>
    conv => lhs; whnf
def B_gain_of : En → Option SR := (sRet (dSumG 2 (sSeq (dVar 1)) (bin2 dIx (dVar 0) (bin2 dSub (dVar 2) (dC (.int 1))))))
def F_gain_of : List PyData → Option PyData := runD 2 3 B_gain_of
theorem sc_gain_of : FnScope ["gains", "lot", "one"] ["gains", "lot"] (defScope s_gain_of) := ⟨rfl, rfl, rfl, by decide +kernel, rfl, by decide +kernel, by decide +kernel⟩
theorem ok_gain_of (b : Blt mg) {c Pt : Addr} (TB : TabB base mg c Pt) (hP : Pt ∈ T) (D : DefC K mg "gain_of" s_gain_of f fd (.ref c) ["gains", "lot"]) : CalD P w K mg base T 4 "gain_of" F_gain_of :=
  cal_mk (C := 0) (F := B_gain_of) (np := 2) (nN := 3) (by rw [F_gain_of]) D sc_gain_of rfl rfl fun A outer s H E hr => by
    unfold B_gain_of
    exact (psds_one (psd_ret (pd_sumG (k := 0) (ix := 2) hP (hr.mono (by decide)) (by rfl) b.sum TB rfl (by rfl) sc_gain_of.nd (pit_seq (pd_var (pv 1))) (blkOk_by (by kernel_rfl)) (WG.gscp_by (by kernel_rfl)) (fun A2 _ _ _ _ _ _ _ hr2 => (pd_ix (pd_var (pv 0)) (pd_sub (pd_var (pv 2)) pd_int) (fun _ _ => rfl))))))
def s_best_of : Stmt := by
  refine (fun (x : Stmt) (h : top 32 = x) => x) ?x ?h
  case h =>
    conv => lhs; whnf
def B_best_of : En → Option SR := (sRet (dFun fMaxP (dComp [2] (sSeq (dCall F_lots_of (sCons (dFun fLen (dVar 0)) sNil))) (.one 2) (bOf (dCall F_is_party (sCons (dVar 0) (sCons (dVar 2) sNil)))) (dTup (sCons (dCall F_gain_of (sCons (dVar 1) (sCons (dVar 2) sNil))) (sCons (dVar 2) sNil))))))
def F_best_of : List PyData → Option PyData := runD 2 3 B_best_of
theorem sc_best_of : FnScope ["chart", "gains", "lot"] ["chart", "gains"] (defScope s_best_of) := ⟨rfl, rfl, rfl, by decide +kernel, rfl, by decide +kernel, by decide +kernel⟩
theorem ok_best_of (b : Blt mg) (c_lots_of : CalD P w K mg base T 1 "lots_of" F_lots_of) (c_gain_of : CalD P w K mg base T 4 "gain_of" F_gain_of) (c_is_party : CalD P w K mg base T 4 "is_party" F_is_party) (D : DefC K mg "best_of" s_best_of f fd cdv ["chart", "gains"]) : CalD P w K mg base T 5 "best_of" F_best_of :=
  cal_mk (C := 0) (F := B_best_of) (np := 2) (nN := 3) (by rw [F_best_of]) D sc_best_of rfl rfl fun A outer s H E hr => by
    unfold B_best_of
    exact (psds_one (psd_ret (pd_maxP hr (by rfl) (by rfl) b.max (pd_lc (own := [("lot", 2)]) (tgt := (.one 2)) (by rfl) sc_best_of.nd (pit_seq (pd_c c_lots_of hr (by rfl) (pds_cons (pd_len (by rfl) b.len (pd_var (pv 0))) pds_nil))) (blkOk_by (by kernel_rfl)) (fun _ _ _ _ _ => pgt_one (i := 2) sc_best_of.nd rfl (Or.inl rfl)) (fun _ _ _ _ _ => pts_one (pdb_val (pd_c c_is_party hr (by rfl) (pds_cons (pd_var (pv 0)) (pds_cons (pd_var (pv 2)) pds_nil))))) (fun _ _ _ _ _ => (pd_tup (pds_cons (pd_c c_gain_of hr (by rfl) (pds_cons (pd_var (pv 1)) (pds_cons (pd_var (pv 2)) pds_nil))) (pds_cons (pd_var (pv 2)) pds_nil))))))))
def s_best_party : Stmt := by
  refine (fun (x : Stmt) (h : top 33 = x) => x) ?x ?h
  case h =>
    conv => lhs; whnf
def B_best_party : En → Option SR := (sThen (sExp (dCall F_need_gains (sCons (dVar 0) (sCons (dVar 1) sNil))))
  (sRet (dCall F_best_of (sCons (dVar 0) (sCons (dVar 1) sNil)))))
def F_best_party : List PyData → Option PyData := runD 2 2 B_best_party
theorem sc_best_party : FnScope ["chart", "gains"] ["chart", "gains"] (defScope s_best_party) := ⟨rfl, rfl, rfl, by decide +kernel, rfl, by decide +kernel, by decide +kernel⟩
theorem ok_best_party (b : Blt mg) (c_need_gains : CalD P w K mg base T 7 "need_gains" F_need_gains) (c_best_of : CalD P w K mg base T 5 "best_of" F_best_of) (D : DefC K mg "best_party" s_best_party f fd cdv ["chart", "gains"]) : CalD P w K mg base T 8 "best_party" F_best_party :=
  cal_mk (C := 0) (F := B_best_party) (np := 2) (nN := 2) (by rw [F_best_party]) D sc_best_party rfl rfl fun A outer s H E hr => by
    unfold B_best_party
    exact (psds_cons (psd_exp (pd_c c_need_gains hr (by rfl) (pds_cons (pd_var (pv 0)) (pds_cons (pd_var (pv 1)) pds_nil))))
    (psds_one (psd_ret (pd_c c_best_of hr (by rfl) (pds_cons (pd_var (pv 0)) (pds_cons (pd_var (pv 1)) pds_nil))))))
def s_shows_best_party : Stmt := by
  refine (fun (x : Stmt) (h : top 34 = x) => x) ?x ?h
  case h =>
    conv => lhs; whnf
def B_shows_best_party : En → Option SR := (sThen (sExp (dCall F_need_gains (sCons (dVar 0) (sCons (dVar 1) sNil))))
  (sThen (sSet 3 (bin2 dIx (dCall F_best_of (sCons (dVar 0) (sCons (dVar 1) sNil))) (dC (.int 0))))
  (sThen (sIf (bOr (bNot (bOf (dIsi "tuple" (dVar 2)))) (bOr (bOf (bin2 dNe (dFun fLen (dVar 2)) (dC (.int 2)))) (bNot (bOf (dCall F_is_in (sCons (bin2 dIx (dVar 2) (dC (.int 0))) (sCons (dVar 3) (sCons (dVar 3) sNil)))))))) (sRet (dC (.bool false))) sSkip)
  (sThen (sIf (bOr (bNot (bOf (dCall F_are_people (sCons (dFun fLen (dVar 0)) (sCons (bin2 dIx (dVar 2) (dC (.int 1))) sNil))))) (bNot (bOf (dCall F_is_party (sCons (dVar 0) (sCons (bin2 dIx (dVar 2) (dC (.int 1))) sNil)))))) (sRet (dC (.bool false))) sSkip)
  (sRet (bin2 dEq (dCall F_gain_of (sCons (dVar 1) (sCons (bin2 dIx (dVar 2) (dC (.int 1))) sNil))) (dVar 3)))))))
def F_shows_best_party : List PyData → Option PyData := runD 3 4 B_shows_best_party
theorem sc_shows_best_party : FnScope ["chart", "gains", "value", "best"] ["chart", "gains", "value"] (defScope s_shows_best_party) := ⟨rfl, rfl, rfl, by decide +kernel, rfl, by decide +kernel, by decide +kernel⟩
theorem ok_shows_best_party (b : Blt mg) (c_need_gains : CalD P w K mg base T 7 "need_gains" F_need_gains) (c_best_of : CalD P w K mg base T 5 "best_of" F_best_of) (c_is_in : CalD P w K mg base T 1 "is_in" F_is_in) (c_are_people : CalD P w K mg base T 5 "are_people" F_are_people) (c_is_party : CalD P w K mg base T 4 "is_party" F_is_party) (c_gain_of : CalD P w K mg base T 4 "gain_of" F_gain_of) (D : DefC K mg "shows_best_party" s_shows_best_party f fd cdv ["chart", "gains", "value"]) : CalD P w K mg base T 8 "shows_best_party" F_shows_best_party :=
  cal_mk (C := 0) (F := B_shows_best_party) (np := 3) (nN := 4) (by rw [F_shows_best_party]) D sc_shows_best_party rfl rfl fun A outer s H E hr => by
    unfold B_shows_best_party
    exact (psds_cons (psd_exp (pd_c c_need_gains hr (by rfl) (pds_cons (pd_var (pv 0)) (pds_cons (pd_var (pv 1)) pds_nil))))
    (psds_cons (psd_set (i := 3) sc_shows_best_party.nd rfl (Or.inl rfl) (pd_ix (pd_c c_best_of hr (by rfl) (pds_cons (pd_var (pv 0)) (pds_cons (pd_var (pv 1)) pds_nil))) pd_int (fun _ _ => rfl)))
    (psds_cons (psd_if (ptb_of (pwb_or (ptb_not (pdb_val (pd_isi tyOk_tuple (by rfl) b.isinstance (by rfl) b.tuple (pd_var (pv 2))))) (pwb_or (pt_ne hr (pd_len (by rfl) b.len (pd_var (pv 2))) pd_int) (pwb_or1 (ptb_not (pdb_val (pd_c c_is_in hr (by rfl) (pds_cons (pd_ix (pd_var (pv 2)) pd_int (fun _ _ => rfl)) (pds_cons (pd_var (pv 3)) (pds_cons (pd_var (pv 3)) pds_nil)))))))))) (psds_one (psd_ret pd_bl)) psds_nil)
    (psds_cons (psd_if (ptb_of (pwb_or (ptb_not (pdb_val (pd_c c_are_people hr (by rfl) (pds_cons (pd_len (by rfl) b.len (pd_var (pv 0))) (pds_cons (pd_ix (pd_var (pv 2)) pd_int (fun _ _ => rfl)) pds_nil))))) (pwb_or1 (ptb_not (pdb_val (pd_c c_is_party hr (by rfl) (pds_cons (pd_var (pv 0)) (pds_cons (pd_ix (pd_var (pv 2)) pd_int (fun _ _ => rfl)) pds_nil)))))))) (psds_one (psd_ret pd_bl)) psds_nil)
    (psds_one (psd_ret (pd_eq hr (pd_c c_gain_of hr (by rfl) (pds_cons (pd_var (pv 1)) (pds_cons (pd_ix (pd_var (pv 2)) pd_int (fun _ _ => rfl)) pds_nil))) (pd_var (pv 3)))))))))
def s_party_count : Stmt := by
  refine (fun (x : Stmt) (h : top 35 = x) => x) ?x ?h
  case h =>
    conv => lhs; whnf
def B_party_count : En → Option SR := (sThen (sExp (dCall F_need_chart (sCons (dVar 0) sNil)))
  (sRet (dFun fLen (dComp [1] (sSeq (dCall F_lots_of (sCons (dFun fLen (dVar 0)) sNil))) (.one 1) (bOf (dCall F_is_party (sCons (dVar 0) (sCons (dVar 1) sNil)))) (dC (.int 1))))))
def F_party_count : List PyData → Option PyData := runD 1 2 B_party_count
theorem sc_party_count : FnScope ["chart", "lot"] ["chart"] (defScope s_party_count) := ⟨rfl, rfl, rfl, by decide +kernel, rfl, by decide +kernel, by decide +kernel⟩
theorem ok_party_count (b : Blt mg) (c_need_chart : CalD P w K mg base T 6 "need_chart" F_need_chart) (c_lots_of : CalD P w K mg base T 1 "lots_of" F_lots_of) (c_is_party : CalD P w K mg base T 4 "is_party" F_is_party) (D : DefC K mg "party_count" s_party_count f fd cdv ["chart"]) : CalD P w K mg base T 7 "party_count" F_party_count :=
  cal_mk (C := 0) (F := B_party_count) (np := 1) (nN := 2) (by rw [F_party_count]) D sc_party_count rfl rfl fun A outer s H E hr => by
    unfold B_party_count
    exact (psds_cons (psd_exp (pd_c c_need_chart hr (by rfl) (pds_cons (pd_var (pv 0)) pds_nil)))
    (psds_one (psd_ret (pd_len (by rfl) b.len (pd_lc (own := [("lot", 1)]) (tgt := (.one 1)) (by rfl) sc_party_count.nd (pit_seq (pd_c c_lots_of hr (by rfl) (pds_cons (pd_len (by rfl) b.len (pd_var (pv 0))) pds_nil))) (blkOk_by (by kernel_rfl)) (fun _ _ _ _ _ => pgt_one (i := 1) sc_party_count.nd rfl (Or.inl rfl)) (fun _ _ _ _ _ => pts_one (pdb_val (pd_c c_is_party hr (by rfl) (pds_cons (pd_var (pv 0)) (pds_cons (pd_var (pv 1)) pds_nil))))) (fun _ _ _ _ _ => pd_int))))))
def s_with_chiefs : Stmt := by
  refine (fun (x : Stmt) (h : top 36 = x) => x) ?x ?h
  case h =>
    conv => lhs; whnf
def B_with_chiefs : En → Option SR := (sRet (dComp [1] (sRng2 (dC (.int 1)) (bin2 dAdd (dFun fLen (dVar 0)) (dC (.int 1)))) (.one 1) (bOf (bin2 dNe (bin2 dIx (dVar 0) (bin2 dSub (dVar 1) (dC (.int 1)))) (dC (.int 0)))) (dVar 1)))
def F_with_chiefs : List PyData → Option PyData := runD 1 2 B_with_chiefs
theorem sc_with_chiefs : FnScope ["chart", "one"] ["chart"] (defScope s_with_chiefs) := ⟨rfl, rfl, rfl, by decide +kernel, rfl, by decide +kernel, by decide +kernel⟩
theorem ok_with_chiefs (b : Blt mg) (D : DefC K mg "with_chiefs" s_with_chiefs f fd cdv ["chart"]) : CalD P w K mg base T 1 "with_chiefs" F_with_chiefs :=
  cal_mk (C := 0) (F := B_with_chiefs) (np := 1) (nN := 2) (by rw [F_with_chiefs]) D sc_with_chiefs rfl rfl fun A outer s H E hr => by
    unfold B_with_chiefs
    exact (psds_one (psd_ret (pd_lc (own := [("one", 1)]) (tgt := (.one 1)) (by rfl) sc_with_chiefs.nd (pit_rng2 (by rfl) b.range pd_int (pd_add (pd_len (by rfl) b.len (pd_var (pv 0))) pd_int)) (blkOk_by (by kernel_rfl)) (fun _ _ _ _ _ => pgt_one (i := 1) sc_with_chiefs.nd rfl (Or.inl rfl)) (fun _ _ _ _ _ => pts_one (pt_ne hr (pd_ix (pd_var (pv 0)) (pd_sub (pd_var (pv 1)) pd_int) (fun _ _ => rfl)) pd_int)) (fun _ _ _ _ _ => (pd_var (pv 1))))))
def s_are_numbers : Stmt := by
  refine (fun (x : Stmt) (h : top 38 = x) => x) ?x ?h
  case h =>
    conv => lhs; whnf
def B_are_numbers : En → Option SR := (sRet (vAnd (dIsi "tuple" (dVar 1)) (vAnd (bin2 dEq (dFun fLen (dVar 1)) (dVar 0)) (dAll 2 (sSeq (dVar 1)) (vAnd (dCall F_is_ratio (sCons (dVar 2) sNil)) (bin2 dGe (bin2 dIx (dVar 2) (dC (.int 0))) (dC (.int 0))))))))
def F_are_numbers : List PyData → Option PyData := runD 2 3 B_are_numbers
theorem sc_are_numbers : FnScope ["many", "value", "one"] ["many", "value"] (defScope s_are_numbers) := ⟨rfl, rfl, rfl, by decide +kernel, rfl, by decide +kernel, by decide +kernel⟩
theorem ok_are_numbers (b : Blt mg) {c Pt : Addr} (TB : TabB base mg c Pt) (hP : Pt ∈ T) (c_is_ratio : CalD P w K mg base T 4 "is_ratio" F_is_ratio) (D : DefC K mg "are_numbers" s_are_numbers f fd (.ref c) ["many", "value"]) : CalD P w K mg base T 8 "are_numbers" F_are_numbers :=
  cal_mk (C := 0) (F := B_are_numbers) (np := 2) (nN := 3) (by rw [F_are_numbers]) D sc_are_numbers rfl rfl fun A outer s H E hr => by
    unfold B_are_numbers
    exact (psds_one (psd_ret (pd_and (pd_isi tyOk_tuple (by rfl) b.isinstance (by rfl) b.tuple (pd_var (pv 1))) (pd_and (pd_eq hr (pd_len (by rfl) b.len (pd_var (pv 1))) (pd_var (pv 0))) (pd_one (pd_all (k := 4) (ix := 2) hP (hr.mono (by decide)) (by rfl) b.all TB rfl (by rfl) sc_are_numbers.nd (pit_seq (pd_var (pv 1))) (blkOk_by (by kernel_rfl)) (WG.gscp_by (by kernel_rfl)) (fun A2 _ _ _ _ _ _ _ hr2 => (pd_and (pd_c c_is_ratio hr2 (by rfl) (pds_cons (pd_var (pv 2)) pds_nil)) (pd_one (pd_ge (pd_ix (pd_var (pv 2)) pd_int (fun _ _ => rfl)) pd_int))))))))))
def s_shows_party_paper : Stmt := by
  refine (fun (x : Stmt) (h : top 39 = x) => x) ?x ?h
  case h =>
    conv => lhs; whnf
def B_shows_party_paper : En → Option SR := (sThen (sExp (dCall F_need_gains (sCons (dVar 0) (sCons (dVar 1) sNil))))
  (sThen (sSet 3 (dCall F_with_chiefs (sCons (dVar 0) sNil)))
  (sThen (sIf (bOr (bNot (bOf (dIsi "tuple" (dVar 2)))) (bOf (bin2 dNe (dFun fLen (dVar 2)) (dC (.int 2))))) (sRet (dC (.bool false))) sSkip)
  (sThen (sIf (bOr (bNot (bOf (dCall F_are_numbers (sCons (dFun fLen (dVar 3)) (sCons (bin2 dIx (dVar 2) (dC (.int 0))) sNil))))) (bNot (bOf (dCall F_are_numbers (sCons (dFun fLen (dVar 0)) (sCons (bin2 dIx (dVar 2) (dC (.int 1))) sNil)))))) (sRet (dC (.bool false))) sSkip)
  (sThen (sFor (sRng2 (dC (.int 1)) (bin2 dAdd (dFun fLen (dVar 0)) (dC (.int 1)))) (.one 4) (sThen (sSet 5 (dComp [6, 7] (sZipM (bin2 dIx (dVar 2) (dC (.int 0))) (dVar 3)) (.two 6 7) (bOf (bin2 dIn (dVar 4) (dTup (sCons (dVar 7) (sCons (bin2 dIx (dVar 0) (bin2 dSub (dVar 7) (dC (.int 1)))) sNil))))) (dVar 6)))
  (sIf (bOf (dCall F_less (sCons (dCall F_sum_of (sCons (dLst (sCons (bin2 dIx (bin2 dIx (dVar 2) (dC (.int 1))) (bin2 dSub (dVar 4) (dC (.int 1)))) (sStar (dVar 5) sNil))) sNil)) (sCons (dTup (sCons (bin2 dIx (dVar 1) (bin2 dSub (dVar 4) (dC (.int 1)))) (sCons (dC (.int 1)) sNil))) sNil)))) (sRet (dC (.bool false))) sSkip)))
  (sRet (bin2 dEq (dCall F_sum_of (sCons (dLst (sStar (bin2 dIx (dVar 2) (dC (.int 0))) (sStar (bin2 dIx (dVar 2) (dC (.int 1))) sNil))) sNil)) (dTup (sCons (bin2 dIx (dCall F_best_of (sCons (dVar 0) (sCons (dVar 1) sNil))) (dC (.int 0))) (sCons (dC (.int 1)) sNil))))))))))
def F_shows_party_paper : List PyData → Option PyData := runD 3 8 B_shows_party_paper
theorem sc_shows_party_paper : FnScope ["chart", "gains", "value", "tied", "person", "held", "number", "one"] ["chart", "gains", "value"] (defScope s_shows_party_paper) := ⟨rfl, rfl, rfl, by decide +kernel, rfl, by decide +kernel, by decide +kernel⟩
theorem ok_shows_party_paper (b : Blt mg) (c_need_gains : CalD P w K mg base T 7 "need_gains" F_need_gains) (c_with_chiefs : CalD P w K mg base T 1 "with_chiefs" F_with_chiefs) (c_are_numbers : CalD P w K mg base T 8 "are_numbers" F_are_numbers) (c_less : CalD P w K mg base T 1 "less" F_less) (c_sum_of : CalD P w K mg base T 3 "sum_of" F_sum_of) (c_best_of : CalD P w K mg base T 5 "best_of" F_best_of) (D : DefC K mg "shows_party_paper" s_shows_party_paper f fd cdv ["chart", "gains", "value"]) : CalD P w K mg base T 9 "shows_party_paper" F_shows_party_paper :=
  cal_mk (C := 0) (F := B_shows_party_paper) (np := 3) (nN := 8) (by rw [F_shows_party_paper]) D sc_shows_party_paper rfl rfl fun A outer s H E hr => by
    unfold B_shows_party_paper
    exact (psds_cons (psd_exp (pd_c c_need_gains hr (by rfl) (pds_cons (pd_var (pv 0)) (pds_cons (pd_var (pv 1)) pds_nil))))
    (psds_cons (psd_set (i := 3) sc_shows_party_paper.nd rfl (Or.inl rfl) (pd_c c_with_chiefs hr (by rfl) (pds_cons (pd_var (pv 0)) pds_nil)))
    (psds_cons (psd_if (ptb_of (pwb_or (ptb_not (pdb_val (pd_isi tyOk_tuple (by rfl) b.isinstance (by rfl) b.tuple (pd_var (pv 2))))) (pwb_or1 (pt_ne hr (pd_len (by rfl) b.len (pd_var (pv 2))) pd_int)))) (psds_one (psd_ret pd_bl)) psds_nil)
    (psds_cons (psd_if (ptb_of (pwb_or (ptb_not (pdb_val (pd_c c_are_numbers hr (by rfl) (pds_cons (pd_len (by rfl) b.len (pd_var (pv 3))) (pds_cons (pd_ix (pd_var (pv 2)) pd_int (fun _ _ => rfl)) pds_nil))))) (pwb_or1 (ptb_not (pdb_val (pd_c c_are_numbers hr (by rfl) (pds_cons (pd_len (by rfl) b.len (pd_var (pv 0))) (pds_cons (pd_ix (pd_var (pv 2)) pd_int (fun _ _ => rfl)) pds_nil)))))))) (psds_one (psd_ret pd_bl)) psds_nil)
    (psds_cons (psd_for (tgt := (.one 4)) PassesOwn.never (by rfl) (pit_rng2 (by rfl) b.range pd_int (pd_add (pd_len (by rfl) b.len (pd_var (pv 0))) pd_int)) (pgt_one (i := 4) sc_shows_party_paper.nd rfl (Or.inr rfl)) (psds_cons (psd_setLc (i := 5) (own := [("number", 6), ("one", 7)]) (tgt := (.two 6 7)) (by rfl) sc_shows_party_paper.nd rfl rfl (sw_true rfl rfl rfl (by kernel_rfl)) (pit_zipM (by rfl) b.zip (pd_ix (pd_var (pv 2)) pd_int (fun _ _ => rfl)) (pd_var (pv 3))) (blkOk_by (by kernel_rfl)) (fun _ _ _ _ _ => pgt_two (i := 6) (j := 7) (by rfl) sc_shows_party_paper.nd rfl rfl (Or.inl rfl) (Or.inl rfl)) (fun _ _ _ _ _ => pts_one (pt_in hr (pd_var (pv 4)) (pd_tup (pds_cons (pd_var (pv 7)) (pds_cons (pd_ix (pd_var (pv 0)) (pd_sub (pd_var (pv 7)) pd_int) (fun _ _ => rfl)) pds_nil))))) (fun _ _ _ _ _ => (pd_var (pv 6))))
    (psds_one (psd_if (pdb_val (pd_c c_less hr (by rfl) (pds_cons (pd_c c_sum_of hr (by rfl) (pds_cons (pd_lst (pds_cons (pd_ix (pd_ix (pd_var (pv 2)) pd_int (fun _ _ => rfl)) (pd_sub (pd_var (pv 4)) pd_int) (fun _ _ => rfl)) (pds_star (pd_var (pv 5)) pds_nil))) pds_nil)) (pds_cons (pd_tup (pds_cons (pd_ix (pd_var (pv 1)) (pd_sub (pd_var (pv 4)) pd_int) (fun _ _ => rfl)) (pds_cons pd_int pds_nil))) pds_nil)))) (psds_one (psd_ret pd_bl)) psds_nil))))
    (psds_one (psd_ret (pd_eq hr (pd_c c_sum_of hr (by rfl) (pds_cons (pd_lst (pds_star (pd_ix (pd_var (pv 2)) pd_int (fun _ _ => rfl)) (pds_star (pd_ix (pd_var (pv 2)) pd_int (fun _ _ => rfl)) pds_nil))) pds_nil)) (pd_tup (pds_cons (pd_ix (pd_c c_best_of hr (by rfl) (pds_cons (pd_var (pv 0)) (pds_cons (pd_var (pv 1)) pds_nil))) pd_int (fun _ _ => rfl)) (pds_cons pd_int pds_nil)))))))))))
def s_watches : Stmt := by
  refine (fun (x : Stmt) (h : top 40 = x) => x) ?x ?h
  case h =>
    conv => lhs; whnf
def B_watches : En → Option SR := (sThen (sFor (sRng2 (dC (.int 1)) (bin2 dAdd (dFun fLen (dVar 0)) (dC (.int 1)))) (.one 2) (sThen (sSet 3 (dLst (sCons (dVar 2) (sCons (bin2 dIx (dVar 0) (bin2 dSub (dVar 2) (dC (.int 1)))) (sStar (dComp [4] (sRng2 (dC (.int 1)) (bin2 dAdd (dFun fLen (dVar 0)) (dC (.int 1)))) (.one 4) (bOf (bin2 dEq (bin2 dIx (dVar 0) (bin2 dSub (dVar 4) (dC (.int 1)))) (dVar 2))) (dVar 4)) sNil)))))
  (sIf (bNot (bOf (dAny 4 (sSeq (dVar 3)) (bin2 dIn (dVar 4) (dVar 1))))) (sRet (dC (.bool false))) sSkip)))
  (sRet (dC (.bool true))))
def F_watches : List PyData → Option PyData := runD 2 5 B_watches
theorem sc_watches : FnScope ["chart", "lot", "person", "near", "one"] ["chart", "lot"] (defScope s_watches) := ⟨rfl, rfl, rfl, by decide +kernel, rfl, by decide +kernel, by decide +kernel⟩
theorem ok_watches (b : Blt mg) {c Pt : Addr} (TB : TabB base mg c Pt) (hP : Pt ∈ T) (D : DefC K mg "watches" s_watches f fd (.ref c) ["chart", "lot"]) : CalD P w K mg base T 4 "watches" F_watches :=
  cal_mk (C := 0) (F := B_watches) (np := 2) (nN := 5) (by rw [F_watches]) D sc_watches rfl rfl fun A outer s H E hr => by
    unfold B_watches
    exact (psds_cons (psd_for (tgt := (.one 2)) PassesOwn.never (by rfl) (pit_rng2 (by rfl) b.range pd_int (pd_add (pd_len (by rfl) b.len (pd_var (pv 0))) pd_int)) (pgt_one (i := 2) sc_watches.nd rfl (Or.inr rfl)) (psds_cons (psd_set (i := 3) sc_watches.nd rfl (Or.inl rfl) (pd_lst (pds_cons (pd_var (pv 2)) (pds_cons (pd_ix (pd_var (pv 0)) (pd_sub (pd_var (pv 2)) pd_int) (fun _ _ => rfl)) (pds_star (pd_lc (own := [("one", 4)]) (tgt := (.one 4)) (by rfl) sc_watches.nd (pit_rng2 (by rfl) b.range pd_int (pd_add (pd_len (by rfl) b.len (pd_var (pv 0))) pd_int)) (blkOk_by (by kernel_rfl)) (fun _ _ _ _ _ => pgt_one (i := 4) sc_watches.nd rfl (Or.inl rfl)) (fun _ _ _ _ _ => pts_one (pt_eq hr (pd_ix (pd_var (pv 0)) (pd_sub (pd_var (pv 4)) pd_int) (fun _ _ => rfl)) (pd_var (pv 2)))) (fun _ _ _ _ _ => (pd_var (pv 4)))) pds_nil)))))
    (psds_one (psd_if (ptb_not (pdb_val (pd_any (k := 0) (ix := 4) hP (hr.mono (by decide)) (by rfl) b.any TB rfl (by rfl) sc_watches.nd (pit_seq (pd_var (pv 3))) (blkOk_by (by kernel_rfl)) (WG.gscp_by (by kernel_rfl)) (fun A2 _ _ _ _ _ _ _ hr2 => (pd_in hr2 (pd_var (pv 4)) (pd_var (pv 1))))))) (psds_one (psd_ret pd_bl)) psds_nil))))
    (psds_one (psd_ret pd_bl)))
def s_fewest_watchers : Stmt := by
  refine (fun (x : Stmt) (h : top 41 = x) => x) ?x ?h
  case h =>
    conv => lhs; whnf
def B_fewest_watchers : En → Option SR := (sThen (sExp (dCall F_need_chart (sCons (dVar 0) sNil)))
  (sRet (dFun fMin (dComp [1] (sSeq (dCall F_lots_of (sCons (dFun fLen (dVar 0)) sNil))) (.one 1) (bOf (dCall F_watches (sCons (dVar 0) (sCons (dVar 1) sNil)))) (dFun fLen (dVar 1))))))
def F_fewest_watchers : List PyData → Option PyData := runD 1 2 B_fewest_watchers
theorem sc_fewest_watchers : FnScope ["chart", "lot"] ["chart"] (defScope s_fewest_watchers) := ⟨rfl, rfl, rfl, by decide +kernel, rfl, by decide +kernel, by decide +kernel⟩
theorem ok_fewest_watchers (b : Blt mg) (c_need_chart : CalD P w K mg base T 6 "need_chart" F_need_chart) (c_lots_of : CalD P w K mg base T 1 "lots_of" F_lots_of) (c_watches : CalD P w K mg base T 4 "watches" F_watches) (D : DefC K mg "fewest_watchers" s_fewest_watchers f fd cdv ["chart"]) : CalD P w K mg base T 7 "fewest_watchers" F_fewest_watchers :=
  cal_mk (C := 0) (F := B_fewest_watchers) (np := 1) (nN := 2) (by rw [F_fewest_watchers]) D sc_fewest_watchers rfl rfl fun A outer s H E hr => by
    unfold B_fewest_watchers
    exact (psds_cons (psd_exp (pd_c c_need_chart hr (by rfl) (pds_cons (pd_var (pv 0)) pds_nil)))
    (psds_one (psd_ret (pd_min (by rfl) (by rfl) b.min (pd_lc (own := [("lot", 1)]) (tgt := (.one 1)) (by rfl) sc_fewest_watchers.nd (pit_seq (pd_c c_lots_of hr (by rfl) (pds_cons (pd_len (by rfl) b.len (pd_var (pv 0))) pds_nil))) (blkOk_by (by kernel_rfl)) (fun _ _ _ _ _ => pgt_one (i := 1) sc_fewest_watchers.nd rfl (Or.inl rfl)) (fun _ _ _ _ _ => pts_one (pdb_val (pd_c c_watches hr (by rfl) (pds_cons (pd_var (pv 0)) (pds_cons (pd_var (pv 1)) pds_nil))))) (fun _ _ _ _ _ => (pd_len (by rfl) b.len (pd_var (pv 1)))))))))
end
end CD
end
section
set_option maxHeartbeats 4000000
namespace CD
open PySem PySem.Spec PyProof.Rows L2 DL
open GxR (TabB TabG Tabbed)
section
variable {P : Program} {w : World} {K : PySem.W.Frag} {mg : Str → Option Value} {base : Heap} {C : Addr} {T : List Addr} {f : Addr} {fd : FuncData} {cdv : Value}
def s__law_alike : Stmt := by
  refine (fun (x : Stmt) (h : top 45 = x) => x) ?x ?h
  case h =>
    conv => lhs; whnf
def B__law_alike : En → Option SR := (sThen (sIf (bOf (dIsi2 "tuple" "list" (dVar 1))) (fun _ => none) sSkip)
  (sThen (sIf (bOr (bOf (bin2 dIsN (dVar 1) (dC .none))) (bOf (dIsi "str" (dVar 1)))) (sRet (vAnd (bin2 dEq (dVar 0) (dVar 1)) (bin2 dEq (dIsi "str" (dVar 0)) (dIsi "str" (dVar 1))))) sSkip)
  (sRet (vAnd (dIsi "int" (dVar 0)) (vAnd (bin2 dEq (dIsi "bool" (dVar 0)) (dIsi "bool" (dVar 1))) (bin2 dEq (dVar 0) (dVar 1)))))))
def F__law_alike : List PyData → Option PyData := runD 2 3 B__law_alike
theorem sc__law_alike : FnScope ["_law_found", "_law_due", "_law_k"] ["_law_found", "_law_due"] (defScope s__law_alike) := ⟨rfl, rfl, rfl, by decide +kernel, rfl, by decide +kernel, by decide +kernel⟩
theorem ok__law_alike (b : Blt mg) (D : DefC K mg "_law_alike" s__law_alike f fd cdv ["_law_found", "_law_due"]) : CalD P w K mg base T 1 "_law_alike" F__law_alike :=
  cal_mk (C := 0) (F := B__law_alike) (np := 2) (nN := 3) (by rw [F__law_alike]) D sc__law_alike rfl rfl fun A outer s H E hr => by
    unfold B__law_alike
    exact (psds_cons (psd_if (pdb_val (pd_isi2 tyOk_tuple tyOk_list (by rfl) b.isinstance (by rfl) b.tuple (by rfl) b.list (pd_var (pv 1)))) psds_never psds_nil)
    (psds_cons (psd_if (ptb_of (pwb_or (pt_isN (pd_var (pv 1)) pd_non) (pwb_or1 (pdb_val (pd_isi tyOk_str (by rfl) b.isinstance (by rfl) b.str (pd_var (pv 1))))))) (psds_one (psd_ret (pd_and (pd_eq hr (pd_var (pv 0)) (pd_var (pv 1))) (pd_one (pd_eq hr (pd_isi tyOk_str (by rfl) b.isinstance (by rfl) b.str (pd_var (pv 0))) (pd_isi tyOk_str (by rfl) b.isinstance (by rfl) b.str (pd_var (pv 1)))))))) psds_nil)
    (psds_one (psd_ret (pd_and (pd_isi tyOk_int (by rfl) b.isinstance (by rfl) b.int (pd_var (pv 0))) (pd_and (pd_eq hr (pd_isi tyOk_bool (by rfl) b.isinstance (by rfl) b.bool (pd_var (pv 0))) (pd_isi tyOk_bool (by rfl) b.isinstance (by rfl) b.bool (pd_var (pv 1)))) (pd_one (pd_eq hr (pd_var (pv 0)) (pd_var (pv 1))))))))))
def s__law_ratio : Stmt := by
  refine (fun (x : Stmt) (h : top 46 = x) => x) ?x ?h
  case h =>
    conv => lhs; whnf
def B__law_ratio : En → Option SR := (sThen (sPar 2 3 (sCons (dFun fAbs (dVar 0)) (sCons (dFun fAbs (dVar 1)) sNil)))
  (sThen (whileL (bOf (bin2 dNe (dVar 3) (dC (.int 0)))) (sPar 2 3 (sCons (dVar 3) (sCons (bin2 dMod (dFun fInt (dVar 2)) (dVar 3)) sNil))) 1267650600228229401496703205376)
  (sRet (dIf (bOf (bin2 dGt (dVar 1) (dC (.int 0)))) (dTup (sCons (bin2 dFdv (dVar 0) (dVar 2)) (sCons (bin2 dFdv (dVar 1) (dVar 2)) sNil))) (dTup (sCons (bin2 dSub (dC (.int 0)) (bin2 dFdv (dVar 0) (dVar 2))) (sCons (bin2 dSub (dC (.int 0)) (bin2 dFdv (dVar 1) (dVar 2))) sNil)))))))
def F__law_ratio : List PyData → Option PyData := runD 2 4 B__law_ratio
theorem sc__law_ratio : FnScope ["_law_top", "_law_bottom", "_law_one", "_law_other"] ["_law_top", "_law_bottom"] (defScope s__law_ratio) := ⟨rfl, rfl, rfl, by decide +kernel, rfl, by decide +kernel, by decide +kernel⟩
theorem ok__law_ratio (b : Blt mg) (D : DefC K mg "_law_ratio" s__law_ratio f fd cdv ["_law_top", "_law_bottom"]) : CalD P w K mg base T 1 "_law_ratio" F__law_ratio :=
  cal_mk (C := 0) (F := B__law_ratio) (np := 2) (nN := 4) (by rw [F__law_ratio]) D sc__law_ratio rfl rfl fun A outer s H E hr => by
    unfold B__law_ratio
    exact (psds_cons (psd_par (i := 2) (j := 3) (by rfl) sc__law_ratio.nd rfl rfl (by decide) rfl rfl (pds_cons (pd_abs (by rfl) b.abs (pd_var (pv 0))) (pds_cons (pd_abs (by rfl) b.abs (pd_var (pv 1))) pds_nil)) (by with_unfolding_all rfl))
    (psds_cons (psd_while 1267650600228229401496703205376 PassesOwn.never (pt_ne hr (pd_var (pv 3)) pd_int) (psds_one (psd_par (i := 2) (j := 3) (by rfl) sc__law_ratio.nd rfl rfl (by decide) rfl rfl (pds_cons (pd_var (pv 3)) (pds_cons (pd_mod (pd_intc (by rfl) b.int (pd_var (pv 2))) (pd_var (pv 3))) pds_nil)) (by with_unfolding_all rfl))))
    (psds_one (psd_ret (pd_if (pt_gt (pd_var (pv 1)) pd_int) (pd_tup (pds_cons (pd_fdv (pd_var (pv 0)) (pd_var (pv 2))) (pds_cons (pd_fdv (pd_var (pv 1)) (pd_var (pv 2))) pds_nil))) (pd_tup (pds_cons (pd_sub pd_int (pd_fdv (pd_var (pv 0)) (pd_var (pv 2)))) (pds_cons (pd_sub pd_int (pd_fdv (pd_var (pv 1)) (pd_var (pv 2)))) pds_nil))))))))
def s__law_plus : Stmt := by
  refine (fun (x : Stmt) (h : top 47 = x) => x) ?x ?h
  case h =>
    conv => lhs; whnf
def B__law_plus : En → Option SR := (sRet (dCall F__law_ratio (sCons (bin2 dAdd (bin2 dMul (bin2 dIx (dVar 0) (dC (.int 0))) (bin2 dIx (dVar 1) (dC (.int 1)))) (bin2 dMul (bin2 dIx (dVar 1) (dC (.int 0))) (bin2 dIx (dVar 0) (dC (.int 1))))) (sCons (bin2 dMul (bin2 dIx (dVar 0) (dC (.int 1))) (bin2 dIx (dVar 1) (dC (.int 1)))) sNil))))
def F__law_plus : List PyData → Option PyData := runD 2 2 B__law_plus
theorem sc__law_plus : FnScope ["_law_one", "_law_other"] ["_law_one", "_law_other"] (defScope s__law_plus) := ⟨rfl, rfl, rfl, by decide +kernel, rfl, by decide +kernel, by decide +kernel⟩
theorem ok__law_plus (b : Blt mg) (c__law_ratio : CalD P w K mg base T 1 "_law_ratio" F__law_ratio) (D : DefC K mg "_law_plus" s__law_plus f fd cdv ["_law_one", "_law_other"]) : CalD P w K mg base T 2 "_law_plus" F__law_plus :=
  cal_mk (C := 0) (F := B__law_plus) (np := 2) (nN := 2) (by rw [F__law_plus]) D sc__law_plus rfl rfl fun A outer s H E hr => by
    unfold B__law_plus
    exact (psds_one (psd_ret (pd_c c__law_ratio hr (by rfl) (pds_cons (pd_add (pd_mul (pd_ix (pd_var (pv 0)) pd_int (fun _ _ => rfl)) (pd_ix (pd_var (pv 1)) pd_int (fun _ _ => rfl))) (pd_mul (pd_ix (pd_var (pv 1)) pd_int (fun _ _ => rfl)) (pd_ix (pd_var (pv 0)) pd_int (fun _ _ => rfl)))) (pds_cons (pd_mul (pd_ix (pd_var (pv 0)) pd_int (fun _ _ => rfl)) (pd_ix (pd_var (pv 1)) pd_int (fun _ _ => rfl))) pds_nil)))))
def s__law_sum : Stmt := by
  refine (fun (x : Stmt) (h : top 49 = x) => x) ?x ?h
  case h =>
    conv => lhs; whnf
def B__law_sum : En → Option SR := (sThen (sSet 1 (dTup (sCons (dC (.int 0)) (sCons (dC (.int 1)) sNil))))
  (sThen (sFor (sSeq (dVar 0)) (.one 2) (sSet 1 (dCall F__law_plus (sCons (dVar 1) (sCons (dVar 2) sNil)))))
  (sRet (dVar 1))))
def F__law_sum : List PyData → Option PyData := runD 1 3 B__law_sum
theorem sc__law_sum : FnScope ["_law_some", "_law_found", "_law_one"] ["_law_some"] (defScope s__law_sum) := ⟨rfl, rfl, rfl, by decide +kernel, rfl, by decide +kernel, by decide +kernel⟩
theorem ok__law_sum (b : Blt mg) (c__law_plus : CalD P w K mg base T 2 "_law_plus" F__law_plus) (D : DefC K mg "_law_sum" s__law_sum f fd cdv ["_law_some"]) : CalD P w K mg base T 3 "_law_sum" F__law_sum :=
  cal_mk (C := 0) (F := B__law_sum) (np := 1) (nN := 3) (by rw [F__law_sum]) D sc__law_sum rfl rfl fun A outer s H E hr => by
    unfold B__law_sum
    exact (psds_cons (psd_set (i := 1) sc__law_sum.nd rfl (Or.inl rfl) (pd_tup (pds_cons pd_int (pds_cons pd_int pds_nil))))
    (psds_cons (psd_for (tgt := (.one 2)) PassesOwn.never (by rfl) (pit_seq (pd_var (pv 0))) (pgt_one (i := 2) sc__law_sum.nd rfl (Or.inl rfl)) (psds_one (psd_set (i := 1) sc__law_sum.nd rfl (Or.inl rfl) (pd_c c__law_plus hr (by rfl) (pds_cons (pd_var (pv 1)) (pds_cons (pd_var (pv 2)) pds_nil))))))
    (psds_one (psd_ret (pd_var (pv 1))))))
def s__law_less : Stmt := by
  refine (fun (x : Stmt) (h : top 50 = x) => x) ?x ?h
  case h =>
    conv => lhs; whnf
def B__law_less : En → Option SR := (sRet (bin2 dLt (bin2 dMul (bin2 dIx (dVar 0) (dC (.int 0))) (bin2 dIx (dVar 1) (dC (.int 1)))) (bin2 dMul (bin2 dIx (dVar 1) (dC (.int 0))) (bin2 dIx (dVar 0) (dC (.int 1))))))
def F__law_less : List PyData → Option PyData := runD 2 2 B__law_less
theorem sc__law_less : FnScope ["_law_one", "_law_other"] ["_law_one", "_law_other"] (defScope s__law_less) := ⟨rfl, rfl, rfl, by decide +kernel, rfl, by decide +kernel, by decide +kernel⟩
theorem ok__law_less (b : Blt mg) (D : DefC K mg "_law_less" s__law_less f fd cdv ["_law_one", "_law_other"]) : CalD P w K mg base T 1 "_law_less" F__law_less :=
  cal_mk (C := 0) (F := B__law_less) (np := 2) (nN := 2) (by rw [F__law_less]) D sc__law_less rfl rfl fun A outer s H E hr => by
    unfold B__law_less
    exact (psds_one (psd_ret (pd_lt (pd_mul (pd_ix (pd_var (pv 0)) pd_int (fun _ _ => rfl)) (pd_ix (pd_var (pv 1)) pd_int (fun _ _ => rfl))) (pd_mul (pd_ix (pd_var (pv 1)) pd_int (fun _ _ => rfl)) (pd_ix (pd_var (pv 0)) pd_int (fun _ _ => rfl))))))
def s__law_is_ratio : Stmt := by
  refine (fun (x : Stmt) (h : top 51 = x) => x) ?x ?h
  case h =>
    conv => lhs; whnf
def B__law_is_ratio : En → Option SR := (sThen (sIf (bOr (bNot (bOf (dIsi "tuple" (dVar 0)))) (bOr (bOf (bin2 dNe (dFun fLen (dVar 0)) (dC (.int 2)))) (bOf (bin2 dNe (dComp [1] (sSeq (dVar 0)) (.one 1) (bOr (bNot (bOf (dIsi "int" (dVar 1)))) (bOf (dIsi "bool" (dVar 1)))) (dVar 1)) (dLst sNil))))) (sRet (dC (.bool false))) sSkip)
  (sRet (vAnd (bin2 dGt (bin2 dIx (dVar 0) (dC (.int 1))) (dC (.int 0))) (bin2 dEq (dCall F__law_ratio (sCons (bin2 dIx (dVar 0) (dC (.int 0))) (sCons (bin2 dIx (dVar 0) (dC (.int 1))) sNil))) (dVar 0)))))
def F__law_is_ratio : List PyData → Option PyData := runD 1 2 B__law_is_ratio
theorem sc__law_is_ratio : FnScope ["_law_value", "_law_one"] ["_law_value"] (defScope s__law_is_ratio) := ⟨rfl, rfl, rfl, by decide +kernel, rfl, by decide +kernel, by decide +kernel⟩
theorem ok__law_is_ratio (b : Blt mg) (c__law_ratio : CalD P w K mg base T 1 "_law_ratio" F__law_ratio) (D : DefC K mg "_law_is_ratio" s__law_is_ratio f fd cdv ["_law_value"]) : CalD P w K mg base T 2 "_law_is_ratio" F__law_is_ratio :=
  cal_mk (C := 0) (F := B__law_is_ratio) (np := 1) (nN := 2) (by rw [F__law_is_ratio]) D sc__law_is_ratio rfl rfl fun A outer s H E hr => by
    unfold B__law_is_ratio
    exact (psds_cons (psd_if (ptb_of (pwb_or (ptb_not (pdb_val (pd_isi tyOk_tuple (by rfl) b.isinstance (by rfl) b.tuple (pd_var (pv 0))))) (pwb_or (pt_ne hr (pd_len (by rfl) b.len (pd_var (pv 0))) pd_int) (pwb_or1 (pt_ne hr (pd_lc (own := [("_law_one", 1)]) (tgt := (.one 1)) (by rfl) sc__law_is_ratio.nd (pit_seq (pd_var (pv 0))) (blkOk_by (by kernel_rfl)) (fun _ _ _ _ _ => pgt_one (i := 1) sc__law_is_ratio.nd rfl (Or.inl rfl)) (fun _ _ _ _ _ => pts_one (ptb_of (pwb_or (ptb_not (pdb_val (pd_isi tyOk_int (by rfl) b.isinstance (by rfl) b.int (pd_var (pv 1))))) (pwb_or1 (pdb_val (pd_isi tyOk_bool (by rfl) b.isinstance (by rfl) b.bool (pd_var (pv 1)))))))) (fun _ _ _ _ _ => (pd_var (pv 1)))) (pd_lst pds_nil)))))) (psds_one (psd_ret pd_bl)) psds_nil)
    (psds_one (psd_ret (pd_and (pd_gt (pd_ix (pd_var (pv 0)) pd_int (fun _ _ => rfl)) pd_int) (pd_one (pd_eq hr (pd_c c__law_ratio hr (by rfl) (pds_cons (pd_ix (pd_var (pv 0)) pd_int (fun _ _ => rfl)) (pds_cons (pd_ix (pd_var (pv 0)) pd_int (fun _ _ => rfl)) pds_nil))) (pd_var (pv 0))))))))
def s__law_lots : Stmt := by
  refine (fun (x : Stmt) (h : top 60 = x) => x) ?x ?h
  case h =>
    conv => lhs; whnf
def B__law_lots : En → Option SR := (sThen (sSet 1 (dLst (sCons (dTup sNil) sNil)))
  (sThen (sFor (sRng2 (dC (.int 1)) (bin2 dAdd (dVar 0) (dC (.int 1)))) (.one 2) (sSet 1 (bin2 dAdd (dVar 1) (dComp [3] (sSeq (dVar 1)) (.one 3) bYes (bin2 dAdd (dVar 3) (dTup (sCons (dVar 2) sNil)))))))
  (sRet (dVar 1))))
def F__law_lots : List PyData → Option PyData := runD 1 4 B__law_lots
theorem sc__law_lots : FnScope ["_law_size", "_law_found", "_law_person", "_law_one"] ["_law_size"] (defScope s__law_lots) := ⟨rfl, rfl, rfl, by decide +kernel, rfl, by decide +kernel, by decide +kernel⟩
theorem ok__law_lots (b : Blt mg) (D : DefC K mg "_law_lots" s__law_lots f fd cdv ["_law_size"]) : CalD P w K mg base T 1 "_law_lots" F__law_lots :=
  cal_mk (C := 0) (F := B__law_lots) (np := 1) (nN := 4) (by rw [F__law_lots]) D sc__law_lots rfl rfl fun A outer s H E hr => by
    unfold B__law_lots
    exact (psds_cons (psd_set (i := 1) sc__law_lots.nd rfl (Or.inl rfl) (pd_lst (pds_cons (pd_tup pds_nil) pds_nil)))
    (psds_cons (psd_for (tgt := (.one 2)) PassesOwn.never (by rfl) (pit_rng2 (by rfl) b.range pd_int (pd_add (pd_var (pv 0)) pd_int)) (pgt_one (i := 2) sc__law_lots.nd rfl (Or.inr rfl)) (psds_one (psd_set (i := 1) sc__law_lots.nd rfl (Or.inl rfl) (pd_add (pd_var (pv 1)) (pd_lc (own := [("_law_one", 3)]) (tgt := (.one 3)) (by rfl) sc__law_lots.nd (pit_seq (pd_var (pv 1))) (blkOk_by (by kernel_rfl)) (fun _ _ _ _ _ => pgt_one (i := 3) sc__law_lots.nd rfl (Or.inl rfl)) (fun _ _ _ _ _ => pts_no) (fun _ _ _ _ _ => (pd_add (pd_var (pv 3)) (pd_tup (pds_cons (pd_var (pv 2)) pds_nil)))))))))
    (psds_one (psd_ret (pd_var (pv 1))))))
def s__law_is_paper : Stmt := by
  refine (fun (x : Stmt) (h : top 61 = x) => x) ?x ?h
  case h =>
    conv => lhs; whnf
def B__law_is_paper : En → Option SR := (sThen (sSet 4 (dComp [5] (sRng1 (dFun fLen (dVar 0))) (.one 5) (bOf (bin2 dGt (bin2 dIx (dVar 0) (dVar 5)) (dC (.int 0)))) (bin2 dAdd (dVar 5) (dC (.int 1)))))
  (sThen (sIf (bOr (bNot (bOf (dIsi "tuple" (dVar 3)))) (bOf (bin2 dNe (dFun fLen (dVar 3)) (dC (.int 2))))) (sRet (dC (.bool false))) sSkip)
  (sThen (sFor (sSeq (dLst (sCons (dTup (sCons (bin2 dIx (dVar 3) (dC (.int 0))) (sCons (dFun fLen (dVar 4)) sNil))) (sCons (dTup (sCons (bin2 dIx (dVar 3) (dC (.int 1))) (sCons (dFun fLen (dVar 0)) sNil))) sNil)))) (.two 6 7) (sIf (bOr (bNot (bOf (dIsi "tuple" (dVar 6)))) (bOr (bOf (bin2 dNe (dFun fLen (dVar 6)) (dVar 7))) (bOf (bin2 dNe (dComp [8] (sSeq (dVar 6)) (.one 8) (bOr (bNot (bOf (dCall F__law_is_ratio (sCons (dVar 8) sNil)))) (bOf (bin2 dLt (bin2 dIx (dVar 8) (dC (.int 0))) (dC (.int 0))))) (dVar 8)) (dLst sNil))))) (sRet (dC (.bool false))) sSkip))
  (sThen (sFor (sRng2 (dC (.int 1)) (bin2 dAdd (dFun fLen (dVar 0)) (dC (.int 1)))) (.one 9) (sThen (sSet 10 (dComp [5] (sRng1 (dFun fLen (dVar 4))) (.one 5) (bOf (bin2 dIn (dVar 9) (dLst (sCons (bin2 dIx (dVar 4) (dVar 5)) (sCons (bin2 dIx (dVar 0) (bin2 dSub (bin2 dIx (dVar 4) (dVar 5)) (dC (.int 1)))) sNil))))) (bin2 dIx (bin2 dIx (dVar 3) (dC (.int 0))) (dVar 5))))
  (sIf (bOf (dCall F__law_less (sCons (dCall F__law_sum (sCons (bin2 dAdd (dVar 10) (dLst (sCons (bin2 dIx (bin2 dIx (dVar 3) (dC (.int 1))) (bin2 dSub (dVar 9) (dC (.int 1)))) sNil))) sNil)) (sCons (dTup (sCons (bin2 dIx (dVar 1) (bin2 dSub (dVar 9) (dC (.int 1)))) (sCons (dC (.int 1)) sNil))) sNil)))) (sRet (dC (.bool false))) sSkip)))
  (sRet (bin2 dEq (dCall F__law_sum (sCons (dFun fList (bin2 dAdd (bin2 dIx (dVar 3) (dC (.int 0))) (bin2 dIx (dVar 3) (dC (.int 1))))) sNil)) (dTup (sCons (dVar 2) (sCons (dC (.int 1)) sNil)))))))))
def F__law_is_paper : List PyData → Option PyData := runD 4 11 B__law_is_paper
theorem sc__law_is_paper : FnScope ["_law_chart_here", "_law_gains", "_law_best", "_law_value", "_law_tied", "_law_k", "_law_part", "_law_many", "_law_one", "_law_person", "_law_held"] ["_law_chart_here", "_law_gains", "_law_best", "_law_value"] (defScope s__law_is_paper) := ⟨rfl, rfl, rfl, by decide +kernel, rfl, by decide +kernel, by decide +kernel⟩
theorem ok__law_is_paper (b : Blt mg) (c__law_is_ratio : CalD P w K mg base T 2 "_law_is_ratio" F__law_is_ratio) (c__law_less : CalD P w K mg base T 1 "_law_less" F__law_less) (c__law_sum : CalD P w K mg base T 3 "_law_sum" F__law_sum) (D : DefC K mg "_law_is_paper" s__law_is_paper f fd cdv ["_law_chart_here", "_law_gains", "_law_best", "_law_value"]) : CalD P w K mg base T 4 "_law_is_paper" F__law_is_paper :=
  cal_mk (C := 0) (F := B__law_is_paper) (np := 4) (nN := 11) (by rw [F__law_is_paper]) D sc__law_is_paper rfl rfl fun A outer s H E hr => by
    unfold B__law_is_paper
    exact (psds_cons (psd_set (i := 4) sc__law_is_paper.nd rfl (Or.inr rfl) (pd_lc (own := [("_law_k", 5)]) (tgt := (.one 5)) (by rfl) sc__law_is_paper.nd (pit_rng1 (by rfl) b.range (pd_len (by rfl) b.len (pd_var (pv 0)))) (blkOk_by (by kernel_rfl)) (fun _ _ _ _ _ => pgt_one (i := 5) sc__law_is_paper.nd rfl (Or.inl rfl)) (fun _ _ _ _ _ => pts_one (pt_gt (pd_ix (pd_var (pv 0)) (pd_var (pv 5)) (fun _ _ => rfl)) pd_int)) (fun _ _ _ _ _ => (pd_add (pd_var (pv 5)) pd_int))))
    (psds_cons (psd_if (ptb_of (pwb_or (ptb_not (pdb_val (pd_isi tyOk_tuple (by rfl) b.isinstance (by rfl) b.tuple (pd_var (pv 3))))) (pwb_or1 (pt_ne hr (pd_len (by rfl) b.len (pd_var (pv 3))) pd_int)))) (psds_one (psd_ret pd_bl)) psds_nil)
    (psds_cons (psd_for (tgt := (.two 6 7)) PassesOwn.never (by rfl) (pit_seq (pd_lst (pds_cons (pd_tup (pds_cons (pd_ix (pd_var (pv 3)) pd_int (fun _ _ => rfl)) (pds_cons (pd_len (by rfl) b.len (pd_var (pv 4))) pds_nil))) (pds_cons (pd_tup (pds_cons (pd_ix (pd_var (pv 3)) pd_int (fun _ _ => rfl)) (pds_cons (pd_len (by rfl) b.len (pd_var (pv 0))) pds_nil))) pds_nil)))) (pgt_two (i := 6) (j := 7) (by rfl) sc__law_is_paper.nd rfl rfl (Or.inl rfl) (Or.inl rfl)) (psds_one (psd_if (ptb_of (pwb_or (ptb_not (pdb_val (pd_isi tyOk_tuple (by rfl) b.isinstance (by rfl) b.tuple (pd_var (pv 6))))) (pwb_or (pt_ne hr (pd_len (by rfl) b.len (pd_var (pv 6))) (pd_var (pv 7))) (pwb_or1 (pt_ne hr (pd_lc (own := [("_law_one", 8)]) (tgt := (.one 8)) (by rfl) sc__law_is_paper.nd (pit_seq (pd_var (pv 6))) (blkOk_by (by kernel_rfl)) (fun _ _ _ _ _ => pgt_one (i := 8) sc__law_is_paper.nd rfl (Or.inl rfl)) (fun _ _ _ _ _ => pts_one (ptb_of (pwb_or (ptb_not (pdb_val (pd_c c__law_is_ratio hr (by rfl) (pds_cons (pd_var (pv 8)) pds_nil)))) (pwb_or1 (pt_lt (pd_ix (pd_var (pv 8)) pd_int (fun _ _ => rfl)) pd_int))))) (fun _ _ _ _ _ => (pd_var (pv 8)))) (pd_lst pds_nil)))))) (psds_one (psd_ret pd_bl)) psds_nil)))
    (psds_cons (psd_for (tgt := (.one 9)) PassesOwn.never (by rfl) (pit_rng2 (by rfl) b.range pd_int (pd_add (pd_len (by rfl) b.len (pd_var (pv 0))) pd_int)) (pgt_one (i := 9) sc__law_is_paper.nd rfl (Or.inr rfl)) (psds_cons (psd_setLc (i := 10) (own := [("_law_k", 5)]) (tgt := (.one 5)) (by rfl) sc__law_is_paper.nd rfl rfl (sw_true rfl rfl rfl (by kernel_rfl)) (pit_rng1 (by rfl) b.range (pd_len (by rfl) b.len (pd_var (pv 4)))) (blkOk_by (by kernel_rfl)) (fun _ _ _ _ _ => pgt_one (i := 5) sc__law_is_paper.nd rfl (Or.inl rfl)) (fun _ _ _ _ _ => pts_one (pt_in hr (pd_var (pv 9)) (pd_lst (pds_cons (pd_ix (pd_var (pv 4)) (pd_var (pv 5)) (fun _ _ => rfl)) (pds_cons (pd_ix (pd_var (pv 0)) (pd_sub (pd_ix (pd_var (pv 4)) (pd_var (pv 5)) (fun _ _ => rfl)) pd_int) (fun _ _ => rfl)) pds_nil))))) (fun _ _ _ _ _ => (pd_ix (pd_ix (pd_var (pv 3)) pd_int (fun _ _ => rfl)) (pd_var (pv 5)) (fun _ _ => rfl))))
    (psds_one (psd_if (pdb_val (pd_c c__law_less hr (by rfl) (pds_cons (pd_c c__law_sum hr (by rfl) (pds_cons (pd_add (pd_var (pv 10)) (pd_lst (pds_cons (pd_ix (pd_ix (pd_var (pv 3)) pd_int (fun _ _ => rfl)) (pd_sub (pd_var (pv 9)) pd_int) (fun _ _ => rfl)) pds_nil))) pds_nil)) (pds_cons (pd_tup (pds_cons (pd_ix (pd_var (pv 1)) (pd_sub (pd_var (pv 9)) pd_int) (fun _ _ => rfl)) (pds_cons pd_int pds_nil))) pds_nil)))) (psds_one (psd_ret pd_bl)) psds_nil))))
    (psds_one (psd_ret (pd_eq hr (pd_c c__law_sum hr (by rfl) (pds_cons (pd_list (by rfl) b.list (pd_add (pd_ix (pd_var (pv 3)) pd_int (fun _ _ => rfl)) (pd_ix (pd_var (pv 3)) pd_int (fun _ _ => rfl)))) pds_nil)) (pd_tup (pds_cons (pd_var (pv 2)) (pds_cons pd_int pds_nil))))))))))
end
end CD
end
section
set_option maxHeartbeats 4000000
namespace CD
open PySem PySem.Spec PyProof.Rows L2 DL
open GxR (TabB TabG Tabbed)
structure MakI (P : Program) (w : World) (K : PySem.W.Frag) (mg : Str → Option Value) (base : Heap) (C : Addr) (T : List Addr) (k : Nat) : Prop where
  ex : ∃ (f : Addr) (fd : FuncData) (ps : List Str), Mk K C f ∧ FnOk P w K mg base CX0 k f fd ps (spInit C T) ∧ mg "Program" = some (.ref C) ∧ Binds K fd ps []
def s_solved : Stmt := by
  refine (fun (x : Stmt) (h : top 26 = x) => x) ?x ?h
  case h =>
    conv => lhs; whnf
theorem sc_solved : FnScope ["rows", "goals", "costs", "program", "helping", "k", "row", "all_costs"] ["rows", "goals", "costs"] (defScope s_solved) := ⟨rfl, rfl, rfl, by decide +kernel, rfl, by decide +kernel, by decide +kernel⟩
def B_solved : En → Option SR := (sThen (sSet 4 (bin2 dAdd (dComp [5] (sSeq (dVar 2)) (.one 5) bYes (dTup (sCons (dC (.int 0)) (sCons (dC (.int 1)) sNil)))) (dComp [6] (sSeq (dVar 0)) (.one 6) bYes (dTup (sCons (dNeg (dC (.int 1))) (sCons (dC (.int 1)) sNil))))))
  (sThen (sCallM 3 F_Program_climb (sCons (dVar 4) (sCons (dMany 3) sNil)))
  (sThen (sIf (bOf (bin2 dLt (bin2 dIx (dMeth 3 F_Program_multiplier (sCons (dVar 4) (sCons (bin2 dAdd (dMany 3) (dFun fLen (dVar 0))) sNil))) (dC (.int 0))) (dC (.int 0)))) (sRet (dTup (sCons (dC (.str "none")) (sCons (dMeth 3 F_Program_prices (sCons (dVar 4) sNil)) sNil)))) sSkip)
  (sThen (sCallM 3 F_Program_leave_help sNil)
  (sThen (sSet 7 (bin2 dAdd (dFun fList (dVar 2)) (dComp [6] (sSeq (dVar 0)) (.one 6) bYes (dTup (sCons (dC (.int 0)) (sCons (dC (.int 1)) sNil))))))
  (sThen (sIfNotM 3 F_Program_climb (sCons (dVar 7) (sCons (dMany 3) sNil)) (sRet (dTup (sCons (dC (.str "free")) sNil))) sSkip)
  (sRet (dTup (sCons (dC (.str "best")) (sCons (dMeth 3 F_Program_amounts sNil) (sCons (dMeth 3 F_Program_prices (sCons (dVar 7) sNil)) sNil)))))))))))
/-- rows, goals, costs: Program(rows, goals), then the rest -/
def F_solved (ds : List PyData) : Option PyData := match ds with
  | [rows, goals, costs] => (F_init [rows, goals]).bind fun m => if m.w = true then (B_solved ⟨[some rows, some goals, some costs, none, none, none, none, none], some m, 3, [], true⟩).bind resD else none
  | _ => none
section
variable {P : Program} {w : World} {K : PySem.W.Frag} {mg : Str → Option Value} {base : Heap} {C : Addr} {T : List Addr} {f : Addr} {fd : FuncData} {cdv : Value}
theorem ok_solved (b : Blt mg) (cl : ClsT K C) (mk : MakI P w K mg base C T 3) (m_climb : MetMM P w K mg base C T 6 "climb" F_Program_climb) (m_multiplier : MetD P w K mg base C T 4 "multiplier" F_Program_multiplier) (m_prices : MetD P w K mg base C T 5 "prices" F_Program_prices)
    (m_leave_help : MetMM P w K mg base C T 4 "leave_help" F_Program_leave_help) (m_amounts : MetD P w K mg base C T 1 "amounts" F_Program_amounts) (D : DefC K mg "solved" s_solved f fd cdv ["rows", "goals", "costs"]) : CalD P w K mg base T 8 "solved" F_solved := by
  refine ⟨f, fd, ["rows", "goals", "costs"], ?_, D.mgf, D.fn.kp, D.b⟩
  obtain ⟨oc, od, kV, doc, pm, an, ct, osl, rfl, lk, hcd⟩ := D.fn.ex
  obtain ⟨fi, fdi, psi, M, FI, mC, bI⟩ := mk.ex
  refine fn_of lk hcd sc_solved (fun vs H Q E h => ?_) fun A outer s H vs Q E hr hsp => ⟨_, PSs.nox (pss_cons (ps_set (i := 3) sc_solved.nd rfl (Or.inl rfl) (pe_make M FI (hr.mono (by decide)) (by rfl) mC bI .nil pass0 (show PDs _ C T _ (sCons (dVar 0) (sCons (dVar 1) sNil)) from pds_cons (pd_var (pv 0)) (pds_cons (pd_var (pv 1)) pds_nil))))
    (show PSDs _ C T _ B_solved from (psds_cons (psd_set (i := 4) sc_solved.nd rfl (Or.inl rfl) (pd_add (pd_lc (own := [("k", 5)]) (tgt := (.one 5)) (by rfl) sc_solved.nd (pit_seq (pd_var (pv 2))) (blkOk_by (by kernel_rfl)) (fun _ _ _ _ _ => pgt_one (i := 5) sc_solved.nd rfl (Or.inl rfl)) (fun _ _ _ _ _ => pts_no) (fun _ _ _ _ _ => (pd_tup (pds_cons pd_int (pds_cons pd_int pds_nil))))) (pd_lc (own := [("row", 6)]) (tgt := (.one 6)) (by rfl) sc_solved.nd (pit_seq (pd_var (pv 0))) (blkOk_by (by kernel_rfl)) (fun _ _ _ _ _ => pgt_one (i := 6) sc_solved.nd rfl (Or.inl rfl)) (fun _ _ _ _ _ => pts_no) (fun _ _ _ _ _ => (pd_tup (pds_cons (pd_neg pd_int) (pds_cons pd_int pds_nil)))))))
    (psds_cons (psd_callMm (si := 3) m_climb (pv 3) cl hr (pds_cons (pd_var (pv 4)) (pds_cons (pd_many (si := 3) (pv 3) cl.c cl.many) pds_nil)))
    (psds_cons (psd_if (pt_lt (pd_ix (pd_m (si := 3) m_multiplier (pv 3) cl hr (pds_cons (pd_var (pv 4)) (pds_cons (pd_add (pd_many (si := 3) (pv 3) cl.c cl.many) (pd_len (by rfl) b.len (pd_var (pv 0)))) pds_nil))) pd_int (fun _ _ => rfl)) pd_int) (psds_one (psd_ret (pd_tup (pds_cons pd_str (pds_cons (pd_m (si := 3) m_prices (pv 3) cl hr (pds_cons (pd_var (pv 4)) pds_nil)) pds_nil))))) psds_nil)
    (psds_cons (psd_callMm0 (si := 3) m_leave_help (pv 3) cl hr)
    (psds_cons (psd_set (i := 7) sc_solved.nd rfl (Or.inl rfl) (pd_add (pd_list (by rfl) b.list (pd_var (pv 2))) (pd_lc (own := [("row", 6)]) (tgt := (.one 6)) (by rfl) sc_solved.nd (pit_seq (pd_var (pv 0))) (blkOk_by (by kernel_rfl)) (fun _ _ _ _ _ => pgt_one (i := 6) sc_solved.nd rfl (Or.inl rfl)) (fun _ _ _ _ _ => pts_no) (fun _ _ _ _ _ => (pd_tup (pds_cons pd_int (pds_cons pd_int pds_nil)))))))
    (psds_cons (psd_ifNotMm (si := 3) m_climb (pv 3) cl hr (pds_cons (pd_var (pv 7)) (pds_cons (pd_many (si := 3) (pv 3) cl.c cl.many) pds_nil)) (psds_one (psd_ret (pd_tup (pds_cons pd_str pds_nil)))) psds_nil)
    (psds_one (psd_ret (pd_tup (pds_cons pd_str (pds_cons (pd_m0 (si := 3) m_amounts (pv 3) cl hr) (pds_cons (pd_m (si := 3) m_prices (pv 3) cl hr (pds_cons (pd_var (pv 7)) pds_nil)) pds_nil)))))))))))))), ?_⟩
  · obtain ⟨S, ds, d, _, _, dv, e, _⟩ := h
    unfold F_solved at e
    split at e
    · rw [dv.length]
      rfl
    · cases e
  · obtain ⟨S, ds, d, ht, so, dv, e, q⟩ := hsp
    unfold F_solved at e
    split at e
    case h_2 => cases e
    rename_i rows goals costs
    obtain ⟨m, e1, e⟩ := Option.bind_eq_some_iff.mp e
    split at e
    case isFalse => cases e
    rename_i hw
    obtain ⟨r, e2, e3⟩ := Option.bind_eq_some_iff.mp e
    cases dv with
    | cons d1 dv =>
    cases dv with
    | cons d2 dv =>
    cases dv with
    | cons d3 dv =>
    cases dv
    rename_i v1 v2 v3
    have E0 : EnR C T S H [some v1, some v2, some v3, none, none, none, none, none] ⟨[some rows, some goals, some costs, none, none, none, none, none], none, 0, [], true⟩ := by
      refine ⟨ht, so, rfl, fun i d h => ?_, fun m h => (by cases h), fun i ds h => (by cases h)⟩
      match i with
      | 0 => cases h; exact ⟨v1, rfl, d1⟩
      | 1 => cases h; exact ⟨v2, rfl, d2⟩
      | 2 => cases h; exact ⟨v3, rfl, d3⟩
      | 3 => cases h
      | 4 => cases h
      | 5 => cases h
      | 6 => cases h
      | 7 => cases h
      | n + 8 => cases h
    refine ⟨S, _, [rows, goals], E0, rfl, fun vs H1 g1 dvs x dx hx hdx hne => ?_⟩
    have gg : Grow T H1 (upd (upd H1 dx (.own x)) x (.ins C dx [])) := (Grow.new hdx).trans (Grow.new (by rw [upd_ne hne.symm]; exact hx))
    have hHx : H x = none := g1.dom x hx
    have so1 : SOk (S.add x) (upd (upd H1 dx (.own x)) x (.ins C dx [])) := ((so.grow g1).grow gg).add upd_same nt_ins
    have mk : ∀ {v d}, DVs S H1 v d → DVs (S.add x) (upd (upd H1 dx (.own x)) x (.ins C dx [])) v d := fun h => h.mono fun b o hs e n => ⟨Av.add_ne hs (ne_of_none e hx), gg.keep b o e n⟩
    refine ⟨S.add x, x, dx, vs, [rows, goals], m, by rw [List.append_nil], gg.tabs (g1.tabs ht), so1, Av.add_self, upd_same, mk dvs, e1, hw, fun H' S' ps pr pb gm hsub hnew so' tabs' npr npb sr => ⟨rfl, ?_⟩⟩
    have npr : H pr = none := g1.dom _ (gg.dom _ npr)
    have npb : H pb = none := g1.dom _ (gg.dom _ npb)
    have nex : ∀ {b : Addr} {o : HO}, H b = some o → onlyA x b = false := fun {b o} hb => decide_eq_false (ne_of_none hb hHx)
    have keep : ∀ b o, H b = some o → NT o → H' b = some o := fun b o hb n => gm.keep b o (nex hb) (gg.keep _ _ (g1.keep _ _ hb n) n) n
    have gr : Grow T H H' := ⟨keep, fun t => gm.tabs (gg.tabs (g1.tabs t)), fun b h => g1.dom _ (gg.dom _ (gm.dom _ h))⟩
    have S'f : ∀ {b : Addr} {o : HO}, S b = false → H b = some o → S' b = false := fun {b o} hs ho => by
      cases z : S' b with
      | false => rfl
      | true =>
        rcases hnew b z with k | k
        · have := Av.add_ne hs (ne_of_none ho hHx)
          rw [this] at k
          cases k
        · have := g1.dom _ (gg.dom _ k)
          rw [this] at ho
          cases ho
    have mk2 : ∀ {v d}, DV S H v d → DV S' H' v d := fun h => h.mono fun b o hs e n => ⟨S'f hs e, keep b o e n⟩
    refine ⟨⟨S, fun _ => false, H, none⟩, _, r, ⟨S', ⟨x, ps, pr, pb⟩, fun _ => 0, tabs', so', rfl, fun i d h => ?_, fun m0 h => ?_, fun i ds h => (by cases h), fun i j ds es _ h => (by cases h), fun a h => hsub a (Av.add_of h), fun a h => ?_, so, gr.gm, fun q h => (by cases h)⟩, e2, fun ρ' h σ' H2 E' => ?_, fun ρ' d' h v σ' H2 E' dv' => ?_⟩
    · match i with
      | 0 => cases h; exact ⟨v1, rfl, mk2 d1⟩
      | 1 => cases h; exact ⟨v2, rfl, mk2 d2⟩
      | 2 => cases h; exact ⟨v3, rfl, mk2 d3⟩
      | 3 => cases h
      | 4 => cases h
      | 5 => cases h
      | 6 => cases h
      | 7 => cases h
      | n + 8 => cases h
    · have h : some m = some m0 := h
      cases h
      exact ⟨rfl, sr, fun _ => ⟨.inr npr, .inr npb⟩⟩
    · rcases hnew a h with k | k
      · by_cases ha : a = x
        · rw [ha]; exact .inr hHx
        · refine .inl ?_
          unfold Av.add at k
          rw [decide_eq_false ha, Bool.or_false] at k
          exact k
      · exact .inr (g1.dom _ (gg.dom _ k))
    · subst h
      cases e3
      obtain ⟨S2, pm2, oa2, c2⟩ := E'
      exact q _ H2 c2.gr.no .non
    · subst h
      cases e3
      obtain ⟨S2, pm2, oa2, c2⟩ := E'
      exact q v H2 c2.gr.no dv'
end
end CD
end
section
set_option maxHeartbeats 4000000
namespace CD
open PySem PySem.Spec PyProof.Rows L2 DL
open GxR (TabB TabG Tabbed)
section
variable {P : Program} {w : World} {K : PySem.W.Frag} {mg : Str → Option Value} {base : Heap} {C : Addr} {T : List Addr} {f : Addr} {fd : FuncData} {cdv : Value}
def s_party_paper : Stmt := by
  refine (fun (x : Stmt) (h : top 37 = x) => x) ?x ?h
  case h =>
    conv => lhs; whnf
def B_party_paper : En → Option SR := (sThen (sExp (dCall F_need_gains (sCons (dVar 0) (sCons (dVar 1) sNil))))
  (sThen (sPar3 2 3 4 (dFun fLen (dVar 0)) (dCall F_with_chiefs (sCons (dVar 0) sNil)))
  (sThen (sSet 5 (bin2 dAdd (dFun fLen (dVar 3)) (dVar 2)))
  (sThen (sForM (sRng2 (dC (.int 1)) (bin2 dAdd (dVar 2) (dC (.int 1)))) (.one 6) (sThen (sSet 7 (dComp [8] (sSeq (dVar 3)) (.one 8) bYes (dTup (sCons (dIf (bOf (bin2 dIn (dVar 6) (dTup (sCons (dVar 8) (sCons (bin2 dIx (dVar 0) (bin2 dSub (dVar 8) (dC (.int 1)))) sNil))))) (dC (.int 1)) (dC (.int 0))) (sCons (dC (.int 1)) sNil)))))
  (sThen (sSet 7 (bin2 dAdd (dVar 7) (dComp [9] (sRng2 (dC (.int 1)) (bin2 dAdd (dVar 2) (dC (.int 1)))) (.one 9) bYes (dTup (sCons (dIf (bOf (bin2 dEq (dVar 9) (dVar 6))) (dC (.int 1)) (dC (.int 0))) (sCons (dC (.int 1)) sNil))))))
  (sApp 4 (bin2 dAdd (dVar 7) (dComp [9] (sRng2 (dC (.int 1)) (bin2 dAdd (dVar 2) (dC (.int 1)))) (.one 9) bYes (dTup (sCons (dIf (bOf (bin2 dEq (dVar 9) (dVar 6))) (dNeg (dC (.int 1))) (dC (.int 0))) (sCons (dC (.int 1)) sNil)))))))))
  (sThen (sSet 10 (dComp [11] (sRng1 (bin2 dAdd (dVar 5) (dVar 2))) (.one 11) bYes (dTup (sCons (dIf (bOf (bin2 dLt (dVar 11) (dVar 5))) (dNeg (dC (.int 1))) (dC (.int 0))) (sCons (dC (.int 1)) sNil)))))
  (sThen (sRel 4 (sSet 12 (bin2 dIx (dCall F_solved (sCons (dVar 4) (sCons (dComp [13] (sSeq (dVar 1)) (.one 13) bYes (dTup (sCons (dVar 13) (sCons (dC (.int 1)) sNil)))) (sCons (dVar 10) sNil)))) (dC (.int 1)))))
  (sRet (dTup (sCons (dFun fTup (dSl (dVar 12) oNo (oSo (dFun fLen (dVar 3))))) (sCons (dFun fTup (dSl (dVar 12) (oSo (dFun fLen (dVar 3))) (oSo (dVar 5)))) sNil))))))))))
def F_party_paper : List PyData → Option PyData := runD 2 14 B_party_paper
theorem sc_party_paper : FnScope ["chart", "gains", "size", "tied", "rows", "many", "person", "row", "one", "other", "costs", "k", "found", "gain"] ["chart", "gains"] (defScope s_party_paper) := ⟨rfl, rfl, rfl, by decide +kernel, rfl, by decide +kernel, by decide +kernel⟩
theorem ok_party_paper (b : Blt mg) (c_need_gains : CalD P w K mg base T 7 "need_gains" F_need_gains) (c_with_chiefs : CalD P w K mg base T 1 "with_chiefs" F_with_chiefs) (c_solved : CalD P w K mg base T 8 "solved" F_solved) (D : DefC K mg "party_paper" s_party_paper f fd cdv ["chart", "gains"]) : CalD P w K mg base T 9 "party_paper" F_party_paper :=
  cal_mk (C := 0) (F := B_party_paper) (np := 2) (nN := 14) (by rw [F_party_paper]) D sc_party_paper rfl rfl fun A outer s H E hr => by
    unfold B_party_paper
    exact (psds_cons (psd_exp (pd_c c_need_gains hr (by rfl) (pds_cons (pd_var (pv 0)) (pds_cons (pd_var (pv 1)) pds_nil))))
    (psds_cons (psd_par3 (i := 2) (j := 3) (l := 4) (by rfl) sc_party_paper.nd rfl rfl rfl (by decide) (by decide) (by decide) rfl rfl rfl (pd_len (by rfl) b.len (pd_var (pv 0))) (pd_c c_with_chiefs hr (by rfl) (pds_cons (pd_var (pv 0)) pds_nil)) (by with_unfolding_all rfl))
    (psds_cons (psd_set (i := 5) sc_party_paper.nd rfl (Or.inr rfl) (pd_add (pd_len (by rfl) b.len (pd_var (pv 3))) (pd_var (pv 2))))
    (psds_cons (psd_forM (tgt := (.one 6)) PassesOwn.never (by rfl) (pit_rng2 (by rfl) b.range pd_int (pd_add (pd_var (pv 2)) pd_int)) (pgt_one (i := 6) sc_party_paper.nd rfl (Or.inr rfl)) (psds_cons (psd_setLc (i := 7) (own := [("one", 8)]) (tgt := (.one 8)) (by rfl) sc_party_paper.nd rfl rfl (sw_true rfl rfl rfl (by kernel_rfl)) (pit_seq (pd_var (pv 3))) (blkOk_by (by kernel_rfl)) (fun _ _ _ _ _ => pgt_one (i := 8) sc_party_paper.nd rfl (Or.inl rfl)) (fun _ _ _ _ _ => pts_no) (fun _ _ _ _ _ => (pd_tup (pds_cons (pd_if (pt_in hr (pd_var (pv 6)) (pd_tup (pds_cons (pd_var (pv 8)) (pds_cons (pd_ix (pd_var (pv 0)) (pd_sub (pd_var (pv 8)) pd_int) (fun _ _ => rfl)) pds_nil)))) pd_int pd_int) (pds_cons pd_int pds_nil)))))
    (psds_cons (psd_set (i := 7) sc_party_paper.nd rfl (Or.inl rfl) (pd_add (pd_var (pv 7)) (pd_lc (own := [("other", 9)]) (tgt := (.one 9)) (by rfl) sc_party_paper.nd (pit_rng2 (by rfl) b.range pd_int (pd_add (pd_var (pv 2)) pd_int)) (blkOk_by (by kernel_rfl)) (fun _ _ _ _ _ => pgt_one (i := 9) sc_party_paper.nd rfl (Or.inl rfl)) (fun _ _ _ _ _ => pts_no) (fun _ _ _ _ _ => (pd_tup (pds_cons (pd_if (pt_eq hr (pd_var (pv 9)) (pd_var (pv 6))) pd_int pd_int) (pds_cons pd_int pds_nil)))))))
    (psds_one (psd_app (i := 4) (pv 4) (pd_add (pd_var (pv 7)) (pd_lc (own := [("other", 9)]) (tgt := (.one 9)) (by rfl) sc_party_paper.nd (pit_rng2 (by rfl) b.range pd_int (pd_add (pd_var (pv 2)) pd_int)) (blkOk_by (by kernel_rfl)) (fun _ _ _ _ _ => pgt_one (i := 9) sc_party_paper.nd rfl (Or.inl rfl)) (fun _ _ _ _ _ => pts_no) (fun _ _ _ _ _ => (pd_tup (pds_cons (pd_if (pt_eq hr (pd_var (pv 9)) (pd_var (pv 6))) (pd_neg pd_int) pd_int) (pds_cons pd_int pds_nil)))))))))))
    (psds_cons (psd_setLc (i := 10) (own := [("k", 11)]) (tgt := (.one 11)) (by rfl) sc_party_paper.nd rfl rfl (sw_true rfl rfl rfl (by kernel_rfl)) (pit_rng1 (by rfl) b.range (pd_add (pd_var (pv 5)) (pd_var (pv 2)))) (blkOk_by (by kernel_rfl)) (fun _ _ _ _ _ => pgt_one (i := 11) sc_party_paper.nd rfl (Or.inl rfl)) (fun _ _ _ _ _ => pts_no) (fun _ _ _ _ _ => (pd_tup (pds_cons (pd_if (pt_lt (pd_var (pv 11)) (pd_var (pv 5))) (pd_neg pd_int) pd_int) (pds_cons pd_int pds_nil)))))
    (psds_cons (psd_rel (i := 4) (psd_set (i := 12) sc_party_paper.nd rfl (Or.inl rfl) (pd_ix (pd_c c_solved hr (by rfl) (pds_cons (pd_var (pv 4)) (pds_cons (pd_lc (own := [("gain", 13)]) (tgt := (.one 13)) (by rfl) sc_party_paper.nd (pit_seq (pd_var (pv 1))) (blkOk_by (by kernel_rfl)) (fun _ _ _ _ _ => pgt_one (i := 13) sc_party_paper.nd rfl (Or.inl rfl)) (fun _ _ _ _ _ => pts_no) (fun _ _ _ _ _ => (pd_tup (pds_cons (pd_var (pv 13)) (pds_cons pd_int pds_nil))))) (pds_cons (pd_var (pv 10)) pds_nil)))) pd_int (fun _ _ => rfl))))
    (psds_one (psd_ret (pd_tup (pds_cons (pd_tuple (by rfl) b.tuple (pd_sl (pd_var (pv 12)) pdo_none (pdo_some (pd_len (by rfl) b.len (pd_var (pv 3)))))) (pds_cons (pd_tuple (by rfl) b.tuple (pd_sl (pd_var (pv 12)) (pdo_some (pd_len (by rfl) b.len (pd_var (pv 3)))) (pdo_some (pd_var (pv 5))))) pds_nil)))))))))))
end
end CD
end
section
set_option maxHeartbeats 4000000
namespace CD
open PySem PySem.Spec PyProof.Rows L2 DL
open GxR (TabB TabG Tabbed)
section
variable {P : Program} {w : World} {K : PySem.W.Frag} {mg : Str → Option Value} {base : Heap} {C : Addr} {T : List Addr} {f : Addr} {fd : FuncData} {cdv : Value}
def s_law : Stmt := by
  refine (fun (x : Stmt) (h : top 62 = x) => x) ?x ?h
  case h =>
    conv => lhs; whnf
def B_law : En → Option SR := (sThen (sPar 6 7 (sCons (dCall F__law_lots (sCons (dVar 2) sNil)) (sCons (dLst sNil) sNil)))
  (sThen (sFor (sSeq (dVar 6)) (.one 8) (sSet 7 (bin2 dAdd (dVar 7) (bin2 dMul (dLst (sCons (dVar 8) sNil)) (dFun fInt (bin2 dEq (dComp [5] (sSeq (dVar 8)) (.one 5) (bOf (bin2 dIn (bin2 dIx (dVar 3) (bin2 dSub (dVar 5) (dC (.int 1)))) (dVar 8))) (dVar 5)) (dLst sNil)))))))
  (sThen (sSet 9 (dComp [8] (sSeq (dVar 7)) (.one 8) bYes (dFun fSum (dComp [5] (sSeq (dVar 8)) (.one 5) bYes (bin2 dIx (dVar 4) (bin2 dSub (dVar 5) (dC (.int 1))))))))
  (sThen (sAsg3 10 11 12 (sCons (dFun fMax (dVar 9)) (sCons (dCall F_best_party (sCons (dVar 3) (sCons (dVar 4) sNil))) (sCons (dCall F_party_paper (sCons (dVar 3) (sCons (dVar 4) sNil))) sNil))))
  (sThen (sIf (bNot (bOf (dCall F__law_alike (sCons (dCall F_party_count (sCons (dVar 3) sNil)) (sCons (dFun fLen (dVar 7)) sNil))))) (sRet (dC (.bool false))) sSkip)
  (sThen (sIf (bOr (bNot (bOf (dIsi "tuple" (dVar 11)))) (bOr (bOf (bin2 dNe (dFun fLen (dVar 11)) (dC (.int 2)))) (bOr (bOf (bin2 dNe (bin2 dIx (dVar 11) (dC (.int 0))) (dVar 10))) (bOr (bOf (bin2 dNotIn (bin2 dIx (dVar 11) (dC (.int 1))) (dVar 7))) (bOf (bin2 dNe (bin2 dIx (dVar 9) (bin2 dIdx (dVar 7) (bin2 dIx (dVar 11) (dC (.int 1))))) (dVar 10))))))) (sRet (dC (.bool false))) sSkip)
  (sThen (sSet 13 (dLst (sCons (dVar 11) (sCons (dFun fList (dVar 11)) (sCons (dTup (sCons (dVar 10) (sCons (dFun fList (bin2 dIx (dVar 11) (dC (.int 1)))) sNil))) (sCons (dTup (sCons (bin2 dAdd (dVar 10) (dC (.int 1))) (sCons (bin2 dIx (dVar 11) (dC (.int 1))) sNil))) (sCons (dTup (sCons (dVar 10) (sCons (dRevT (bin2 dIx (dVar 11) (dC (.int 1)))) sNil))) (sCons (dTup (sCons (dVar 10) (sCons (dTup sNil) sNil))) (sCons (dC .none) (sCons (dC (.int 3)) (sCons (dTup (sCons (dVar 10) (sCons (dTup (sCons (bin2 dAdd (dVar 2) (dC (.int 1))) sNil)) sNil))) sNil)))))))))))
  (sThen (sFor (sSeq (bin2 dAdd (dVar 13) (dComp [8] (sSeq (dSl (dVar 6) oNo (oSo (dC (.int 40))))) (.one 8) bYes (dTup (sCons (dVar 10) (sCons (dVar 8) sNil)))))) (.one 14) (sThen (sSet 15 (vAnd (dIsi "tuple" (dVar 14)) (vAnd (bin2 dEq (dFun fLen (dVar 14)) (dC (.int 2))) (vAnd (bin2 dEq (bin2 dIx (dVar 14) (dC (.int 0))) (dVar 10)) (dIsi "tuple" (bin2 dIx (dVar 14) (dC (.int 1))))))))
  (sThen (sSet 15 (vAnd (dVar 15) (vAnd (bin2 dIn (bin2 dIx (dVar 14) (dC (.int 1))) (dVar 7)) (bin2 dEq (bin2 dIx (dVar 9) (bin2 dIdx (dVar 7) (bin2 dIx (dVar 14) (dC (.int 1))))) (dVar 10)))))
  (sIf (bNot (bOf (dCall F__law_alike (sCons (dCall F_shows_best_party (sCons (dVar 3) (sCons (dVar 4) (sCons (dVar 14) sNil)))) (sCons (dVar 15) sNil))))) (sRet (dC (.bool false))) sSkip))))
  (sThen (sIf (bNot (bOf (dCall F__law_is_paper (sCons (dVar 3) (sCons (dVar 4) (sCons (dVar 10) (sCons (dVar 12) sNil))))))) (sRet (dC (.bool false))) sSkip)
  (sThen (sOwn 16 (fL (sCons (dVar 12) (sCons (dFun fList (dVar 12)) (sCons (dRevT (dVar 12)) (sCons (dSl (dVar 12) oNo (oSo (dC (.int 1)))) (sCons (dTup (sCons (dFun fList (bin2 dIx (dVar 12) (dC (.int 0)))) (sCons (bin2 dIx (dVar 12) (dC (.int 1))) sNil))) (sCons (dC .none) (sCons (dC (.int 3)) sNil)))))))))
  (sThen (sForM (sRng1 (dC (.int 2))) (.one 17) (sForM (sRng1 (dFun fLen (bin2 dIx (dVar 12) (dVar 17)))) (.one 5) (sForM (sSeq (dLst (sCons (dTup (sCons (dC (.int 1)) (sCons (dC (.int 2)) sNil))) (sCons (dTup (sCons (dNeg (dC (.int 1))) (sCons (dC (.int 2)) sNil))) sNil)))) (.one 18) (sThen (sSet 19 (bin2 dAdd (bin2 dAdd (dSl (bin2 dIx (dVar 12) (dVar 17)) oNo (oSo (dVar 5))) (dTup (sCons (dCall F__law_plus (sCons (bin2 dIx (bin2 dIx (dVar 12) (dVar 17)) (dVar 5)) (sCons (dVar 18) sNil))) sNil))) (dSl (bin2 dIx (dVar 12) (dVar 17)) (oSo (bin2 dAdd (dVar 5) (dC (.int 1)))) oNo)))
  (sApp 16 (dIf (bOf (bin2 dEq (dVar 17) (dC (.int 0)))) (dTup (sCons (dVar 19) (sCons (bin2 dIx (dVar 12) (dC (.int 1))) sNil))) (dTup (sCons (bin2 dIx (dVar 12) (dC (.int 0))) (sCons (dVar 19) sNil)))))))))
  (sThen (sRel 16 (sFor (sSeq (dVar 16)) (.one 14) (sIf (bNot (bOf (dCall F__law_alike (sCons (dCall F_shows_party_paper (sCons (dVar 3) (sCons (dVar 4) (sCons (dVar 14) sNil)))) (sCons (dCall F__law_is_paper (sCons (dVar 3) (sCons (dVar 4) (sCons (dVar 10) (sCons (dVar 14) sNil))))) sNil))))) (sRet (dC (.bool false))) sSkip)))
  (sThen (sSet 20 (dLst sNil))
  (sThen (sFor (sSeq (dVar 6)) (.one 8) (sThen (sSet 21 (dComp [5] (sRng2 (dC (.int 1)) (bin2 dAdd (dVar 2) (dC (.int 1)))) (.one 5) (bAnd (bOf (bin2 dNotIn (dVar 5) (dVar 8))) (bAnd (bOf (bin2 dNotIn (bin2 dIx (dVar 3) (bin2 dSub (dVar 5) (dC (.int 1)))) (dVar 8))) (bOf (bin2 dEq (dComp [22] (sSeq (dVar 8)) (.one 22) (bOf (bin2 dEq (bin2 dIx (dVar 3) (bin2 dSub (dVar 22) (dC (.int 1)))) (dVar 5))) (dVar 22)) (dLst sNil))))) (dVar 5)))
  (sSet 20 (bin2 dAdd (dVar 20) (bin2 dMul (dLst (sCons (dFun fLen (dVar 8)) sNil)) (dFun fInt (bin2 dEq (dVar 21) (dLst sNil))))))))
  (sRet (dCall F__law_alike (sCons (dCall F_fewest_watchers (sCons (dVar 3) sNil)) (sCons (dFun fMin (dVar 20)) sNil))))))))))))))))))
def N_law : List Str := ["_law_script", "_law_row_here", "_law_size", "_law_chart_here", "_law_gains", "_law_k", "_law_lots_here", "_law_good", "_law_lot", "_law_sums", "_law_best", "_law_found", "_law_paper", "_law_values", "_law_value", "_law_due", "_law_papers", "_law_part", "_law_step_here", "_law_each", "_law_watch", "_law_bare", "_law_j"]
theorem sc_law : FnScope ["_law_script", "_law_row_here", "_law_size", "_law_chart_here", "_law_gains", "_law_k", "_law_lots_here", "_law_good", "_law_lot", "_law_sums", "_law_best", "_law_found", "_law_paper", "_law_values", "_law_value", "_law_due", "_law_papers", "_law_part", "_law_step_here", "_law_each", "_law_watch", "_law_bare", "_law_j"] ["_law_script"] (defScope s_law) := ⟨rfl, rfl, rfl, by decide +kernel, rfl, by decide +kernel, by decide +kernel⟩
theorem ok_law_rest (b : Blt mg) (c__law_lots : CalD P w K mg base T 1 "_law_lots" F__law_lots) (c_party_paper : CalD P w K mg base T 9 "party_paper" F_party_paper) (c_best_party : CalD P w K mg base T 8 "best_party" F_best_party) (c__law_alike : CalD P w K mg base T 1 "_law_alike" F__law_alike) (c_party_count : CalD P w K mg base T 7 "party_count" F_party_count) (c_shows_best_party : CalD P w K mg base T 8 "shows_best_party" F_shows_best_party) (c__law_is_paper : CalD P w K mg base T 4 "_law_is_paper" F__law_is_paper) (c__law_plus : CalD P w K mg base T 2 "_law_plus" F__law_plus) (c_shows_party_paper : CalD P w K mg base T 9 "shows_party_paper" F_shows_party_paper) (c_fewest_watchers : CalD P w K mg base T 7 "fewest_watchers" F_fewest_watchers) (A : Around) (outer : List Env) (s : Shared) (H : Hp) (E : XK) (hr : Room 9 (A.deeper (envOfC "law" (defScope s_law) s.heap.objs.size f cdv))) : PSDs (cxOf CX0 P w K mg base ["_law_script", "_law_row_here", "_law_size", "_law_chart_here", "_law_gains", "_law_k", "_law_lots_here", "_law_good", "_law_lot", "_law_sums", "_law_best", "_law_found", "_law_paper", "_law_values", "_law_value", "_law_due", "_law_papers", "_law_part", "_law_step_here", "_law_each", "_law_watch", "_law_bare", "_law_j"] "law" (defScope s_law) f cdv A outer s H E).nox 0 T ((defBody s_law).drop 3) B_law := by
    unfold B_law
    exact (psds_cons (psd_par (i := 6) (j := 7) (by rfl) sc_law.nd rfl rfl (by decide) rfl rfl (pds_cons (pd_c c__law_lots hr (by rfl) (pds_cons (pd_var (pv 2)) pds_nil)) (pds_cons (pd_lst pds_nil) pds_nil)) (by with_unfolding_all rfl))
    (psds_cons (psd_for (tgt := (.one 8)) PassesOwn.never (by rfl) (pit_seq (pd_var (pv 6))) (pgt_one (i := 8) sc_law.nd rfl (Or.inr rfl)) (psds_one (psd_set (i := 7) sc_law.nd rfl (Or.inl rfl) (pd_add (pd_var (pv 7)) (pd_mul (pd_lst (pds_cons (pd_var (pv 8)) pds_nil)) (pd_intc (by rfl) b.int (pd_eq hr (pd_lc (own := [("_law_k", 5)]) (tgt := (.one 5)) (by rfl) sc_law.nd (pit_seq (pd_var (pv 8))) (blkOk_by (by kernel_rfl)) (fun _ _ _ _ _ => pgt_one (i := 5) sc_law.nd rfl (Or.inl rfl)) (fun _ _ _ _ _ => pts_one (pt_in hr (pd_ix (pd_var (pv 3)) (pd_sub (pd_var (pv 5)) pd_int) (fun _ _ => rfl)) (pd_var (pv 8)))) (fun _ _ _ _ _ => (pd_var (pv 5)))) (pd_lst pds_nil))))))))
    (psds_cons (psd_setLc (i := 9) (own := [("_law_lot", 8)]) (tgt := (.one 8)) (by rfl) sc_law.nd rfl rfl (sw_true rfl rfl rfl (by kernel_rfl)) (pit_seq (pd_var (pv 7))) (blkOk_by (by kernel_rfl)) (fun _ _ _ _ _ => pgt_one (i := 8) sc_law.nd rfl (Or.inl rfl)) (fun _ _ _ _ _ => pts_no) (fun _ _ _ _ _ => (pd_sum (by rfl) (by rfl) b.sum (pd_lc (own := [("_law_k", 5)]) (tgt := (.one 5)) (by rfl) sc_law.nd (pit_seq (pd_var (pv 8))) (blkOk_by (by kernel_rfl)) (fun _ _ _ _ _ => pgt_one (i := 5) sc_law.nd rfl (Or.inl rfl)) (fun _ _ _ _ _ => pts_no) (fun _ _ _ _ _ => (pd_ix (pd_var (pv 4)) (pd_sub (pd_var (pv 5)) pd_int) (fun _ _ => rfl)))))))
    (psds_cons (psd_asg3 (i := 10) (j := 11) (l := 12) (by rfl) sc_law.nd rfl rfl rfl (Or.inr rfl) (Or.inl rfl) (Or.inl rfl) (pds_cons (pd_max (by rfl) (by rfl) b.max (pd_var (pv 9))) (pds_cons (pd_c c_best_party hr (by rfl) (pds_cons (pd_var (pv 3)) (pds_cons (pd_var (pv 4)) pds_nil))) (pds_cons (pd_c c_party_paper hr (by rfl) (pds_cons (pd_var (pv 3)) (pds_cons (pd_var (pv 4)) pds_nil))) pds_nil))))
    (psds_cons (psd_if (ptb_not (pdb_val (pd_c c__law_alike hr (by rfl) (pds_cons (pd_c c_party_count hr (by rfl) (pds_cons (pd_var (pv 3)) pds_nil)) (pds_cons (pd_len (by rfl) b.len (pd_var (pv 7))) pds_nil))))) (psds_one (psd_ret pd_bl)) psds_nil)
    (psds_cons (psd_if (ptb_of (pwb_or (ptb_not (pdb_val (pd_isi tyOk_tuple (by rfl) b.isinstance (by rfl) b.tuple (pd_var (pv 11))))) (pwb_or (pt_ne hr (pd_len (by rfl) b.len (pd_var (pv 11))) pd_int) (pwb_or (pt_ne hr (pd_ix (pd_var (pv 11)) pd_int (fun _ _ => rfl)) (pd_var (pv 10))) (pwb_or (pt_notIn hr (pd_ix (pd_var (pv 11)) pd_int (fun _ _ => rfl)) (pd_var (pv 7))) (pwb_or1 (pt_ne hr (pd_ix (pd_var (pv 9)) (pd_index hr (pd_var (pv 7)) (pd_ix (pd_var (pv 11)) pd_int (fun _ _ => rfl))) (fun _ _ => rfl)) (pd_var (pv 10))))))))) (psds_one (psd_ret pd_bl)) psds_nil)
    (psds_cons (psd_set (i := 13) sc_law.nd rfl (Or.inl rfl) (pd_lst (pds_cons (pd_var (pv 11)) (pds_cons (pd_list (by rfl) b.list (pd_var (pv 11))) (pds_cons (pd_tup (pds_cons (pd_var (pv 10)) (pds_cons (pd_list (by rfl) b.list (pd_ix (pd_var (pv 11)) pd_int (fun _ _ => rfl))) pds_nil))) (pds_cons (pd_tup (pds_cons (pd_add (pd_var (pv 10)) pd_int) (pds_cons (pd_ix (pd_var (pv 11)) pd_int (fun _ _ => rfl)) pds_nil))) (pds_cons (pd_tup (pds_cons (pd_var (pv 10)) (pds_cons (pd_revT (pd_ix (pd_var (pv 11)) pd_int (fun _ _ => rfl))) pds_nil))) (pds_cons (pd_tup (pds_cons (pd_var (pv 10)) (pds_cons (pd_tup pds_nil) pds_nil))) (pds_cons pd_non (pds_cons pd_int (pds_cons (pd_tup (pds_cons (pd_var (pv 10)) (pds_cons (pd_tup (pds_cons (pd_add (pd_var (pv 2)) pd_int) pds_nil)) pds_nil))) pds_nil)))))))))))
    (psds_cons (psd_for (tgt := (.one 14)) PassesOwn.never (by rfl) (pit_seq (pd_add (pd_var (pv 13)) (pd_lc (own := [("_law_lot", 8)]) (tgt := (.one 8)) (by rfl) sc_law.nd (pit_seq (pd_sl (pd_var (pv 6)) pdo_none (pdo_some pd_int))) (blkOk_by (by kernel_rfl)) (fun _ _ _ _ _ => pgt_one (i := 8) sc_law.nd rfl (Or.inl rfl)) (fun _ _ _ _ _ => pts_no) (fun _ _ _ _ _ => (pd_tup (pds_cons (pd_var (pv 10)) (pds_cons (pd_var (pv 8)) pds_nil))))))) (pgt_one (i := 14) sc_law.nd rfl (Or.inl rfl)) (psds_cons (psd_set (i := 15) sc_law.nd rfl (Or.inl rfl) (pd_and (pd_isi tyOk_tuple (by rfl) b.isinstance (by rfl) b.tuple (pd_var (pv 14))) (pd_and (pd_eq hr (pd_len (by rfl) b.len (pd_var (pv 14))) pd_int) (pd_and (pd_eq hr (pd_ix (pd_var (pv 14)) pd_int (fun _ _ => rfl)) (pd_var (pv 10))) (pd_one (pd_isi tyOk_tuple (by rfl) b.isinstance (by rfl) b.tuple (pd_ix (pd_var (pv 14)) pd_int (fun _ _ => rfl))))))))
    (psds_cons (psd_set (i := 15) sc_law.nd rfl (Or.inl rfl) (pd_and (pd_var (pv 15)) (pd_and (pd_in hr (pd_ix (pd_var (pv 14)) pd_int (fun _ _ => rfl)) (pd_var (pv 7))) (pd_one (pd_eq hr (pd_ix (pd_var (pv 9)) (pd_index hr (pd_var (pv 7)) (pd_ix (pd_var (pv 14)) pd_int (fun _ _ => rfl))) (fun _ _ => rfl)) (pd_var (pv 10)))))))
    (psds_one (psd_if (ptb_not (pdb_val (pd_c c__law_alike hr (by rfl) (pds_cons (pd_c c_shows_best_party hr (by rfl) (pds_cons (pd_var (pv 3)) (pds_cons (pd_var (pv 4)) (pds_cons (pd_var (pv 14)) pds_nil)))) (pds_cons (pd_var (pv 15)) pds_nil))))) (psds_one (psd_ret pd_bl)) psds_nil)))))
    (psds_cons (psd_if (ptb_not (pdb_val (pd_c c__law_is_paper hr (by rfl) (pds_cons (pd_var (pv 3)) (pds_cons (pd_var (pv 4)) (pds_cons (pd_var (pv 10)) (pds_cons (pd_var (pv 12)) pds_nil))))))) (psds_one (psd_ret pd_bl)) psds_nil)
    (psds_cons (psd_own (i := 16) sc_law.nd rfl (Or.inl rfl) (pdf_lst (pds_cons (pd_var (pv 12)) (pds_cons (pd_list (by rfl) b.list (pd_var (pv 12))) (pds_cons (pd_revT (pd_var (pv 12))) (pds_cons (pd_sl (pd_var (pv 12)) pdo_none (pdo_some pd_int)) (pds_cons (pd_tup (pds_cons (pd_list (by rfl) b.list (pd_ix (pd_var (pv 12)) pd_int (fun _ _ => rfl))) (pds_cons (pd_ix (pd_var (pv 12)) pd_int (fun _ _ => rfl)) pds_nil))) (pds_cons pd_non (pds_cons pd_int pds_nil)))))))))
    (psds_cons (psd_forM (tgt := (.one 17)) PassesOwn.never (by rfl) (pit_rng1 (by rfl) b.range pd_int) (pgt_one (i := 17) sc_law.nd rfl (Or.inl rfl)) (psds_one (psd_forM (tgt := (.one 5)) PassesOwn.never (by rfl) (pit_rng1 (by rfl) b.range (pd_len (by rfl) b.len (pd_ix (pd_var (pv 12)) (pd_var (pv 17)) (fun _ _ => rfl)))) (pgt_one (i := 5) sc_law.nd rfl (Or.inl rfl)) (psds_one (psd_forM (tgt := (.one 18)) PassesOwn.never (by rfl) (pit_seq (pd_lst (pds_cons (pd_tup (pds_cons pd_int (pds_cons pd_int pds_nil))) (pds_cons (pd_tup (pds_cons (pd_neg pd_int) (pds_cons pd_int pds_nil))) pds_nil)))) (pgt_one (i := 18) sc_law.nd rfl (Or.inl rfl)) (psds_cons (psd_set (i := 19) sc_law.nd rfl (Or.inl rfl) (pd_add (pd_add (pd_sl (pd_ix (pd_var (pv 12)) (pd_var (pv 17)) (fun _ _ => rfl)) pdo_none (pdo_some (pd_var (pv 5)))) (pd_tup (pds_cons (pd_c c__law_plus hr (by rfl) (pds_cons (pd_ix (pd_ix (pd_var (pv 12)) (pd_var (pv 17)) (fun _ _ => rfl)) (pd_var (pv 5)) (fun _ _ => rfl)) (pds_cons (pd_var (pv 18)) pds_nil))) pds_nil))) (pd_sl (pd_ix (pd_var (pv 12)) (pd_var (pv 17)) (fun _ _ => rfl)) (pdo_some (pd_add (pd_var (pv 5)) pd_int)) pdo_none)))
    (psds_one (psd_app (i := 16) (pv 16) (pd_if (pt_eq hr (pd_var (pv 17)) pd_int) (pd_tup (pds_cons (pd_var (pv 19)) (pds_cons (pd_ix (pd_var (pv 12)) pd_int (fun _ _ => rfl)) pds_nil))) (pd_tup (pds_cons (pd_ix (pd_var (pv 12)) pd_int (fun _ _ => rfl)) (pds_cons (pd_var (pv 19)) pds_nil))))))))))))
    (psds_cons (psd_rel (i := 16) (psd_for (tgt := (.one 14)) PassesOwn.never (by rfl) (pit_seq (pd_var (pv 16))) (pgt_one (i := 14) sc_law.nd rfl (Or.inl rfl)) (psds_one (psd_if (ptb_not (pdb_val (pd_c c__law_alike hr (by rfl) (pds_cons (pd_c c_shows_party_paper hr (by rfl) (pds_cons (pd_var (pv 3)) (pds_cons (pd_var (pv 4)) (pds_cons (pd_var (pv 14)) pds_nil)))) (pds_cons (pd_c c__law_is_paper hr (by rfl) (pds_cons (pd_var (pv 3)) (pds_cons (pd_var (pv 4)) (pds_cons (pd_var (pv 10)) (pds_cons (pd_var (pv 14)) pds_nil))))) pds_nil))))) (psds_one (psd_ret pd_bl)) psds_nil))))
    (psds_cons (psd_set (i := 20) sc_law.nd rfl (Or.inl rfl) (pd_lst pds_nil))
    (psds_cons (psd_for (tgt := (.one 8)) PassesOwn.never (by rfl) (pit_seq (pd_var (pv 6))) (pgt_one (i := 8) sc_law.nd rfl (Or.inr rfl)) (psds_cons (psd_setLc (i := 21) (own := [("_law_k", 5)]) (tgt := (.one 5)) (by rfl) sc_law.nd rfl rfl (sw_true rfl rfl rfl (by kernel_rfl)) (pit_rng2 (by rfl) b.range pd_int (pd_add (pd_var (pv 2)) pd_int)) (blkOk_by (by kernel_rfl)) (fun _ _ _ _ _ => pgt_one (i := 5) sc_law.nd rfl (Or.inr rfl)) (fun _ _ _ _ _ => pts_one (ptb_of (pwb_and (pt_notIn hr (pd_var (pv 5)) (pd_var (pv 8))) (pwb_and (pt_notIn hr (pd_ix (pd_var (pv 3)) (pd_sub (pd_var (pv 5)) pd_int) (fun _ _ => rfl)) (pd_var (pv 8))) (pwb_and1 (pt_eq hr (pd_lc (own := [("_law_j", 22)]) (tgt := (.one 22)) (by rfl) sc_law.nd (pit_seq (pd_var (pv 8))) (blkOk_by (by kernel_rfl)) (fun _ _ _ _ _ => pgt_one (i := 22) sc_law.nd rfl (Or.inl rfl)) (fun _ _ _ _ _ => pts_one (pt_eq hr (pd_ix (pd_var (pv 3)) (pd_sub (pd_var (pv 22)) pd_int) (fun _ _ => rfl)) (pd_var (pv 5)))) (fun _ _ _ _ _ => (pd_var (pv 22)))) (pd_lst pds_nil))))))) (fun _ _ _ _ _ => (pd_var (pv 5))))
    (psds_one (psd_set (i := 20) sc_law.nd rfl (Or.inl rfl) (pd_add (pd_var (pv 20)) (pd_mul (pd_lst (pds_cons (pd_len (by rfl) b.len (pd_var (pv 8))) pds_nil)) (pd_intc (by rfl) b.int (pd_eq hr (pd_var (pv 21)) (pd_lst pds_nil)))))))))
    (psds_one (psd_ret (pd_c c__law_alike hr (by rfl) (pds_cons (pd_c c_fewest_watchers hr (by rfl) (pds_cons (pd_var (pv 3)) pds_nil)) (pds_cons (pd_min (by rfl) (by rfl) b.min (pd_var (pv 20))) pds_nil)))))))))))))))))))
end
end CD
end
section
set_option maxHeartbeats 4000000
namespace CD
open PySem PySem.Spec PyProof.Rows L2 DL
open GxR (TabB TabG Tabbed)
/-! ### draws -/
def s_taken : Stmt := by
  refine (fun (x : Stmt) (h : top 43 = x) => x) ?x ?h
  case h =>
    conv => lhs; whnf
theorem sc_taken : FnScope ["_law_row_here", "_law_many", "_law_found", "_law_cell"] ["_law_row_here", "_law_many"] (defScope s_taken) := ⟨rfl, rfl, rfl, by decide +kernel, rfl, by decide +kernel, by decide +kernel⟩
/-- the state of the draws: at a; the script at ra -/
def rowL (ra : Addr) (i j k : Int) : List V := [.ref ra, .int i, .int j, .int k]
theorem sq_upd {K : PySem.W.Frag} {H : Hp} {a b : Addr} {o : HO} {xs : List V} (h : SqL K H b xs) (n : b ≠ a) : SqL K (upd H a o) b xs := by
  rcases h with (h | ⟨z, h⟩) | h
  · exact .inl (.inl (by rw [upd_ne n]; exact h))
  · exact .inl (.inr ⟨z, by rw [upd_ne n]; exact h⟩)
  · exact .inr h
/-- the script stands, whatever is written at a -/
def Scr (K : PySem.W.Frag) (H : Hp) (a b : Addr) (xs : List V) : Prop := (∀ H', SqL K H' b xs) ∨ (b ≠ a ∧ SqL K H b xs)
theorem Scr.upd {K : PySem.W.Frag} {H : Hp} {a b : Addr} {o : HO} {xs : List V} (h : Scr K H a b xs) : Scr K (upd H a o) a b xs := h.imp id fun ⟨n, h⟩ => ⟨n, sq_upd h n⟩
theorem Scr.seq {K : PySem.W.Frag} {H : Hp} {a b : Addr} {xs : List V} (h : Scr K H a b xs) : SqL K H b xs := h.elim (fun k => k H) fun k => k.2
theorem Scr.make {K : PySem.W.Frag} {H : Hp} {a b : Addr} {o : HO} {xs : List V} (h : SqL K H b xs) (n : H a = none) : Scr K (L2.upd H a o) a b xs := by
  rcases h with (h | ⟨z, h⟩) | h
  · exact .inr ⟨ne_of_none h n, .inl (.inl (by rw [upd_ne (ne_of_none h n)]; exact h))⟩
  · exact .inr ⟨ne_of_none h n, .inl (.inr ⟨z, by rw [upd_ne (ne_of_none h n)]; exact h⟩)⟩
  · exact .inl fun _ => .inr h
def spTaken (K : PySem.W.Frag) : Sp := fun vs H Q _ => ∃ (a ra : Addr) (ns : List Int) (i j k m : Int), vs = [.ref a, .int m] ∧ 1 ≤ m ∧ m ≤ 64 ∧ H a = some (.lst (rowL ra i j k)) ∧ Scr K H a ra (ns.map V.int) ∧ 0 ≤ i ∧
  ∀ i' j' k' v : Int, 0 ≤ i' → 0 ≤ v → v < m → Q (.int v) (upd H a (.lst (rowL ra i' j' k')))
theorem fmod_in {x m : Int} (h : 1 ≤ m) : 0 ≤ x.fmod m ∧ x.fmod m < m := ⟨Int.fmod_nonneg_of_pos x (by omega), Int.fmod_lt_of_pos x (by omega)⟩
section
variable {P : Program} {w : World} {K : PySem.W.Frag} {mg : Str → Option Value} {base : Heap} {f : Addr} {fd : FuncData} {cdv : Value}
theorem ok_taken (b : Blt mg) (Fc : FC K "_law_taken" "_law_taken" s_taken f fd cdv) : FnOk P w K mg base CX0 1 f fd ["_law_row_here", "_law_many"] (spTaken K) := by
  obtain ⟨oc, od, kV, doc, pm, an, ct, osl, rfl, lk, hcd⟩ := Fc.ex
  refine fn_of lk hcd sc_taken (fun vs H Q E h => ?_) fun A outer s H vs Q E hr hsp => ⟨_, PSs.nox (
    pss_cons (ps_if (pt_cmpR op_gt (pe_ix ix_list (pv 0) pe_int (fun _ _ => rfl)) pe_int (nomark _))
      (pss_cons (ps_set (i := 2) sc_taken.nd rfl (.inl rfl) (pe_op op_modN (pe_callTy call_int1 (by rfl) b.int (by decide +kernel) (pa_cons (pe_ix ix_list (pv 0) pe_int (fun _ _ => rfl)) pa_nil)) (pv 1)))
      (pss_cons (ps_asg (pe_op op_fdivN (pe_ix ix_list (pv 0) pe_int (fun _ _ => rfl)) (pv 1)) (pg_sub (pv 0) pe_int set_list))
      (pss_one (ps_ret (pv 2))))) pss_nil)
    (pss_cons (ps_asg (pe_op op_add (pe_ix ix_list (pv 0) pe_int (fun _ _ => rfl)) pe_int) (pg_sub (pv 0) pe_int set_list))
    (pss_cons (ps_if (pt_cmpR op_gt (pe_ix ix_list (pv 0) pe_int (fun _ _ => rfl)) (pe_callB call_len_seq (by rfl) b.len PySem.boot_len (pa_cons (pe_ix ix_list (pv 0) pe_int (fun _ _ => rfl)) pa_nil)) (nomark _))
      (pss_cons (ps_asg (pe_op op_modN (pe_callTy call_int1 (by rfl) b.int (by decide +kernel) (pa_cons (pe_op op_add (pe_op op_mul (pe_ix ix_list (pv 0) pe_int (fun _ _ => rfl)) pe_int) pe_int) pa_nil)) pe_int) (pg_sub (pv 0) pe_int set_list))
      (pss_one (ps_ret (pe_op op_modN (pe_callTy call_int1 (by rfl) b.int (by decide +kernel) (pa_cons (pe_op op_fdivN (pe_ix ix_list (pv 0) pe_int (fun _ _ => rfl)) pe_int) pa_nil)) (pv 1))))) pss_nil)
    (pss_cons (ps_set (i := 3) sc_taken.nd rfl (.inl rfl) (pe_ix ix_list (pe_ix ix_list (pv 0) pe_int (fun _ _ => rfl)) (pe_op op_sub (pe_ix ix_list (pv 0) pe_int (fun _ _ => rfl)) pe_int) (fun _ _ => rfl)))
    (pss_cons (ps_asg (pe_op op_modN (pe_callTy call_int1 (by rfl) b.int (by decide +kernel) (pa_cons (pe_op op_add (pe_op op_add (pe_op op_mul (pe_ix ix_list (pv 0) pe_int (fun _ _ => rfl)) pe_int) (pv 3)) pe_int) pa_nil)) pe_int) (pg_sub (pv 0) pe_int set_list))
    (pss_cons (ps_if (pt_cmpR op_ge (pv 3) (pe_op op_pow pe_int pe_int) (nomark _))
      (pss_one (ps_asg (pe_op op_fdivN (pv 3) (pv 1)) (pg_sub (pv 0) pe_int set_list))) pss_nil)
    (pss_one (ps_ret (pe_op op_modN (pe_callTy call_int1 (by rfl) b.int (by decide +kernel) (pa_cons (pv 3) pa_nil)) (pv 1)))))))))), ?_⟩
  · obtain ⟨a, ra, ns, i, j, k, m, rfl, _⟩ := h
    rfl
  · obtain ⟨a, ra, ns, i, j, k, m, rfl, m1, m2, hH, hS, hi, q⟩ := hsp
    -- row[3] > 0
    refine ⟨.ref a, rfl, a, _, 3, .int k, rfl, rfl, .of hH, rfl, k, 0, rfl, rfl, _, rfl, ?_⟩
    by_cases hk : (0 : Int) < k
    · rw [decide_eq_true hk]
      refine iteT ?_
      refine ⟨.ref a, rfl, a, _, 3, .int k, rfl, rfl, .of hH, rfl, .inl ⟨k, rfl, .int m, rfl, k, m, rfl, rfl, (by omega), ?_⟩⟩
      refine ⟨.ref a, rfl, a, _, 3, .int k, rfl, rfl, .of hH, rfl, .int m, rfl, k, m, rfl, rfl, ⟨by omega, by omega⟩, .ref a, rfl, a, _, 3, 3, rfl, rfl, hH, rfl, .int (k.fmod m), rfl, ?_⟩
      have := fmod_in (x := k) m1
      exact q i j (k.fdiv m) _ hi this.1 this.2
    · rw [decide_eq_false hk]
      refine iteF ?_
      -- row[1] += 1
      refine ⟨.ref a, rfl, a, _, 1, .int i, rfl, rfl, .of hH, rfl, i, 1, rfl, rfl, .ref a, rfl, a, _, 1, 1, rfl, rfl, hH, rfl, ?_⟩
      have s1 : ∀ o, SqL K (upd H a o) ra (ns.map V.int) := fun o => hS.upd.seq
      have uu : ∀ o o' : HO, upd (upd H a o) a o' = upd H a o' := fun o o' => by
        funext c
        by_cases hc : c = a
        · rw [hc, upd_same, upd_same]
        · rw [upd_ne hc, upd_ne hc, upd_ne hc]
      have h1 : ∀ l, (upd H a (.lst l)) a = some (.lst l) := fun l => upd_same
      -- row[1] > len(row[0])
      refine ⟨.ref a, rfl, a, rowL ra (i + 1) j k, 1, .int (i + 1), rfl, rfl, .of (h1 _), rfl, .ref a, rfl, a, rowL ra (i + 1) j k, 0, .ref ra, rfl, rfl, .of (h1 _), rfl, ra, _, rfl, .inl (s1 _), i + 1, _, rfl, rfl, _, rfl, ?_⟩
      by_cases hl : ((ns.map V.int).length : Int) < i + 1
      · rw [decide_eq_true hl]
        refine iteT ?_
        refine ⟨.ref a, rfl, a, rowL ra (i + 1) j k, 2, .int j, rfl, rfl, .of (h1 _), rfl, j, 48271, rfl, rfl, .inr (by decide), _, 11, rfl, rfl, .inl ⟨_, rfl, _, 2147483647, rfl, rfl, (by show (2147483647 : Int) ≠ 0; decide), ?_⟩⟩
        refine ⟨.ref a, rfl, a, rowL ra (i + 1) j k, 2, 2, rfl, rfl, h1 _, rfl, ?_⟩
        rw [uu]
        refine ⟨.ref a, rfl, a, rowL ra (i + 1) ((j * 48271 + 11).fmod 2147483647) k, 2, .int ((j * 48271 + 11).fmod 2147483647), rfl, rfl, .of (h1 _), rfl, _, 7, rfl, rfl, ⟨by decide, by decide⟩, .inl ⟨_, rfl, .int m, rfl, _, m, rfl, rfl, (by omega), ?_⟩⟩
        have := fmod_in (x := ((j * 48271 + 11).fmod 2147483647).fdiv 7) m1
        exact q (i + 1) _ k _ (by omega) this.1 this.2
      · rw [decide_eq_false hl]
        refine iteF ?_
        obtain ⟨c, hc⟩ : ∃ c, ns[i.toNat]? = some c := by
          rw [List.length_map] at hl
          exact ⟨_, List.getElem?_eq_getElem (by omega)⟩
        have hat : atI (ns.map V.int) (i + 1 - 1) = some (.int c) := by
          have : i + 1 - 1 = (i.toNat : Int) := by omega
          rw [this, DL.atI_nat, List.getElem?_map, hc]
          rfl
        refine ⟨.ref a, rfl, a, rowL ra (i + 1) j k, 0, .ref ra, rfl, rfl, .of (h1 _), rfl, .ref a, rfl, a, rowL ra (i + 1) j k, 1, .int (i + 1), rfl, rfl, .of (h1 _), rfl, i + 1, 1, rfl, rfl, ra, _, _, .int c, rfl, rfl, s1 _, hat, ?_⟩
        refine ⟨.ref a, rfl, a, rowL ra (i + 1) j k, 2, .int j, rfl, rfl, .of (h1 _), rfl, j, 48271, rfl, rfl, .inr (by decide), .int c, rfl, _, c, rfl, rfl, _, 11, rfl, rfl, .inl ⟨_, rfl, _, 2147483647, rfl, rfl, (by show (2147483647 : Int) ≠ 0; decide), ?_⟩⟩
        refine ⟨.ref a, rfl, a, rowL ra (i + 1) j k, 2, 2, rfl, rfl, h1 _, rfl, ?_⟩
        rw [uu]
        refine ⟨.int c, rfl, 10, 18, rfl, rfl, ⟨by decide, by decide, by decide⟩, c, _, rfl, rfl, _, rfl, ?_⟩
        have := fmod_in (x := c) m1
        by_cases hg : ((10 : Int) ^ 18) ≤ c
        · rw [show decide ((10 : Int) ^ ((18 : Int).toNat) ≤ c) = true from decide_eq_true hg]
          refine iteT ?_
          refine ⟨.int c, rfl, .int m, rfl, c, m, rfl, rfl, ⟨by omega, by omega⟩, .ref a, rfl, a, rowL ra (i + 1) ((j * 48271 + c + 11).fmod 2147483647) k, 3, 3, rfl, rfl, h1 _, rfl, ?_⟩
          rw [uu]
          refine ⟨.int c, rfl, .inl ⟨c, rfl, .int m, rfl, c, m, rfl, rfl, (by omega), ?_⟩⟩
          exact q (i + 1) _ _ _ (by omega) this.1 this.2
        · rw [show decide ((10 : Int) ^ ((18 : Int).toNat) ≤ c) = false from decide_eq_false hg]
          refine iteF ?_
          refine ⟨.int c, rfl, .inl ⟨c, rfl, .int m, rfl, c, m, rfl, rfl, (by omega), ?_⟩⟩
          exact q (i + 1) _ k _ (by omega) this.1 this.2
/-- one of some things is drawn -/
def spPick (K : PySem.W.Frag) : Sp := fun vs H Q _ => ∃ (a ra t : Addr) (ns : List Int) (i j k : Int) (xs : List V), vs = [.ref a, .ref t] ∧ H t = some (.lst xs) ∧ t ≠ a ∧ 1 ≤ xs.length ∧ xs.length ≤ 64 ∧ H a = some (.lst (rowL ra i j k)) ∧ Scr K H a ra (ns.map V.int) ∧ 0 ≤ i ∧
  ∀ (i' j' k' : Int) (v : V), 0 ≤ i' → v ∈ xs → Q v (upd H a (.lst (rowL ra i' j' k')))
def s_pick : Stmt := by
  refine (fun (x : Stmt) (h : top 44 = x) => x) ?x ?h
  case h =>
    conv => lhs; whnf
theorem sc_pick : FnScope ["_law_row_here", "_law_things"] ["_law_row_here", "_law_things"] (defScope s_pick) := ⟨rfl, rfl, rfl, by decide +kernel, rfl, by decide +kernel, by decide +kernel⟩
/-- a def of draws, by its name -/
structure CalS (P : Program) (w : World) (K : PySem.W.Frag) (mg : Str → Option Value) (base : Heap) (k : Nat) (x : Str) (sp : Sp) : Prop where
  ex : ∃ (f : Addr) (fd : FuncData) (ps : List Str), FnOk P w K mg base CX0 k f fd ps sp ∧ mg x = some (.ref f) ∧ PySem.W.keepIn K (.ref f) = true ∧ Binds K fd ps []
theorem pe_s {X : Cx} {k j : Nat} {x : Str} {sp : Sp} {e : Expr} {es : List Expr} {t : TA} {p pos : Pos} (c : CalS X.prog X.w X.K X.mg X.base k x sp) (hr : Room j X.A) (hg : Gl X x) (ha : PA X (e :: es) t) (hk : k ≤ j := by decide) (hdb : (x == ("__debug__" : Str)) = false := by decide) (he : starEach (e :: es) X.env = (false, eval e X.env) :: starEach es X.env := by rfl) (hpl : (backTo pos (starEach es X.env)).any (·.1) = false := by rfl) :
    PE X (.Call (.Name x p) (e :: es) [] pos) (fun σ H Q => t σ H fun vs H1 => sp vs H1 Q E0) := by
  obtain ⟨fa, fd, ps, h1, h2, h3, h4⟩ := c.ex
  refine PE.imp (pe_call h1 (hr.mono hk) hg h2 h3 h4 .nil pass0 ha hdb he hpl) fun σ H Q q => ?_
  refine (show ∀ σ H Q, t σ H (fun vs H1 => sp vs H1 Q E0) → tCall sp [] E0 t σ H Q from fun σ H Q q => ?_) σ H Q q
  unfold tCall
  simp only [List.append_nil]
  exact q
theorem ok_pick (b : Blt mg) (c : CalS P w K mg base 1 "_law_taken" (spTaken K)) (Fc : FC K "_law_pick" "_law_pick" s_pick f fd cdv) : FnOk P w K mg base CX0 2 f fd ["_law_row_here", "_law_things"] (spPick K) := by
  obtain ⟨oc, od, kV, doc, pm, an, ct, osl, rfl, lk, hcd⟩ := Fc.ex
  refine fn_of lk hcd sc_pick (fun vs H Q E h => ?_) fun A outer s H vs Q E hr hsp => ⟨_, PSs.nox (
    pss_one (ps_ret (pe_ix ix_list (pv 1) (pe_s c hr (by rfl) (pa_cons (pv 0) (pa_cons (pe_callB call_len_seq (by rfl) b.len PySem.boot_len (pa_cons (pv 1) pa_nil)) pa_nil))) (fun _ _ => rfl)))), ?_⟩
  · obtain ⟨a, ra, t, ns, i, j, k, xs, rfl, _⟩ := h
    rfl
  · obtain ⟨a, ra, t, ns, i, j, k, xs, rfl, ht, hta, l1, l2, hH, hS, hi, q⟩ := hsp
    refine ⟨.ref t, rfl, .ref a, rfl, .ref t, rfl, t, xs, rfl, .inl (.of ht), ?_⟩
    refine ⟨a, ra, ns, i, j, k, (xs.length : Int), rfl, by omega, by omega, hH, hS, hi, fun i' j' k' v h1 h2 h3 => ?_⟩
    obtain ⟨n, rfl⟩ := Int.eq_ofNat_of_zero_le h2
    have hv : n < xs.length := by omega
    refine ⟨t, xs, _, xs[n], rfl, rfl, .of (by rw [upd_ne hta]; exact ht), ?_, ?_⟩
    · rw [DL.atI_nat, List.getElem?_eq_getElem hv]
    · exact q i' j' k' _ h1 (List.getElem_mem _)
end
end CD
end
section
set_option maxHeartbeats 4000000
namespace CD
open PySem PySem.Spec PyProof.Rows L2 DL
open GxR (TabB TabG Tabbed)
/-! ### a chart is drawn: the mathematics -/
structure ChI (n t : Nat) (ls fs qs : List Int) : Prop where
  ln : ls.Nodup
  lr : ∀ x ∈ ls, 1 ≤ x ∧ x ≤ (n : Int)
  ll : ls.length + t = n
  fl : fs.length = n
  ql : qs.length = t
  dj : ∀ x ∈ ls, x ∉ qs
  cov : ∀ x : Int, 1 ≤ x → x ≤ n → x ∈ ls ∨ x ∈ qs
  rk : ∀ (s : Nat) (x : Int), qs[s]? = some x → 1 ≤ x ∧ x ≤ (n : Int) ∧ ∃ c : Int, fs[(x - 1).toNat]? = some c ∧ (c = 0 ∨ c ∈ qs.take s)
/-- a chart: everybody's chief is 0 or comes earlier in some order -/
def Forest (n : Nat) (fs : List Int) : Prop := fs.length = n ∧ ∃ r : Int → Nat, ∀ x : Int, 1 ≤ x → x ≤ n → r x < n ∧ ∃ c : Int, fs[(x - 1).toNat]? = some c ∧ (c = 0 ∨ (1 ≤ c ∧ c ≤ n ∧ r c < r x))
theorem ChI.start (n : Nat) : ChI n 0 ((List.range n).map fun (k : Nat) => (k : Int) + 1) (List.replicate n 0) [] where
  ln := by
    refine List.Pairwise.map _ (R := (· ≠ ·)) (fun a b h => ?_) List.nodup_range
    omega
  lr := fun x hx => by
    obtain ⟨k, h1, rfl⟩ := List.mem_map.mp hx
    have := List.mem_range.mp h1
    omega
  ll := by simp
  fl := by simp
  ql := rfl
  dj := fun x _ h => by cases h
  cov := fun x h1 h2 => .inl (List.mem_map.mpr ⟨(x - 1).toNat, List.mem_range.mpr (by omega), by omega⟩)
  rk := fun s x h => by simp at h
theorem nodup_filter_len {p : Int} : ∀ {ls : List Int}, ls.Nodup → p ∈ ls → (ls.filter fun x => decide (x ≠ p)).length + 1 = ls.length
  | [], _, h => by cases h
  | x :: ls, hn, h => by
    obtain ⟨h1, h2⟩ := List.nodup_cons.mp hn
    rw [List.filter_cons]
    by_cases hx : x = p
    · subst hx
      rw [if_neg (by simp)]
      have : ls.filter (fun y => decide (y ≠ x)) = ls := List.filter_eq_self.mpr fun y hy => decide_eq_true fun z => h1 (z ▸ hy)
      rw [this]
      rfl
    · rw [if_pos (by simpa using hx)]
      have := nodup_filter_len h2 (by
        rcases List.mem_cons.mp h with z | z
        · exact absurd z.symm hx
        · exact z)
      show (ls.filter _).length + 1 + 1 = ls.length + 1
      omega
theorem ChI.step {n t : Nat} {ls fs qs : List Int} (h : ChI n t ls fs qs) {p c : Int} (hp : p ∈ ls) (hc : c ∈ (0 : Int) :: qs) : ChI n (t + 1) (ls.filter fun x => decide (x ≠ p)) (fs.set (p - 1).toNat c) (qs ++ [p]) where
  ln := h.ln.sublist List.filter_sublist
  lr := fun x hx => h.lr x (List.mem_filter.mp hx).1
  ll := by
    have := nodup_filter_len h.ln hp
    have := h.ll
    omega
  fl := by rw [List.length_set]; exact h.fl
  ql := by rw [List.length_append, h.ql]; rfl
  dj := fun x hx hq => by
    obtain ⟨h1, h2⟩ := List.mem_filter.mp hx
    rcases List.mem_append.mp hq with z | z
    · exact h.dj x h1 z
    · have := List.mem_singleton.mp z
      simp [this] at h2
  cov := fun x h1 h2 => by
    by_cases hx : x = p
    · exact .inr (List.mem_append_right _ (List.mem_singleton.mpr hx))
    · rcases h.cov x h1 h2 with z | z
      · exact .inl (List.mem_filter.mpr ⟨z, decide_eq_true hx⟩)
      · exact .inr (List.mem_append_left _ z)
  rk := fun s x hx => by
    obtain ⟨p1, p2⟩ := h.lr p hp
    by_cases hs : s < qs.length
    · rw [List.getElem?_append_left hs] at hx
      obtain ⟨x1, x2, c', h3, h4⟩ := h.rk s x hx
      have hxp : x ≠ p := fun z => h.dj p hp (z ▸ List.mem_of_getElem? hx)
      refine ⟨x1, x2, c', ?_, ?_⟩
      · rw [List.getElem?_set_ne (by omega)]
        exact h3
      · rw [List.take_append_of_le_length (Nat.le_of_lt hs)]
        exact h4
    · rw [List.getElem?_append_right (by omega)] at hx
      have hs' : s = qs.length := by
        rcases Nat.lt_or_ge (s - qs.length) 1 with z | z
        · omega
        · rw [List.getElem?_eq_none (by simpa using z)] at hx
          cases hx
      subst hs'
      rw [Nat.sub_self] at hx
      have hx : some p = some x := hx
      cases hx
      refine ⟨p1, p2, c, ?_, ?_⟩
      · rw [List.getElem?_set_self (by rw [h.fl]; omega)]
      · rw [List.take_left]
        rcases List.mem_cons.mp hc with z | z
        · exact .inl z
        · exact .inr z
theorem idx_lt_take {c : Int} : ∀ {qs : List Int} {s : Nat}, c ∈ qs.take s → qs.idxOf c < s
  | [], s, h => by simp at h
  | q :: qs, 0, h => by simp at h
  | q :: qs, s + 1, h => by
    rw [List.idxOf_cons]
    by_cases hq : q = c
    · rw [(beq_iff_eq.mpr hq : (q == c) = true)]
      exact Nat.succ_pos s
    · rw [(beq_eq_false_iff_ne.mpr hq : (q == c) = false)]
      show qs.idxOf c + 1 < s + 1
      rw [List.take_succ_cons] at h
      rcases List.mem_cons.mp h with z | z
      · exact absurd z.symm hq
      · have := idx_lt_take z
        omega
theorem ChI.fin {n : Nat} {ls fs qs : List Int} (h : ChI n n ls fs qs) : Forest n fs := by
  refine ⟨h.fl, fun x => qs.idxOf x, fun x h1 h2 => ?_⟩
  have hl : ls = [] := List.length_eq_zero_iff.mp (by have := h.ll; omega)
  have hx : x ∈ qs := by
    rcases h.cov x h1 h2 with z | z
    · rw [hl] at z
      cases z
    · exact z
  have hi := List.idxOf_lt_length_iff.mpr hx
  have hg : qs[qs.idxOf x]? = some x := by
    rw [List.getElem?_eq_getElem hi, List.getElem_idxOf]
  obtain ⟨_, _, c, h3, h4⟩ := h.rk _ x hg
  refine ⟨by rw [← h.ql]; exact hi, c, h3, ?_⟩
  rcases h4 with z | z
  · exact .inl z
  · have hc := List.mem_of_mem_take z
    obtain ⟨s, hs, hs'⟩ := List.getElem_of_mem hc
    obtain ⟨c1, c2, _⟩ := h.rk s c (by rw [List.getElem?_eq_getElem hs, hs'])
    exact .inr ⟨c1, c2, idx_lt_take z⟩
/-! ### _law_chart -/
def s_chart : Stmt := by
  refine (fun (x : Stmt) (h : top 59 = x) => x) ?x ?h
  case h =>
    conv => lhs; whnf
abbrev Nch : List Str := ["_law_row_here", "_law_size", "_law_left", "_law_found", "_law_placed", "_law_k", "_law_turn", "_law_person", "_law_one"]
theorem sc_chart : FnScope Nch ["_law_row_here", "_law_size"] (defScope s_chart) := ⟨rfl, rfl, rfl, by decide +kernel, rfl, by decide +kernel, by decide +kernel⟩
def onlyB (p : Addr) : Av := fun a => decide (a = p)
def spChart (K : PySem.W.Frag) (T : List Addr) : Sp := fun vs H Q _ => ∃ (a ra : Addr) (ns : List Int) (i j k : Int) (n : Nat), vs = [.ref a, .int n] ∧ n ≤ 6 ∧ H a = some (.lst (rowL ra i j k)) ∧ Scr K H a ra (ns.map V.int) ∧ 0 ≤ i ∧ (∀ P ∈ T, TabG H P) ∧
  ∀ (i' j' k' : Int) (fs : List Int) (H' : Hp) (p : Addr), 0 ≤ i' → Forest n fs → H p = none → H' p = some (.tup (fs.map V.int)) → H' a = some (.lst (rowL ra i' j' k')) → GrowM T (onlyB a) H H' → Q (.ref p) H'
theorem GrowM.own {T : List Addr} {Z : Av} {H H1 : Hp} {p : Addr} {o o' : HO} (g : GrowM T Z H H1) (h : H p = none) (h1 : H1 p = some o) (n : NT o) (n' : NT o') : GrowM T Z H (upd H1 p o') := ⟨fun b x z e q => by
  rw [upd_ne (ne_of_none e h)]
  exact g.keep b x z e q, fun t => tabs_upd (g.tabs t) h1 n, fun b e => by
  by_cases hb : b = p
  · rw [hb]; exact h
  · rw [upd_ne hb] at e; exact g.dom b e, fun b x e q => by
  by_cases hb : b = p
  · exact ⟨o', by rw [hb, upd_same], n'⟩
  · obtain ⟨y, h2, h3⟩ := g.has b x e q
    exact ⟨y, by rw [upd_ne hb]; exact h2, h3⟩⟩
theorem nt_frz {o : Obj} {x : HO} : NT (.frz o x) := fun _ h => by cases h
theorem sq_gm {K : PySem.W.Frag} {T : List Addr} {a b : Addr} {H H' : Hp} {xs : List V} (k : GrowM T (onlyB a) H H') (h : Scr K H a b xs) : Scr K H' a b xs := by
  refine h.imp id fun ⟨n, h⟩ => ⟨n, ?_⟩
  have z : onlyB a b = false := decide_eq_false n
  rcases h with (h | ⟨o, h⟩) | h
  · exact .inl (.inl (k.keep _ _ z h nt_lst))
  · exact .inl (.inr ⟨o, k.keep _ _ z h nt_frz⟩)
  · exact .inr h
theorem mem_ints {v : V} {ns : List Int} (h : v ∈ ns.map V.int) : ∃ i, i ∈ ns ∧ v = .int i := by
  obtain ⟨i, h1, rfl⟩ := List.mem_map.mp h
  exact ⟨i, h1, rfl⟩
/-- the state of the loop -/
structure ChS (T : List Addr) (a ra F Pd : Addr) (n t : Nat) (H0 : Hp) (σ : L2.St) (H : Hp) : Prop where
  ex : ∃ (i j k : Int) (L : Addr) (ls fs qs : List Int) (x5 x6 x7 x8 : Option V), σ = [some (.ref a), some (.int n), some (.ref L), some (.ref F), some (.ref Pd), x5, x6, x7, x8] ∧ ChI n t ls fs qs ∧
    0 ≤ i ∧ H a = some (.lst (rowL ra i j k)) ∧ H L = some (.lst (ls.map V.int)) ∧ H F = some (.lst (fs.map V.int)) ∧ H Pd = some (.lst (((0 : Int) :: qs).map V.int)) ∧ L ≠ a ∧ L ≠ F ∧ L ≠ Pd
  kp : GrowM T (onlyB a) H0 H
/-- name = [..] on one line, the frame as it stands -/
theorem ps_setLcD {X : Cx} {C : Addr} {T : List Addr} {pos : Pos} {i : Nat} {y : Str} {py : Pos} {elt tg iter : Expr} {ifs : List Expr} {scope : Scope} {own : List (Str × Nat)} {spos : Pos} {it : En → Option (List PyData)} {tt : En → Option Bool} {el : En → Option PyData} {tgt : Tgt}
    (hc : X.calm = true) (hN : X.N.Nodup) (hy : X.N[i]? = some y) (hyl : X.env.scope.names.lookup y = some .local)
    (hsw : swapsWith (.ListComp elt [⟨tg, iter, ifs, 0⟩] scope pos) (some (.Name y py)) spos.line X.env = pure true) (hi : PIt X C T tg iter it) (ok : BlkOk X.N X.env.scope scope own)
    (hg : ∀ (s : Shared) (H : Hp) (C : Addr) (cl : List (Str × Addr)) (fp : List Addr), PG (X.blk s H scope (compEnvC scope cl C X.env) fp) tg (gOf X.K tgt))
    (ht : ∀ (s : Shared) (H : Hp) (C' : Addr) (cl : List (Str × Addr)) (fp : List Addr), PTs (X.blk s H scope (compEnvC scope cl C' X.env) fp) ifs (tDB C T tt))
    (he : ∀ (s : Shared) (H : Hp) (C' : Addr) (cl : List (Str × Addr)) (fp : List Addr), PD (X.blk s H scope (compEnvC scope cl C' X.env) fp) C T elt el)
    (hvs : ∀ k ∈ tgt.ix, k ∈ own.map (·.2) := by decide) (hs : ∀ x, foldedSetIterable iter X.env x = pure x := by intro _; rfl) :
    PS X (.Assign [.Name y py] (.ListComp elt [⟨tg, iter, ifs, 0⟩] scope pos) spos) (tAsg (tD C T (dComp (own.map (·.2)) it tgt tt el)) (gName i)) :=
  PS.imp (ps_setLc hc hN hy hyl hsw hi ok hg ht he hs) fun D σ H h => tAsg.mono (te' := tD C T (dComp (own.map (·.2)) it tgt tt el)) (fun σ H Q ⟨S, ρ, d, E, e, q⟩ => by
    obtain ⟨ds, e1, rfl⟩ := Option.map_eq_some_iff.mp e
    refine tLc_of hvs rfl ⟨S, ρ, ds, E, e1, fun a xs H' g hn ha dv => q _ H' g (.lst (E.sok.new hn) ha dv.less)⟩) D σ H h
theorem repl0 : ∀ n : Nat, (List.replicate n [V.int 0]).flatten = (List.replicate n (0 : Int)).map V.int
  | 0 => rfl
  | n + 1 => by
    rw [List.replicate_succ, List.flatten_cons, repl0 n, List.replicate_succ]
    rfl
def dLeft0 : En → Option PyData := dComp [5] (sRng1 (dVar 1)) (.one 5) bYes (bin2 dAdd (dVar 5) (dC (.int 1)))
def dLeft1 : En → Option PyData := dComp [8] (sSeq (dVar 2)) (.one 8) (bOf (bin2 dNe (dVar 8) (dVar 7))) (dVar 8)
theorem dLeft0_eq {n : Nat} (hn : n ≤ 6) : dLeft0 ⟨[none, some (.int n), none, none, none, none, none, none, none], none, 0, [], true⟩ = some (.list (((List.range n).map fun (k : Nat) => (k : Int) + 1).map PyData.int)) := by
  have e : sRng1 (dVar 1) ⟨[none, some (.int n), none, none, none, none, none, none, none], none, 0, [], true⟩ = some (rangeL 0 n) := by
    show (if (n : Int) ≤ 1000 ∧ -1000 ≤ (n : Int) then some (rangeL 0 (n : Int).toNat) else none) = _
    rw [if_pos ⟨by omega, by omega⟩, Int.toNat_natCast]
  unfold dLeft0 dComp sComp
  rw [e, Option.bind_some, if_pos (by rw [rangeL_len]; show n ≤ 1000; omega), compL_map (fun d => match d with | .int i => .int (i + 1) | x => x) fun d hd => ?_]
  · unfold rangeL
    rw [Option.map_some, List.map_map, List.map_map]
    congr 3
    funext k
    show PyData.int (0 + (k : Int) + 1) = PyData.int ((k : Int) + 1)
    rw [Int.zero_add]
  · obtain ⟨k, h1, rfl⟩ := mem_rangeL.mp hd
    exact ⟨_, rfl, rfl, rfl⟩
theorem dLeft1_eq {ls : List Int} {p : Int} (hl : ls.length ≤ 6) : dLeft1 ⟨[none, none, some (.list (ls.map PyData.int)), none, none, none, none, some (.int p), none], none, 0, [], true⟩ = some (.list ((ls.filter fun x => decide (x ≠ p)).map PyData.int)) := by
  have e : sSeq (dVar 2) ⟨[none, none, some (.list (ls.map PyData.int)), none, none, none, none, some (.int p), none], none, 0, [], true⟩ = some (ls.map PyData.int) := rfl
  unfold dLeft1 dComp sComp
  rw [e, Option.bind_some, if_pos (by rw [List.length_map]; show ls.length ≤ 1000; omega), compL_fm (fun d => match d with | .int i => decide (i ≠ p) | _ => true) (fun d => d) fun d hd => ?_]
  · rw [Option.map_some, List.map_id', List.filter_map]
    rfl
  · obtain ⟨x, h1, rfl⟩ := List.mem_map.mp hd
    refine ⟨_, rfl, ?_, fun _ => rfl⟩
    show ((if SeqAt.shaped (.int x) && SeqAt.shaped (.int p) then some (PyData.bool (!PyData.eqv (.int x) (.int p))) else none).bind asB) = some (decide (x ≠ p))
    rw [if_pos (by rfl)]
    show some (!PyData.eqv (.int x) (.int p)) = _
    have : PyData.eqv (.int x) (.int p) = decide (x = p) := by
      unfold PyData.eqv
      first | rfl | (simp; done)
    rw [this]
    by_cases h : x = p <;> simp [h]
section
variable {P : Program} {w : World} {K : PySem.W.Frag} {mg : Str → Option Value} {base : Heap} {T : List Addr} {f : Addr} {fd : FuncData} {cdv : Value}
theorem ok_chart (b : Blt mg) (c : CalS P w K mg base 2 "_law_pick" (spPick K)) (Fc : FC K "_law_chart" "_law_chart" s_chart f fd cdv) : FnOk P w K mg base CX0 3 f fd ["_law_row_here", "_law_size"] (spChart K T) := by
  obtain ⟨oc, od, kV, doc, pm, an, ct, osl, rfl, lk, hcd⟩ := Fc.ex
  refine fn_of lk hcd sc_chart (fun vs H Q E h => ?_) fun A outer s H vs Q E hr hsp => ⟨_, PSs.nox (
    pss_cons (ps_par3 (i := 2) (j := 3) (l := 4) (by rfl) sc_chart.nd rfl rfl rfl (by decide) (by decide) (by decide) rfl rfl rfl
      (pa_cons (show PD _ 0 T _ dLeft0 from pd_lc (own := [("_law_k", 5)]) (tgt := (.one 5)) (by rfl) sc_chart.nd (pit_rng1 (by rfl) b.range (pd_var (pv 1))) (blkOk_by (by kernel_rfl)) (fun _ _ _ _ _ => pgt_one (i := 5) sc_chart.nd rfl (Or.inl rfl)) (fun _ _ _ _ _ => pts_no) (fun _ _ _ _ _ => pd_add (pd_var (pv 5)) pd_int))
      (pa_cons (pe_op op_rep (pe_lst (pa_cons pe_int pa_nil)) (pv 1)) (pa_cons (pe_lst (pa_cons pe_int pa_nil)) pa_nil))) (by with_unfolding_all rfl))
    (pss_cons (ps_for PassesOwn.never (by rfl) (pi_range1 (by rfl) b.range (pa_cons (pv 1) pa_nil)) (pg_name (i := 6) sc_chart.nd rfl (.inl rfl))
      (pss_cons (ps_set (i := 7) sc_chart.nd rfl (.inr rfl) (pe_s c hr (by rfl) (pa_cons (pv 0) (pa_cons (pv 2) pa_nil))))
      (pss_cons (ps_asg (pe_s c hr (by rfl) (pa_cons (pv 0) (pa_cons (pv 4) pa_nil))) (pg_sub (pv 3) (pe_op op_sub (pv 7) pe_int) set_list))
      (pss_cons (ps_expr (pe_bm PySem.F.plainAttrs_list PySem.F.slot_list_append PySem.F.type_list_append mt_append (pv 4) (pa_cons (pv 7) pa_nil)))
      (pss_one (show PS _ _ (tAsg (tD 0 T dLeft1) (gName 2)) from ps_setLcD (i := 2) (own := [("_law_one", 8)]) (tgt := (.one 8)) (by rfl) sc_chart.nd rfl rfl (sw_true rfl rfl rfl (by kernel_rfl)) (pit_seq (pd_var (pv 2))) (blkOk_by (by kernel_rfl)) (fun _ _ _ _ _ => pgt_one (i := 8) sc_chart.nd rfl (Or.inl rfl)) (fun _ _ _ _ _ => pts_one (pt_ne hr (pd_var (pv 8)) (pd_var (pv 7)))) (fun _ _ _ _ _ => pd_var (pv 8))))))))
    (pss_one (ps_ret (pe_callTy call_tuple_of (by rfl) b.tuple (by decide +kernel) (pa_cons (pv 3) pa_nil)))))), ?_⟩
  · obtain ⟨a, ra, ns, i, j, k, n, rfl, _⟩ := h
    rfl
  · obtain ⟨a, ra, ns, i, j, k, n, rfl, hn, hH, hS, hi, ht, q⟩ := hsp
    have E0 : EnR 0 T (onlyB a) H [some (.ref a), some (.int n), none, none, none, none, none, none, none] ⟨[none, some (.int n), none, none, none, none, none, none, none], none, 0, [], true⟩ := by
      refine ⟨ht, fun c hc => ⟨HO.lst (rowL ra i j k), by rw [show c = a from of_decide_eq_true hc]; exact hH, nt_lst⟩, rfl, fun i d h => ?_, fun m h => (by cases h), fun i ds h => (by cases h)⟩
      match i with
      | 0 => cases h
      | 1 => cases h; exact ⟨_, rfl, .int _⟩
      | 2 => cases h
      | 3 => cases h
      | 4 => cases h
      | 5 => cases h
      | 6 => cases h
      | 7 => cases h
      | 8 => cases h
      | n + 9 => cases h
    refine ⟨onlyB a, _, _, E0, dLeft0_eq hn, fun v1 H1 g1 dv1 => ?_⟩
    cases dv1 with
    | lst k1 k2 k3 =>
    rename_i L xs
    obtain rfl := DVs.ints_inv _ k3
    refine ⟨by decide, fun z hz => ⟨.int n, rfl, z, n, [.int 0], rfl, rfl, upd_same, by omega, by omega, ?_, fun F hF => ?_⟩⟩
    · show 1 * (n : Int).toNat ≤ sizeLine
      have : sizeLine = sizeLine := rfl
      exact lim_le (by rw [Int.toNat_natCast]; show 1 * n ≤ 1000; omega)
    refine ⟨by decide, fun Pd hPd => ⟨_, _, _, rfl, ?_⟩⟩
    have ea : H1 a = some (.lst (rowL ra i j k)) := g1.keep _ _ hH nt_lst
    generalize hH4 : upd (upd (upd H1 z (.lst [.int 0])) F (.lst (List.replicate (n : Int).toNat [V.int 0]).flatten)) Pd (.lst [.int 0]) = H4
    have hfl : (List.replicate (n : Int).toNat [V.int 0]).flatten = (List.replicate n (0 : Int)).map V.int := by
      rw [Int.toNat_natCast]
      exact repl0 n
    have g4 : Grow T H1 H4 := by
      rw [← hH4]
      exact ((Grow.new hz).trans (Grow.new hF)).trans (Grow.new hPd)
    have nzF : F ≠ Pd := ne_of_none upd_same hPd
    have hF1 : H1 F = none := (Grow.new (T := T) hz).dom _ hF
    have hP1 : H1 Pd = none := (Grow.new (T := T) hz).dom _ ((Grow.new (T := T) hF).dom _ hPd)
    have hF0 : H F = none := g1.dom _ hF1
    have hP0 : H Pd = none := g1.dom _ hP1
    have naF : F ≠ a := (ne_of_none hH hF0).symm
    have naP : Pd ≠ a := (ne_of_none hH hP0).symm
    have h0 : ChS T a ra F Pd n 0 H [some (.ref a), some (.int n), some (.ref L), some (.ref F), some (.ref Pd), none, none, none, none] H4 := by
      refine ⟨⟨i, j, k, L, _, _, [], none, none, none, none, rfl, ChI.start n, hi, g4.keep _ _ ea nt_lst, g4.keep _ _ k2 nt_lst, ?_, ?_, ?_, ?_, ?_⟩, (g1.trans g4).gm⟩
      · rw [← hH4, upd_ne nzF, upd_same, hfl]
      · rw [← hH4, upd_same]
        rfl
      · exact fun e => by
          rw [e] at k1
          have : onlyB a a = true := decide_eq_true rfl
          rw [this] at k1
          cases k1
      · exact ne_of_none k2 hF1
      · exact ne_of_none k2 hP1
    refine ⟨.int n, rfl, n, rfl, by omega, by omega, fun i m σ Hx => m = n - i ∧ i ≤ n ∧ ChS T a ra F Pd n i H σ Hx, ⟨n, rfl, Nat.zero_le _, h0⟩, ?_⟩
    rintro t m σ Hx ⟨rfl, htn, ⟨⟨i, j, k, L, ls, fs, qs, x5, x6, x7, x8, rfl, I, hi, e1, e2, e3, e4, n1, n2, n3⟩, kp⟩⟩
    by_cases hlt : t < n
    · refine .inr ⟨by rw [Int.toNat_natCast]; exact hlt, fun σ' H' => ChS T a ra F Pd n (t + 1) H σ' H', fun σ' H' h => ⟨n - (t + 1), by omega, rfl, hlt, h⟩, fun x H' y => ?_⟩
      obtain ⟨rfl, rfl⟩ := y
      have ll := I.ll
      -- person
      refine ⟨.ref a, rfl, .ref L, rfl, a, ra, L, ns, i, j, k, ls.map V.int, rfl, e2, n1, by rw [List.length_map]; omega, by rw [List.length_map]; omega, e1, sq_gm kp hS, hi, fun i1 j1 k1 v hi1 hv => ?_⟩
      obtain ⟨p, hp, rfl⟩ := mem_ints hv
      obtain ⟨p1, p2⟩ := I.lr p hp
      have nt4 : ∀ l, NT (HO.lst l) := fun _ => nt_lst
      have kp1 : GrowM T (onlyB a) H (upd H' a (.lst (rowL ra i1 j1 k1))) := kp.trans (GrowM.upd1 e1 nt_lst nt_lst)
      -- found[person - 1] = ..
      refine ⟨.ref a, rfl, .ref Pd, rfl, a, ra, Pd, ns, i1, j1, k1, ((0 : Int) :: qs).map V.int, rfl, by rw [upd_ne naP]; exact e4, naP, by simp, by rw [List.length_map, List.length_cons, I.ql]; omega, upd_same, sq_gm kp1 hS, hi1, fun i2 j2 k2 v2 hi2 hv2 => ?_⟩
      obtain ⟨c, hc, rfl⟩ := mem_ints hv2
      generalize hH2 : upd (upd H' a (.lst (rowL ra i1 j1 k1))) a (.lst (rowL ra i2 j2 k2)) = H2
      have kp2 : GrowM T (onlyB a) H H2 := by
        rw [← hH2]
        exact kp1.trans (GrowM.upd1 upd_same nt_lst nt_lst)
      have at2 : ∀ b, b ≠ a → H2 b = H' b := fun b hb => by rw [← hH2, upd_ne hb, upd_ne hb]
      have a2 : H2 a = some (.lst (rowL ra i2 j2 k2)) := by rw [← hH2]; exact upd_same
      refine ⟨.ref F, rfl, .int p, rfl, p, 1, rfl, rfl, F, fs.map V.int, p - 1, (p - 1).toNat, rfl, rfl, by rw [at2 F naF]; exact e3, ?_, ?_⟩
      · rw [List.length_map, I.fl]
        unfold ixN
        rw [if_pos (by omega), if_pos (by omega)]
      -- placed.append(person)
      have hset : (fs.map V.int).set (p - 1).toNat (.int c) = (fs.set (p - 1).toNat c).map V.int := by rw [List.map_set]
      rw [hset]
      refine ⟨.ref Pd, rfl, .inl ⟨rfl, _, SqL.of (show (upd H2 F (HO.lst ((fs.set (p - 1).toNat c).map V.int))) Pd = some (HO.lst (((0 : Int) :: qs).map V.int)) from by rw [upd_ne nzF.symm, at2 Pd naP]; exact e4)⟩, .int p, rfl, Pd, _, .int p, rfl, rfl, (show (upd H2 F (HO.lst ((fs.set (p - 1).toNat c).map V.int))) Pd = some (HO.lst (((0 : Int) :: qs).map V.int)) from by rw [upd_ne nzF.symm, at2 Pd naP]; exact e4), lim_size (by rw [List.length_map, List.length_cons, I.ql]; show t + 1 ≤ 1000; omega), ?_⟩
      generalize hH5 : upd (upd H2 F (.lst ((fs.set (p - 1).toNat c).map V.int))) Pd (.lst (((0 : Int) :: qs).map V.int ++ [.int p])) = H5
      have eF2 : H2 F = some (.lst (fs.map V.int)) := by rw [at2 F naF]; exact e3
      have kp5 : GrowM T (onlyB a) H H5 := by
        rw [← hH5]
        have eP3 : (upd H2 F (HO.lst ((fs.set (p - 1).toNat c).map V.int))) Pd = some (HO.lst (((0 : Int) :: qs).map V.int)) := by
          rw [upd_ne nzF.symm, at2 Pd naP]
          exact e4
        exact GrowM.own (GrowM.own kp2 hF0 eF2 nt_lst nt_lst) hP0 eP3 nt_lst nt_lst
      have a5 : H5 a = some (.lst (rowL ra i2 j2 k2)) := by rw [← hH5, upd_ne naP.symm, upd_ne naF.symm]; exact a2
      have L5 : H5 L = some (.lst (ls.map V.int)) := by rw [← hH5, upd_ne n3, upd_ne n2, at2 L n1]; exact e2
      have F5 : H5 F = some (.lst ((fs.set (p - 1).toNat c).map V.int)) := by rw [← hH5, upd_ne nzF, upd_same]
      have P5 : H5 Pd = some (.lst (((0 : Int) :: (qs ++ [p])).map V.int)) := by rw [← hH5, upd_same]; simp
      -- left
      have S3 : ∀ b, (((onlyB a).add F).add Pd) b = false → b ≠ a ∧ b ≠ F ∧ b ≠ Pd := fun b hb => by
        obtain ⟨h1, h2⟩ := Av.add_sub hb
        obtain ⟨h3, h4⟩ := Av.add_sub h1
        exact ⟨of_decide_eq_false h3, h4, h2⟩
      have so5 : SOk (((onlyB a).add F).add Pd) H5 := (SOk.add (SOk.add (fun b hb => ⟨HO.lst (rowL ra i2 j2 k2), by rw [show b = a from of_decide_eq_true hb]; exact a5, nt_lst⟩) F5 nt_lst) P5 nt_lst)
      have SL : (((onlyB a).add F).add Pd) L = false := Av.add_ne (Av.add_ne (decide_eq_false n1) n2) n3
      have E5 : EnR 0 T (((onlyB a).add F).add Pd) H5 [some (.ref a), some (.int n), some (.ref L), some (.ref F), some (.ref Pd), x5, some (.int (0 + (t : Int))), some (.int p), x8] ⟨[none, none, some (.list (ls.map PyData.int)), none, none, none, none, some (.int p), none], none, 0, [], true⟩ := by
        refine ⟨kp5.tabs ht, so5, rfl, fun i d h => ?_, fun m h => (by cases h), fun i ds h => (by cases h)⟩
        match i with
        | 0 => cases h
        | 1 => cases h
        | 2 => cases h; exact ⟨_, rfl, .lst SL L5 (DVs.ints ls)⟩
        | 3 => cases h
        | 4 => cases h
        | 5 => cases h
        | 6 => cases h
        | 7 => cases h; exact ⟨_, rfl, .int _⟩
        | 8 => cases h
        | n + 9 => cases h
      refine ⟨_, _, _, E5, dLeft1_eq (by omega), fun v H6 g6 dv6 => ?_⟩
      cases dv6 with
      | lst l1 l2 l3 =>
      rename_i L' ys
      obtain rfl := DVs.ints_inv _ l3
      obtain ⟨m1, m2, m3⟩ := S3 _ l1
      exact ⟨⟨i2, j2, k2, L', _, _, _, x5, some (.int (0 + (t : Int))), some (.int p), x8, rfl, I.step hp hc, hi2, g6.keep _ _ a5 nt_lst, l2, g6.keep _ _ F5 nt_lst, g6.keep _ _ P5 nt_lst, m1, m2, m3⟩, kp5.trans g6.gm⟩
    · have htn : t = n := by omega
      subst htn
      refine .inl ⟨by show (t : Int).toNat ≤ t; rw [Int.toNat_natCast]; exact Nat.le_refl _, ?_⟩
      refine ⟨.ref F, rfl, F, _, rfl, .inl ⟨.of e3, fun l hl => ?_⟩⟩
      exact q i j k fs _ l hi I.fin (kp.dom _ hl) upd_same (by rw [upd_ne (ne_of_none e1 hl)]; exact e1) (kp.trans (Grow.new hl).gm)
end
end CD
end
section
set_option maxHeartbeats 4000000
namespace CD
open PySem PySem.Spec PyProof.Rows L2 DL
open GxR (TabB TabG Tabbed)
def no18 : List (Option PyData) := List.replicate 18 none
def lawE (n : Nat) (fs gs : List Int) : En := ⟨[none, none, some (.int n), some (.tuple (fs.map PyData.int)), some (.tuple (gs.map PyData.int))] ++ no18, none, 0, [], true⟩
/-- what the plain law must show -/
def LawMath : Prop := ∀ (n : Nat) (fs gs : List Int), 1 ≤ n → n ≤ 6 → Forest n fs → gs.length = n → (∀ g ∈ gs, 0 ≤ g ∧ g < 9) → ∃ ρ', B_law (lawE n fs gs) = some (.rt ρ' (.bool true))
def spLaw (K : PySem.W.Frag) (T : List Addr) : Sp := fun vs H Q _ => ∃ (s : Addr) (ns : List Int), vs = [.ref s] ∧ SqL K H s (ns.map V.int) ∧ (∀ P ∈ T, TabG H P) ∧ ∀ H', Q (.bl true) H'
section
variable {P : Program} {w : World} {K : PySem.W.Frag} {mg : Str → Option Value} {base : Heap} {T : List Addr} {f : Addr} {fd : FuncData} {cdv : Value}
abbrev Nlaw : List Str := ["_law_script", "_law_row_here", "_law_size", "_law_chart_here", "_law_gains", "_law_k", "_law_lots_here", "_law_good", "_law_lot", "_law_sums", "_law_best", "_law_found", "_law_paper", "_law_values", "_law_value", "_law_due", "_law_papers", "_law_part", "_law_step_here", "_law_each", "_law_watch", "_law_bare", "_law_j"]
theorem ok_law (math : LawMath) (b : Blt mg) (c_taken : CalS P w K mg base 1 "_law_taken" (spTaken K)) (c_chart : CalS P w K mg base 3 "_law_chart" (spChart K T))
    (rest : ∀ (cdv : Value) (A : Around) (outer : List Env) (s : Shared) (H : Hp) (E : XK), Room 9 (A.deeper (envOfC "law" (defScope s_law) s.heap.objs.size f cdv)) → PSDs (cxOf CX0 P w K mg base Nlaw "law" (defScope s_law) f cdv A outer s H E).nox 0 T ((defBody s_law).drop 3) B_law)
    (Fc : FC K "law" "law" s_law f fd cdv) : FnOk P w K mg base CX0 10 f fd ["_law_script"] (spLaw K T) := by
  obtain ⟨oc, od, kV, doc, pm, an, ct, osl, rfl, lk, hcd⟩ := Fc.ex
  refine fn_of lk hcd sc_law (fun vs H Q E h => ?_) fun A outer s H vs Q E hr hsp => ⟨_, PSs.nox (
    pss_cons (ps_set (i := 1) sc_law.nd rfl (.inr rfl) (pe_lst (pa_cons (pv 0) (pa_cons pe_int (pa_cons pe_int (pa_cons pe_int pa_nil))))))
    (pss_cons (ps_set (i := 2) sc_law.nd rfl (.inl rfl) (pe_op op_add pe_int (pe_s c_taken hr (by rfl) (pa_cons (pv 1) (pa_cons pe_int pa_nil)))))
    (pss_cons (ps_asg (pe_tup (pa_cons (pe_s c_chart hr (by rfl) (pa_cons (pv 1) (pa_cons (pv 2) pa_nil)))
        (pa_cons (pe_callTy call_tuple_of (by rfl) b.tuple (by decide +kernel) (pa_cons
          (pe_lc (own := [("_law_k", 5)]) (g := gName 5) (tt := tYes) (by rfl) sc_law.nd (pi_range1 (by rfl) b.range (pa_cons (pv 2) pa_nil)) (blkOk_by (by kernel_rfl)) (fun _ _ _ _ _ => pg_name (i := 5) sc_law.nd rfl (Or.inl rfl)) (fun _ _ _ _ _ => pts_nil)
            (fun _ _ _ _ _ => pe_s c_taken hr (by rfl) (pa_cons (pv 1) (pa_cons pe_int pa_nil)))) pa_nil)) pa_nil)))
        (pg_tup (by rfl) (pgs_cons (pg_name (i := 3) sc_law.nd rfl (.inr rfl)) (pgs_cons (pg_name (i := 4) sc_law.nd rfl (.inr rfl)) pgs_nil))))
    (rest cdv A outer s H E hr)))), ?_⟩
  · obtain ⟨s, ns, rfl, _⟩ := h
    rfl
  · obtain ⟨sa, ns, rfl, hS, ht, q⟩ := hsp
    -- row_here
    refine ⟨.ref sa, rfl, by show 4 ≤ sizeLine; decide, fun a ha => ?_⟩
    have ht1 : ∀ P ∈ T, TabG (upd H a (.lst (rowL sa 0 13719 0))) P := (Grow.new (T := T) ha).tabs ht
    have sc1 : Scr K (upd H a (.lst (rowL sa 0 13719 0))) a sa (ns.map V.int) := Scr.make hS ha
    have uu : ∀ o o' : HO, upd (upd H a o) a o' = upd H a o' := fun o o' => by
      funext c
      by_cases hc : c = a
      · rw [hc, upd_same, upd_same]
      · rw [upd_ne hc, upd_ne hc, upd_ne hc]
    -- size
    refine ⟨.ref a, rfl, a, sa, ns, 0, 13719, 0, 6, rfl, by decide, by decide, upd_same, sc1, by decide, fun i j k v hi hv1 hv2 => ⟨1, v, rfl, rfl, ?_⟩⟩
    obtain ⟨m, rfl⟩ := Int.eq_ofNat_of_zero_le hv1
    have hsz : (1 : Int) + (m : Int) = ((m + 1 : Nat) : Int) := by omega
    show gName 2 (V.int ((1 : Int) + (m : Int))) _ (upd (upd H a (.lst (rowL sa 0 13719 0))) a (.lst (rowL sa i j k))) _
    rw [hsz]
    have hm6 : m + 1 ≤ 6 := by omega
    generalize hn : m + 1 = n at hm6 ⊢
    have hn1 : 1 ≤ n := by omega
    rw [uu]
    have g2 : GrowM T (onlyB a) (upd H a (.lst (rowL sa 0 13719 0))) (upd H a (.lst (rowL sa i j k))) := by
      have := GrowM.upd1 (T := T) (H := upd H a (.lst (rowL sa 0 13719 0))) (a := a) (o' := .lst (rowL sa i j k)) upd_same nt_lst nt_lst
      rw [uu] at this
      exact this
    generalize hH2 : upd H a (.lst (rowL sa i j k)) = H2 at g2 ⊢
    have a2 : H2 a = some (.lst (rowL sa i j k)) := by rw [← hH2]; exact upd_same
    have ht2 := g2.tabs ht1
    have sc2 := sq_gm g2 sc1
    -- the chart
    refine ⟨.ref a, rfl, .int n, rfl, a, sa, ns, i, j, k, n, rfl, hm6, a2, sc2, hi, ht2, fun i3 j3 k3 fs H3 pc hi3 Fo hpc hfs a3 gm3 => ?_⟩
    have sc3 := sq_gm gm3 sc2
    have ht3 := gm3.tabs ht2
    have nac : pc ≠ a := fun e => by
      rw [e, a2] at hpc
      cases hpc
    -- the gains
    refine ⟨.int n, rfl, n, rfl, by omega, by omega, fun D hD => ?_⟩
    have naD : D ≠ a := fun e => by
      rw [e, a3] at hD
      cases hD
    refine ⟨fun t m Hx => m = n - t ∧ t ≤ n ∧ ∃ (gs : List Int) (i j k : Int), Hx D = some (.lst (gs.map V.int)) ∧ gs.length = t ∧ (∀ g ∈ gs, 0 ≤ g ∧ g < 9) ∧ 0 ≤ i ∧ Hx a = some (.lst (rowL sa i j k)) ∧ GrowM T (onlyB a) H3 Hx, ⟨n, rfl, Nat.zero_le _, [], i3, j3, k3, upd_same, rfl, fun _ h => (by cases h), hi3, by rw [upd_ne naD.symm]; exact a3, (Grow.new hD).gm⟩, ?_⟩
    rintro t m' Hx ⟨rfl, htn, hP⟩
    by_cases hlt : t < n
    · obtain ⟨gs, i, j, k, d1, d2, d3, d4, d5, d6⟩ := hP
      refine .inr ⟨by rw [Int.toNat_natCast]; exact hlt, fun Hx => ∃ (gs : List Int) (i j k : Int), Hx D = some (.lst (gs.map V.int)) ∧ gs.length = t + 1 ∧ (∀ g ∈ gs, 0 ≤ g ∧ g < 9) ∧ 0 ≤ i ∧ Hx a = some (.lst (rowL sa i j k)) ∧ GrowM T (onlyB a) H3 Hx, fun H' h => ⟨n - (t + 1), by omega, rfl, hlt, h⟩, fun x H' y => ?_⟩
      obtain ⟨rfl, rfl⟩ := y
      refine ⟨rfl, ?_⟩
      unfold tYes
      dsimp only
      rw [if_pos rfl]
      refine ⟨.ref a, rfl, a, sa, ns, i, j, k, 9, rfl, by decide, by decide, d5, sq_gm d6 sc3, d4, fun i' j' k' v h1 h2 h3 => ?_⟩
      have gmx : GrowM T (onlyB a) H3 (upd H' a (.lst (rowL sa i' j' k'))) := d6.trans (GrowM.upd1 d5 nt_lst nt_lst)
      have eD : (upd H' a (.lst (rowL sa i' j' k'))) D = some (.lst (gs.map V.int)) := by rw [upd_ne naD]; exact d1
      refine ⟨_, eD, lim_size (by rw [List.length_map]; show gs.length ≤ 1000; omega), gs ++ [v], i', j', k', by rw [upd_same, List.map_append]; rfl, by rw [List.length_append, d2]; rfl, fun g hg => ?_, h1, by rw [upd_ne naD.symm]; exact upd_same, GrowM.own gmx hD eD nt_lst nt_lst⟩
      rcases List.mem_append.mp hg with z | z
      · exact d3 g z
      · rw [List.mem_singleton.mp z]
        exact ⟨h2, h3⟩
    · obtain ⟨gs, i, j, k, d1, d2, d3, d4, d5, d6⟩ := hP
      have htn' : t = n := by omega
      subst htn'
      refine .inl ⟨by show (t : Int).toNat ≤ t; rw [Int.toNat_natCast]; exact Nat.le_refl _, ?_⟩
      refine ⟨D, _, rfl, .inl ⟨.of d1, fun pg hpg => ⟨by show 2 ≤ sizeLine; decide, fun tp htp => ?_⟩⟩⟩
      have e1 : (upd (upd Hx pg (.tup (gs.map V.int))) tp (.tup [.ref pc, .ref pg])) pg = some (.tup (gs.map V.int)) := by
        rw [upd_ne (ne_of_none upd_same htp)]
        exact upd_same
      have gw : Grow T Hx (upd (upd Hx pg (.tup (gs.map V.int))) tp (.tup [.ref pc, .ref pg])) := (Grow.new hpg).trans (Grow.new htp)
      have e2 : (upd (upd Hx pg (.tup (gs.map V.int))) tp (.tup [.ref pc, .ref pg])) pc = some (.tup (fs.map V.int)) := gw.keep _ _ (d6.keep _ _ (decide_eq_false nac) hfs nt_tup) nt_tup
      refine ⟨tp, _, rfl, .of upd_same, rfl, _, _, rfl, _, _, rfl, rfl, ?_⟩
      have ht4 := gw.tabs (d6.tabs ht3)
      generalize upd (upd Hx pg (.tup (gs.map V.int))) tp (.tup [.ref pc, .ref pg]) = H4 at e1 e2 ht4
      obtain ⟨ρ', hr'⟩ := math _ fs gs hn1 hm6 Fo d2 d3
      refine ⟨⟨fun _ => false, fun _ => false, H4, none⟩, lawE _ fs gs, _, ⟨fun _ => false, ⟨0, 0, 0, 0⟩, fun _ => 0, ht4, SOk.none, rfl, fun i d h => ?_, fun m h => (by cases h), fun i ds h => (by cases h), fun i j ds es _ h => (by cases h), fun a h => h, fun a h => .inl h, SOk.none, GrowM.refl, fun q h => (by cases h)⟩, hr', fun ρ2 h => (by cases h), fun ρ2 d h v σ' H' E' dv => ?_⟩
      · match i with
        | 0 => cases h
        | 1 => cases h
        | 2 => cases h; exact ⟨_, rfl, .int _⟩
        | 3 => cases h; exact ⟨_, rfl, .tup rfl e2 (DVs.ints fs)⟩
        | 4 => cases h; exact ⟨_, rfl, .tup rfl e1 (DVs.ints gs)⟩
        | i + 5 =>
          have h : (no18 : List (Option PyData))[i]? = some (some d) := h
          unfold no18 at h
          rw [List.getElem?_replicate] at h
          split at h <;> cases h
      · cases h
        cases dv
        exact q H'
end
end CD
end
section
set_option maxHeartbeats 1000000
/-! a simplex over the integers, no program in sight -/
namespace SX
/-! ### sums -/
def sm : Nat → (Nat → Int) → Int
  | 0, _ => 0
  | n + 1, f => sm n f + f n
theorem sm_congr {f g : Nat → Int} : ∀ {n : Nat}, (∀ i, i < n → f i = g i) → sm n f = sm n g
  | 0, _ => rfl
  | n + 1, h => by
    show sm n f + f n = sm n g + g n
    rw [sm_congr fun i hi => h i (Nat.lt_succ_of_lt hi), h n (Nat.lt_succ_self n)]
theorem sm_add (f g : Nat → Int) : ∀ n, sm n (fun i => f i + g i) = sm n f + sm n g
  | 0 => rfl
  | n + 1 => by
    show sm n (fun i => f i + g i) + (f n + g n) = sm n f + f n + (sm n g + g n)
    rw [sm_add f g n]
    omega
theorem sm_mul (c : Int) (f : Nat → Int) : ∀ n, sm n (fun i => c * f i) = c * sm n f
  | 0 => by show (0 : Int) = c * 0; rw [Int.mul_zero]
  | n + 1 => by
    show sm n (fun i => c * f i) + c * f n = c * (sm n f + f n)
    rw [sm_mul c f n, Int.mul_add]
theorem sm_mulr (c : Int) (f : Nat → Int) (n : Nat) : sm n (fun i => f i * c) = sm n f * c := by
  rw [Int.mul_comm, ← sm_mul]
  exact sm_congr fun i _ => Int.mul_comm _ _
theorem sm_zero : ∀ n, sm n (fun _ => 0) = 0
  | 0 => rfl
  | n + 1 => by
    show sm n (fun _ => 0) + 0 = 0
    rw [sm_zero n]
    rfl
theorem sm_sub (f g : Nat → Int) (n : Nat) : sm n (fun i => f i - g i) = sm n f - sm n g := by
  have h := sm_add f (fun i => (-1) * g i) n
  rw [sm_mul] at h
  have e : sm n (fun i => f i - g i) = sm n (fun i => f i + (-1) * g i) := sm_congr fun i _ => by omega
  rw [e, h]
  omega
theorem sm_one {c : Int} {j : Nat} : ∀ {n : Nat}, j < n → sm n (fun i => if i = j then c else 0) = c
  | 0, h => by omega
  | n + 1, h => by
    show sm n (fun i => if i = j then c else 0) + (if n = j then c else 0) = c
    by_cases hj : n = j
    · subst hj
      rw [if_pos rfl, sm_congr (g := fun _ => 0) fun i hi => if_neg (by omega), sm_zero]
      omega
    · rw [if_neg hj, sm_one (by omega)]
      omega
theorem sm_pick {f : Nat → Int} {j n : Nat} (h : j < n) : sm n (fun i => if i = j then f i else 0) = f j := by
  rw [← sm_one (c := f j) h]
  exact sm_congr fun i _ => by
    by_cases e : i = j
    · rw [if_pos e, if_pos e, e]
    · rw [if_neg e, if_neg e]
theorem sm_swap (f : Nat → Nat → Int) (m : Nat) : ∀ n, sm n (fun i => sm m (fun j => f i j)) = sm m (fun j => sm n (fun i => f i j))
  | 0 => by
    show (0 : Int) = sm m (fun _ => 0)
    rw [sm_zero]
  | n + 1 => by
    show sm n (fun i => sm m (fun j => f i j)) + sm m (fun j => f n j) = sm m (fun j => sm n (fun i => f i j) + f n j)
    rw [sm_swap f m n, sm_add]
theorem sm_le {f g : Nat → Int} : ∀ {n : Nat}, (∀ i, i < n → f i ≤ g i) → sm n f ≤ sm n g
  | 0, _ => Int.le_refl _
  | n + 1, h => by
    have h1 := sm_le (n := n) fun i hi => h i (Nat.lt_succ_of_lt hi)
    have h2 := h n (Nat.lt_succ_self n)
    show sm n f + f n ≤ sm n g + g n
    omega
theorem sm_nonneg {f : Nat → Int} {n : Nat} (h : ∀ i, i < n → 0 ≤ f i) : 0 ≤ sm n f := by
  have := sm_le (f := fun _ => 0) (g := f) h
  rw [sm_zero] at this
  exact this
theorem sm_pos {f : Nat → Int} : ∀ {n : Nat}, 0 < sm n f → ∃ i, i < n ∧ 0 < f i
  | 0, h => by
    have h : (0 : Int) < 0 := h
    omega
  | n + 1, h => by
    have h : 0 < sm n f + f n := h
    by_cases h1 : 0 < f n
    · exact ⟨n, Nat.lt_succ_self n, h1⟩
    · obtain ⟨i, h2, h3⟩ := sm_pos (n := n) (f := f) (by omega)
      exact ⟨i, Nat.lt_succ_of_lt h2, h3⟩
/-- a sum of what is not negative is nothing: each is nothing -/
theorem sm_all0 {f : Nat → Int} : ∀ {n : Nat}, (∀ i, i < n → 0 ≤ f i) → sm n f ≤ 0 → ∀ i, i < n → f i = 0
  | 0, _, _, i, hi => by omega
  | n + 1, h, h0, i, hi => by
    have h1 := sm_nonneg (n := n) fun i hi => h i (Nat.lt_succ_of_lt hi)
    have h2 := h n (Nat.lt_succ_self n)
    have h0 : sm n f + f n ≤ 0 := h0
    by_cases e : i = n
    · subst e
      omega
    · exact sm_all0 (n := n) (fun i hi => h i (Nat.lt_succ_of_lt hi)) (by omega) i (by omega)

/-! ### tableaus: t rows; columns below N may enter, N + r is row r's helping one, N + t the goals -/
structure Prb where
  t : Nat
  N : Nat
  A : Nat → Nat → Int
  help : ∀ r s, r < t → s < t → A r (N + s) = if r = s then 1 else 0
structure Tab where
  T : Nat → Nat → Int
  b : Nat → Nat
structure Inv (P : Prb) (s : Tab) : Prop where
  bl : ∀ i, i < P.t → s.b i < P.N + P.t
  unit : ∀ i j, i < P.t → j < P.t → s.T i (s.b j) = if i = j then 1 else 0
  row : ∀ i l, i < P.t → l ≤ P.N + P.t → s.T i l = sm P.t fun r => s.T i (P.N + r) * P.A r l
  col : ∀ r l, r < P.t → l ≤ P.N + P.t → P.A r l = sm P.t fun i => P.A r (s.b i) * s.T i l
/-- the first tableau -/
def st0 (P : Prb) : Tab := ⟨P.A, fun i => P.N + i⟩
theorem inv0 (P : Prb) : Inv P (st0 P) where
  bl := fun i hi => by show P.N + i < P.N + P.t; omega
  unit := fun i j hi hj => P.help i j hi hj
  row := fun i l hi hl => by
    show P.A i l = sm P.t fun r => P.A i (P.N + r) * P.A r l
    rw [sm_congr (g := fun r => if r = i then P.A r l else 0) fun r hr => ?_, sm_pick hi]
    rw [P.help i r hi hr]
    by_cases e : i = r
    · rw [if_pos e, if_pos e.symm, Int.one_mul]
    · rw [if_neg e, if_neg (Ne.symm e), Int.zero_mul]
  col := fun r l hr hl => by
    show P.A r l = sm P.t fun i => P.A r (P.N + i) * P.A i l
    rw [sm_congr (g := fun i => if i = r then P.A i l else 0) fun i hi => ?_, sm_pick hr]
    rw [P.help r i hr hi]
    by_cases e : r = i
    · rw [if_pos e, if_pos e.symm, Int.one_mul]
    · rw [if_neg e, if_neg (Ne.symm e), Int.zero_mul]
/-- a pivot at row j, column k, whose entry is p = 1 or -1 -/
def piv (s : Tab) (j k : Nat) : Tab := ⟨fun i l => if i = j then s.T j k * s.T j l else s.T i l - s.T i k * (s.T j k * s.T j l), fun i => if i = j then k else s.b i⟩
theorem Inv.piv {P : Prb} {s : Tab} (I : Inv P s) {j k : Nat} (hj : j < P.t) (hk : k < P.N + P.t) (hp : s.T j k = 1 ∨ s.T j k = -1) : Inv P (SX.piv s j k) := by
  have pp : s.T j k * s.T j k = 1 := by rcases hp with h | h <;> rw [h] <;> rfl
  refine ⟨fun i hi => ?_, fun i m hi hm => ?_, fun i l hi hl => ?_, fun r l hr hl => ?_⟩
  · show (if i = j then k else s.b i) < _
    by_cases e : i = j
    · rw [if_pos e]; exact hk
    · rw [if_neg e]; exact I.bl i hi
  · show (if i = j then s.T j k * s.T j (if m = j then k else s.b m) else s.T i (if m = j then k else s.b m) - s.T i k * (s.T j k * s.T j (if m = j then k else s.b m))) = _
    by_cases e : m = j
    · rw [if_pos e, pp]
      by_cases ei : i = j
      · rw [if_pos ei, if_pos (by rw [ei, e])]
      · rw [if_neg ei, if_neg (by rw [e]; exact ei)]
        omega
    · rw [if_neg e, I.unit j m hj hm, if_neg (Ne.symm e), Int.mul_zero, Int.mul_zero, Int.sub_zero]
      by_cases ei : i = j
      · rw [if_pos ei, if_neg (by rw [ei]; exact Ne.symm e)]
      · rw [if_neg ei, I.unit i m hi hm]
  · show (if i = j then s.T j k * s.T j l else s.T i l - s.T i k * (s.T j k * s.T j l)) = sm P.t fun r => (if i = j then s.T j k * s.T j (P.N + r) else s.T i (P.N + r) - s.T i k * (s.T j k * s.T j (P.N + r))) * P.A r l
    by_cases ei : i = j
    · rw [if_pos ei, sm_congr (g := fun r => s.T j k * (s.T j (P.N + r) * P.A r l)) fun r _ => by rw [if_pos ei, Int.mul_assoc], sm_mul, ← I.row j l hj hl]
    · rw [if_neg ei, sm_congr (g := fun r => s.T i (P.N + r) * P.A r l - s.T i k * s.T j k * (s.T j (P.N + r) * P.A r l)) fun r _ => by rw [if_neg ei, Int.sub_mul]; simp only [Int.mul_assoc], sm_sub, sm_mul, ← I.row j l hj hl, ← I.row i l hi hl, Int.mul_assoc]
  · show P.A r l = sm P.t fun i => P.A r (if i = j then k else s.b i) * (if i = j then s.T j k * s.T j l else s.T i l - s.T i k * (s.T j k * s.T j l))
    have h1 := I.col r l hr hl
    have h2 := I.col r k hr (Nat.le_of_lt hk)
    rw [sm_congr (g := fun i => (P.A r (s.b i) * s.T i l - P.A r (s.b i) * s.T i k * (s.T j k * s.T j l)) + (if i = j then P.A r k * (s.T j k * s.T j l) else 0)) fun i hi => ?_]
    · rw [sm_add, sm_sub, sm_mulr, ← h1, ← h2, sm_one hj]
      omega
    · by_cases e : i = j
      · rw [if_pos e, if_pos e, if_pos e, e]
        have : P.A r (s.b j) * s.T j k * (s.T j k * s.T j l) = P.A r (s.b j) * s.T j l := by
          rw [Int.mul_assoc, ← Int.mul_assoc (s.T j k), pp, Int.one_mul]
        rw [this]
        omega
      · rw [if_neg e, if_neg e, if_neg e, Int.mul_sub, ← Int.mul_assoc, Int.add_zero]
end SX
end
section
set_option maxHeartbeats 1000000
namespace SX
/-! ### entries are 1, 0 or -1 -/
theorem Inv.uniq {P : Prb} {s : Tab} (I : Inv P s) {z : Nat → Int} (h : ∀ i, i < P.t → sm P.t (fun r => z r * P.A r (s.b i)) = 0) : ∀ r, r < P.t → z r = 0 := by
  intro r0 hr0
  have e1 : z r0 = sm P.t fun r => z r * P.A r (P.N + r0) := by
    rw [sm_congr (g := fun r => if r = r0 then z r else 0) fun r hr => ?_, sm_pick hr0]
    rw [P.help r r0 hr hr0]
    by_cases e : r = r0
    · rw [if_pos e, if_pos e, Int.mul_one]
    · rw [if_neg e, if_neg e, Int.mul_zero]
  rw [e1, sm_congr (g := fun r => sm P.t fun i => z r * P.A r (s.b i) * s.T i (P.N + r0)) fun r hr => ?_, sm_swap, sm_congr (g := fun _ => 0) fun i hi => ?_, sm_zero]
  · rw [sm_mulr, h i hi, Int.zero_mul]
  · rw [I.col r (P.N + r0) hr (by omega), ← sm_mul]
    exact sm_congr fun i _ => by rw [Int.mul_assoc]
/-- every column but the goals is an arc: a sign s_r for each row, two nodes; node 0 is the ground, r + 1 is row r -/
def pot (sg : Nat → Int) (y : Nat → Int) : Nat → Int
  | 0 => 0
  | r + 1 => sg r * y r
structure Arcs (P : Prb) (sg : Nat → Int) : Prop where
  sg1 : ∀ r, r < P.t → sg r = 1 ∨ sg r = -1
  arc : ∀ l, l < P.N + P.t → ∃ (α : Int) (u v : Nat), (α = 1 ∨ α = -1) ∧ u ≤ P.t ∧ v ≤ P.t ∧ ∀ y : Nat → Int, sm P.t (fun r => y r * P.A r l) = α * (pot sg y u - pot sg y v)
theorem Inv.entry {P : Prb} {s : Tab} (I : Inv P s) {sg : Nat → Int} (Ar : Arcs P sg) {j l : Nat} (hj : j < P.t) (hl : l < P.N + P.t) : s.T j l = 0 ∨ s.T j l = 1 ∨ s.T j l = -1 := by
  have ss : ∀ r, r < P.t → sg r * sg r = 1 := fun r hr => by rcases Ar.sg1 r hr with h | h <;> rw [h] <;> rfl
  let y : Nat → Int := fun r => s.T j (P.N + r)
  have hy : ∀ l, l ≤ P.N + P.t → s.T j l = sm P.t fun r => y r * P.A r l := fun l hl => I.row j l hj hl
  -- a threshold of the potential is the potential
  have key : ∀ θ : Int → Int, θ 0 = 0 → (∀ a b : Int, (a - b = 1 ∨ a - b = -1) → θ a - θ b = 0 ∨ θ a - θ b = a - b) → (∃ w, w < P.t ∧ θ (pot sg y (w + 1)) ≠ 0) → ∀ w, w ≤ P.t → pot sg y w = θ (pot sg y w) := by
    intro θ h0 h1 ⟨w0, hw0, hw1⟩
    let z : Nat → Int := fun r => sg r * θ (pot sg y (r + 1))
    have pz : ∀ w, w ≤ P.t → pot sg z w = θ (pot sg y w) := fun w hw => by
      cases w with
      | zero => exact h0.symm
      | succ r =>
        show sg r * (sg r * θ (pot sg y (r + 1))) = _
        rw [← Int.mul_assoc, ss r (by omega), Int.one_mul]
    have hz : ∀ i, i < P.t → i ≠ j → sm P.t (fun r => z r * P.A r (s.b i)) = 0 := fun i hi hij => by
      obtain ⟨α, u, v, ha, hu, hv, hs⟩ := Ar.arc (s.b i) (I.bl i hi)
      have e1 := hy (s.b i) (Nat.le_of_lt (I.bl i hi))
      rw [I.unit j i hj hi, if_neg (Ne.symm hij), hs] at e1
      have e2 : pot sg y u = pot sg y v := by rcases ha with h | h <;> rw [h] at e1 <;> omega
      rw [hs, pz u hu, pz v hv, e2, Int.sub_self, Int.mul_zero]
    obtain ⟨α, u, v, ha, hu, hv, hs⟩ := Ar.arc (s.b j) (I.bl j hj)
    have e1 := hy (s.b j) (Nat.le_of_lt (I.bl j hj))
    rw [I.unit j j hj hj, if_pos rfl, hs] at e1
    have e2 : pot sg y u - pot sg y v = 1 ∨ pot sg y u - pot sg y v = -1 := by rcases ha with h | h <;> rw [h] at e1 <;> omega
    have hzj : sm P.t (fun r => z r * P.A r (s.b j)) = α * (θ (pot sg y u) - θ (pot sg y v)) := by rw [hs, pz u hu, pz v hv]
    rcases h1 _ _ e2 with h | h
    · exfalso
      have := I.uniq (z := z) (fun i hi => by
        by_cases hij : i = j
        · rw [hij, hzj, h, Int.mul_zero]
        · exact hz i hi hij) w0 hw0
      have e3 : pot sg z (w0 + 1) = 0 := by
        show sg w0 * z w0 = 0
        rw [this, Int.mul_zero]
      rw [pz (w0 + 1) (by omega)] at e3
      exact hw1 e3
    · have e4 := I.uniq (z := fun r => y r - z r) (fun i hi => by
        rw [sm_congr (g := fun r => y r * P.A r (s.b i) - z r * P.A r (s.b i)) fun r _ => Int.sub_mul .., sm_sub, ← hy (s.b i) (Nat.le_of_lt (I.bl i hi)), I.unit j i hj hi]
        by_cases hij : i = j
        · rw [hij, if_pos rfl, hzj, h, ← e1, Int.sub_self]
        · rw [if_neg (Ne.symm hij), hz i hi hij, Int.sub_self])
      intro w hw
      rw [← pz w hw]
      cases w with
      | zero => rfl
      | succ r =>
        show sg r * y r = sg r * z r
        have := e4 r (by omega)
        have : y r = z r := by omega
        rw [this]
  have fin : ∀ a b : Int, (∀ w, w ≤ P.t → a ≤ pot sg y w ∧ pot sg y w ≤ b) → b - a ≤ 1 → s.T j l = 0 ∨ s.T j l = 1 ∨ s.T j l = -1 := fun a b h hab => by
    obtain ⟨α, u, v, ha, hu, hv, hs⟩ := Ar.arc l hl
    rw [hy l (Nat.le_of_lt hl), hs]
    have h1 := h u hu
    have h2 := h v hv
    rcases ha with e | e <;> rw [e] <;> omega
  by_cases h1 : ∃ w, w < P.t ∧ 1 ≤ pot sg y (w + 1)
  · obtain ⟨w, hw, h1⟩ := h1
    have k := key (fun x => if 1 ≤ x then 1 else 0) rfl (fun a b h => by
      split <;> split <;> omega) ⟨w, hw, by rw [if_pos h1]; decide⟩
    refine fin 0 1 (fun w hw => ?_) (by omega)
    have := k w hw
    rw [this]
    split <;> omega
  · by_cases h2 : ∃ w, w < P.t ∧ pot sg y (w + 1) ≤ -1
    · obtain ⟨w, hw, h2⟩ := h2
      have k := key (fun x => if x ≤ -1 then -1 else 0) rfl (fun a b h => by
        split <;> split <;> omega) ⟨w, hw, by rw [if_pos h2]; decide⟩
      refine fin (-1) 0 (fun w hw => ?_) (by omega)
      have := k w hw
      rw [this]
      split <;> omega
    · refine fin 0 0 (fun w hw => ?_) (by omega)
      cases w with
      | zero =>
        show (0 : Int) ≤ 0 ∧ (0 : Int) ≤ 0
        omega
      | succ r =>
        have a1 : ¬ 1 ≤ pot sg y (r + 1) := fun z => h1 ⟨r, by omega, z⟩
        have a2 : ¬ pot sg y (r + 1) ≤ -1 := fun z => h2 ⟨r, by omega, z⟩
        omega
end SX
end
section
set_option maxHeartbeats 1000000
namespace SX
/-! ### costs -/
def zc (P : Prb) (c : Nat → Int) (s : Tab) (k : Nat) : Int := sm P.t fun i => c (s.b i) * s.T i k
def be (P : Prb) (s : Tab) (i : Nat) : Int := s.T i (P.N + P.t)
section
variable {P : Prb} {c : Nat → Int} {s : Tab}
theorem zc_basic (I : Inv P s) {m : Nat} (hm : m < P.t) : zc P c s (s.b m) = c (s.b m) := by
  unfold zc
  rw [sm_congr (g := fun i => if i = m then c (s.b i) else 0) fun i hi => ?_, sm_pick hm]
  rw [I.unit i m hi hm]
  by_cases e : i = m
  · rw [if_pos e, if_pos e, Int.mul_one]
  · rw [if_neg e, if_neg e, Int.mul_zero]
/-- the multipliers of the rows -/
def pi (P : Prb) (c : Nat → Int) (s : Tab) (r : Nat) : Int := sm P.t fun i => c (s.b i) * s.T i (P.N + r)
theorem zc_pi (I : Inv P s) {l : Nat} (hl : l ≤ P.N + P.t) : zc P c s l = sm P.t fun r => pi P c s r * P.A r l := by
  unfold zc pi
  rw [sm_congr (g := fun i => sm P.t fun r => c (s.b i) * s.T i (P.N + r) * P.A r l) fun i hi => ?_, sm_swap]
  · exact sm_congr fun r _ => by rw [sm_mulr]
  · rw [I.row i l hi hl, ← sm_mul]
    exact sm_congr fun r _ => by rw [Int.mul_assoc]
/-- reduced costs at one basis, along a column of another one -/
theorem cross {s' : Tab} (I : Inv P s) (I' : Inv P s') {r : Nat} (hr : r < P.N + P.t) :
    zc P c s r = sm P.t fun i => zc P c s (s'.b i) * s'.T i r := by
  rw [zc_pi I (Nat.le_of_lt hr), sm_congr (f := fun x => pi P c s x * P.A x r) (g := fun x => sm P.t fun i => pi P c s x * P.A x (s'.b i) * s'.T i r) fun x hx => ?_, sm_swap]
  · exact sm_congr fun i hi => by rw [zc_pi I (Nat.le_of_lt (I'.bl i hi)), sm_mulr]
  · rw [I'.col x r hx (Nat.le_of_lt hr), ← sm_mul]
    exact sm_congr fun i _ => by rw [Int.mul_assoc]
end
/-! ### a run of pivots by the first column that raises, the least row -/
structure Run (P : Prb) (c : Nat → Int) (L : Nat) (st : Nat → Tab) (j k : Nat → Nat) : Prop where
  inv : ∀ m, m ≤ L → Inv P (st m)
  kN : ∀ m, m < L → k m < P.N
  up : ∀ m, m < L → zc P c (st m) (k m) < c (k m)
  first : ∀ m, m < L → ∀ k', k' < k m → c k' ≤ zc P c (st m) k'
  jt : ∀ m, m < L → j m < P.t
  one : ∀ m, m < L → (st m).T (j m) (k m) = 1
  rat : ∀ m, m < L → ∀ i, i < P.t → (st m).T i (k m) = 1 → be P (st m) (j m) < be P (st m) i ∨ (be P (st m) (j m) = be P (st m) i ∧ (st m).b (j m) ≤ (st m).b i)
  nxt : ∀ m, m < L → st (m + 1) = piv (st m) (j m) (k m)
section
variable {P : Prb} {c : Nat → Int} {L : Nat} {st : Nat → Tab} {j k : Nat → Nat}
theorem Run.sub (R : Run P c L st j k) (a : Nat) {n : Nat} (h : a + n ≤ L) : Run P c n (fun m => st (a + m)) (fun m => j (a + m)) fun m => k (a + m) :=
  ⟨fun m hm => R.inv _ (by omega), fun m hm => R.kN _ (by omega), fun m hm => R.up _ (by omega), fun m hm => R.first _ (by omega), fun m hm => R.jt _ (by omega), fun m hm => R.one _ (by omega), fun m hm => R.rat _ (by omega), fun m hm => R.nxt (a + m) (by omega)⟩
/-- nothing moves -/
def Deg (P : Prb) (L : Nat) (st : Nat → Tab) (j : Nat → Nat) : Prop := ∀ m, m < L → be P (st m) (j m) = 0
theorem Run.be_step (R : Run P c L st j k) (D : Deg P L st j) {m : Nat} (hm : m < L) (i : Nat) : be P (st (m + 1)) i = be P (st m) i := by
  have d : (st m).T (j m) (P.N + P.t) = 0 := D m hm
  unfold be
  rw [R.nxt m hm]
  show (if i = j m then (st m).T (j m) (k m) * (st m).T (j m) (P.N + P.t) else (st m).T i (P.N + P.t) - (st m).T i (k m) * ((st m).T (j m) (k m) * (st m).T (j m) (P.N + P.t))) = _
  rw [d, Int.mul_zero, Int.mul_zero, Int.sub_zero]
  by_cases e : i = j m
  · rw [if_pos e, e, d]
  · rw [if_neg e]
theorem Run.be_const (R : Run P c L st j k) (D : Deg P L st j) (i : Nat) : ∀ m, m ≤ L → be P (st m) i = be P (st 0) i
  | 0, _ => rfl
  | m + 1, h => by rw [R.be_step D (by omega) i, R.be_const D i m (by omega)]
theorem Run.b_step (R : Run P c L st j k) {m : Nat} (hm : m < L) (i : Nat) : (st (m + 1)).b i = if i = j m then k m else (st m).b i := by
  rw [R.nxt m hm]
  rfl
/-- a row whose basis is another one later: the last pivot there -/
theorem Run.last (R : Run P c L st j k) (i : Nat) {a : Nat} : ∀ n, a + n ≤ L → (st (a + n)).b i ≠ (st a).b i → ∃ m, a ≤ m ∧ m < a + n ∧ j m = i ∧ (st (a + n)).b i = k m
  | 0, _, h => absurd rfl h
  | n + 1, h, hne => by
    have e : (st (a + (n + 1))).b i = if i = j (a + n) then k (a + n) else (st (a + n)).b i := R.b_step (m := a + n) (by omega) i
    by_cases hj : i = j (a + n)
    · rw [if_pos hj] at e
      exact ⟨a + n, by omega, by omega, hj.symm, e⟩
    · rw [if_neg hj] at e
      obtain ⟨m, h1, h2, h3, h4⟩ := R.last i (a := a) n (by omega) (by rw [← e]; exact hne)
      exact ⟨m, h1, by omega, h3, by rw [e]; exact h4⟩
/-- .. the first pivot there -/
theorem Run.fst (R : Run P c L st j k) (i : Nat) {a : Nat} : ∀ n, a + n ≤ L → (st (a + n)).b i ≠ (st a).b i → ∃ m, a ≤ m ∧ m < a + n ∧ j m = i ∧ (st m).b i = (st a).b i
  | 0, _, h => absurd rfl h
  | n + 1, h, hne => by
    by_cases he : (st (a + n)).b i = (st a).b i
    · have e : (st (a + (n + 1))).b i = if i = j (a + n) then k (a + n) else (st (a + n)).b i := R.b_step (m := a + n) (by omega) i
      by_cases hj : i = j (a + n)
      · exact ⟨a + n, by omega, by omega, hj.symm, he⟩
      · rw [if_neg hj, he] at e
        exact absurd e hne
    · obtain ⟨m, h1, h2, h3, h4⟩ := R.fst i (a := a) n (by omega) he
      exact ⟨m, h1, by omega, h3, h4⟩
/-- Bland: where nothing moves, the largest variable that changes does not both enter and leave -/
theorem Run.bland (R : Run P c L st j k) {sg : Nat → Int} (Ar : Arcs P sg) (D : Deg P L st j) {q : Nat} (hq : ∀ m, m < L → k m ≤ q ∧ (st m).b (j m) ≤ q) {a b : Nat} (ha : a < L) (hb : b < L) (ea : k a = q) (eb : (st b).b (j b) = q) : False := by
  have IA := R.inv a (Nat.le_of_lt ha)
  have IB := R.inv b (Nat.le_of_lt hb)
  have hrN := R.kN b hb
  have hqN : q < P.N := by rw [← ea]; exact R.kN a ha
  have fA : ∀ l, l < q → c l ≤ zc P c (st a) l := fun l hl => R.first a ha l (by rw [ea]; exact hl)
  have uA : zc P c (st a) q < c q := by rw [← ea]; exact R.up a ha
  have hrq : k b ≠ q := fun e => by
    have h1 := R.up b hb
    rw [e, ← eb, zc_basic IB (R.jt b hb)] at h1
    omega
  have hrq2 : k b < q := by have := (hq b hb).1; omega
  have h1 : zc P c (st b) (k b) = sm P.t fun i => c ((st b).b i) * (st b).T i (k b) := rfl
  have h2 := cross (c := c) IA IB (r := k b) (by omega)
  have h3 : sm P.t (fun i => (zc P c (st a) ((st b).b i) - c ((st b).b i)) * (st b).T i (k b)) = zc P c (st a) (k b) - zc P c (st b) (k b) := by
    rw [h1, h2, ← sm_sub]
    exact sm_congr fun i _ => Int.sub_mul ..
  have h4 : 0 < sm P.t (fun i => (zc P c (st a) ((st b).b i) - c ((st b).b i)) * (st b).T i (k b)) := by
    rw [h3]
    have := fA (k b) hrq2
    have := R.up b hb
    omega
  obtain ⟨i, hi, h5⟩ := sm_pos h4
  -- the variable of row i
  have hne : zc P c (st a) ((st b).b i) - c ((st b).b i) ≠ 0 := fun e => by
    rw [e, Int.zero_mul] at h5
    omega
  have hnb : ∀ m, m < P.t → (st a).b m ≠ (st b).b i := fun m hm e => by
    rw [← e, zc_basic IA hm] at hne
    omega
  have hz : be P (st b) i = 0 ∧ (st b).b i ≤ q := by
    rcases Nat.lt_or_ge a b with hab | hab
    · have e1 : a + (b - a) = b := by omega
      obtain ⟨m, m1, m2, m3, m4⟩ := R.last i (a := a) (b - a) (by omega) (by rw [e1]; exact (hnb i hi).symm)
      rw [e1] at m2 m4
      refine ⟨?_, by rw [m4]; exact (hq m (by omega)).1⟩
      rw [R.be_const D i b (by omega), ← R.be_const D i m (by omega), ← m3]
      exact D m (by omega)
    · have e1 : b + (a - b) = a := by omega
      obtain ⟨m, m1, m2, m3, m4⟩ := R.fst i (a := b) (a - b) (by omega) (by rw [e1]; exact hnb i hi)
      rw [e1] at m2
      refine ⟨?_, by rw [← m4, ← m3]; exact (hq m (by omega)).2⟩
      rw [R.be_const D i b (by omega), ← R.be_const D i m (by omega), ← m3]
      exact D m (by omega)
  have hent := IB.entry Ar (j := i) (l := k b) hi (by omega)
  by_cases hsq : (st b).b i = q
  · have u1 := IB.unit i (j b) hi (R.jt b hb)
    rw [eb, ← hsq, IB.unit i i hi hi, if_pos rfl] at u1
    have hij : i = j b := by
      by_cases e : i = j b
      · exact e
      · rw [if_neg e] at u1
        omega
    rw [hsq, hij, R.one b hb] at h5
    omega
  · have hs : (st b).b i < q := by have := hz.2; omega
    have := fA _ hs
    have hT : (st b).T i (k b) = 1 := by
      rcases hent with e | e | e
      · rw [e] at h5; omega
      · exact e
      · rw [e] at h5; omega
    have d0 : be P (st b) (j b) = 0 := D b hb
    rcases R.rat b hb i hi hT with h | ⟨_, h⟩
    · rw [d0, hz.1] at h
      omega
    · rw [eb] at h
      omega
end
end SX
end
section
set_option maxHeartbeats 1000000
namespace SX
theorem ex_min {p : Nat → Prop} : ∀ {L : Nat}, (∃ m, m < L ∧ p m) → ∃ m, m < L ∧ p m ∧ ∀ m', m' < m → ¬ p m'
  | 0, ⟨m, h, _⟩ => by omega
  | L + 1, ⟨m, h, hp⟩ => by
    by_cases e : ∃ m, m < L ∧ p m
    · obtain ⟨m, h1, h2, h3⟩ := ex_min e
      exact ⟨m, by omega, h2, h3⟩
    · by_cases hm : m = L
      · subst hm
        exact ⟨m, by omega, hp, fun m' h' z => e ⟨m', h', z⟩⟩
      · exact absurd ⟨m, by omega, hp⟩ e
section
variable {P : Prb} {c : Nat → Int} {sg : Nat → Int}
theorem two_basic {s : Tab} (I : Inv P s) {i i' : Nat} (hi : i < P.t) (hi' : i' < P.t) (h : s.b i = s.b i') : i = i' := by
  have u := I.unit i i' hi hi'
  rw [← h, I.unit i i hi hi, if_pos rfl] at u
  by_cases e : i = i'
  · exact e
  · rw [if_neg e] at u
    omega
/-- a run in which nothing moves is short -/
theorem run_short (Ar : Arcs P sg) : ∀ (q : Nat) {L : Nat} {st : Nat → Tab} {j k : Nat → Nat}, Run P c L st j k → Deg P L st j → (∀ m, m < L → k m < q ∧ (st m).b (j m) < q) → L < 2 ^ q
  | 0, L, st, j, k, R, D, hq => by
    rcases Nat.eq_zero_or_pos L with h | h
    · rw [h]; decide
    · have := (hq 0 h).1
      omega
  | q + 1, L, st, j, k, R, D, hq => by
    have hq' : ∀ m, m < L → k m ≤ q ∧ (st m).b (j m) ≤ q := fun m hm => by have := hq m hm; omega
    have h2 : 2 ^ (q + 1) = 2 ^ q + 2 ^ q := by rw [Nat.pow_succ]; omega
    by_cases hinv : ∃ m, m < L ∧ (k m = q ∨ (st m).b (j m) = q)
    · obtain ⟨m0, h0, hi0, hmin⟩ := ex_min hinv
      have later : ∀ m, m0 < m → m < L → ¬ (k m = q ∨ (st m).b (j m) = q) := by
        intro m hm hmL hc
        obtain ⟨m1, h1, ⟨hm1, hi1⟩, hmin1⟩ := ex_min (p := fun m => m0 < m ∧ (k m = q ∨ (st m).b (j m) = q)) (L := L) ⟨m, hmL, hm, hc⟩
        have quiet : ∀ m, m0 < m → m < m1 → ¬ (k m = q ∨ (st m).b (j m) = q) := fun m a b z => hmin1 m b ⟨a, z⟩
        have e1 : m0 + 1 + (m1 - (m0 + 1)) = m1 := by omega
        by_cases hk0 : k m0 = q
        · -- it entered
          have b1 : (st (m0 + 1)).b (j m0) = q := by rw [R.b_step h0, if_pos rfl, hk0]
          have b2 : (st m1).b (j m0) = q := by
            by_cases e : (st m1).b (j m0) = (st (m0 + 1)).b (j m0)
            · rw [e, b1]
            · obtain ⟨m', a1, a2, a3, a4⟩ := R.fst (j m0) (a := m0 + 1) (m1 - (m0 + 1)) (by omega) (by rw [e1]; exact e)
              rw [e1] at a2
              exact absurd (.inr (by rw [a3, a4, b1])) (quiet m' (by omega) a2)
          rcases hi1 with h | h
          · have u := R.up m1 h1
            rw [h, ← b2, zc_basic (R.inv m1 (by omega)) (R.jt m0 h0)] at u
            omega
          · exact R.bland Ar D hq' h0 h1 hk0 h
        · have hl0 : (st m0).b (j m0) = q := by
            rcases hi0 with h | h
            · exact absurd h hk0
            · exact h
          rcases hi1 with h | h
          · exact R.bland Ar D hq' h1 h0 h hl0
          · by_cases e : (st m1).b (j m1) = (st (m0 + 1)).b (j m1)
            · rw [R.b_step h0] at e
              by_cases hj : j m1 = j m0
              · rw [if_pos hj] at e
                exact hk0 (by rw [← e]; exact h)
              · rw [if_neg hj] at e
                exact hj (two_basic (R.inv m0 (by omega)) (R.jt m1 h1) (R.jt m0 h0) (by rw [← e, h, hl0]))
            · obtain ⟨m', a1, a2, a3, a4⟩ := R.last (j m1) (a := m0 + 1) (m1 - (m0 + 1)) (by omega) (by rw [e1]; exact e)
              rw [e1] at a2 a4
              exact absurd (.inl (by rw [← a4]; exact h)) (quiet m' (by omega) a2)
      have p1 := run_short Ar q (R.sub 0 (n := m0) (by omega)) (fun m hm => D (0 + m) (by omega)) fun m hm => by
        have a := hq (0 + m) (by omega)
        have b := hmin (0 + m) (by omega)
        refine ⟨?_, ?_⟩
        · have : k (0 + m) ≠ q := fun z => b (.inl z)
          omega
        · have : (st (0 + m)).b (j (0 + m)) ≠ q := fun z => b (.inr z)
          omega
      have p2 := run_short Ar q (R.sub (m0 + 1) (n := L - (m0 + 1)) (by omega)) (fun m hm => D (m0 + 1 + m) (by omega)) fun m hm => by
        have a := hq (m0 + 1 + m) (by omega)
        have b := later (m0 + 1 + m) (by omega) (by omega)
        refine ⟨?_, ?_⟩
        · have : k (m0 + 1 + m) ≠ q := fun z => b (.inl z)
          omega
        · have : (st (m0 + 1 + m)).b (j (m0 + 1 + m)) ≠ q := fun z => b (.inr z)
          omega
      omega
    · have := run_short Ar q R D fun m hm => by
        have a := hq m hm
        refine ⟨?_, ?_⟩
        · have : k m ≠ q := fun z => hinv ⟨m, hm, .inl z⟩
          omega
        · have : (st m).b (j m) ≠ q := fun z => hinv ⟨m, hm, .inr z⟩
          omega
      omega
/-! ### nothing below 0; what is gained -/
def Fea (P : Prb) (s : Tab) : Prop := ∀ i, i < P.t → 0 ≤ be P s i
theorem fea_piv {s : Tab} (I : Inv P s) (Ar : Arcs P sg) (F : Fea P s) {j k : Nat} (hj : j < P.t) (hk : k < P.N) (one : s.T j k = 1)
    (rat : ∀ i, i < P.t → s.T i k = 1 → be P s j < be P s i ∨ (be P s j = be P s i ∧ s.b j ≤ s.b i)) : Fea P (piv s j k) := by
  intro i hi
  show 0 ≤ (if i = j then s.T j k * s.T j (P.N + P.t) else s.T i (P.N + P.t) - s.T i k * (s.T j k * s.T j (P.N + P.t)))
  have hbj : 0 ≤ s.T j (P.N + P.t) := F j hj
  have hbi : 0 ≤ s.T i (P.N + P.t) := F i hi
  rw [one, Int.one_mul]
  by_cases e : i = j
  · rw [if_pos e]; exact hbj
  · rw [if_neg e]
    rcases I.entry Ar (l := k) hi (by omega) with h | h | h
    · rw [h]; omega
    · rw [h]
      have r := rat i hi h
      unfold be at r
      omega
    · rw [h]; omega
theorem Run.fea {L : Nat} {st : Nat → Tab} {j k : Nat → Nat} (R : Run P c L st j k) (Ar : Arcs P sg) (F : Fea P (st 0)) : ∀ m, m ≤ L → Fea P (st m)
  | 0, _ => F
  | m + 1, h => by
    rw [R.nxt m (by omega)]
    exact fea_piv (R.inv m (by omega)) Ar (R.fea Ar F m (by omega)) (R.jt m (by omega)) (R.kN m (by omega)) (R.one m (by omega)) (R.rat m (by omega))
/-- the costs of the basis -/
def obj (P : Prb) (c : Nat → Int) (s : Tab) : Int := zc P c s (P.N + P.t)
theorem obj_piv {s : Tab} {j k : Nat} (hj : j < P.t) (one : s.T j k = 1) : obj P c (piv s j k) = obj P c s + (c k - zc P c s k) * be P s j := by
  have h0 : obj P c (piv s j k) = sm P.t fun i => c (if i = j then k else s.b i) * (if i = j then s.T j k * s.T j (P.N + P.t) else s.T i (P.N + P.t) - s.T i k * (s.T j k * s.T j (P.N + P.t))) := rfl
  rw [h0, one, sm_congr (g := fun i => (c (s.b i) * s.T i (P.N + P.t) - c (s.b i) * s.T i k * be P s j) + (if i = j then c k * be P s j else 0)) fun i hi => ?_]
  · rw [sm_add, sm_sub, sm_mulr, sm_one hj]
    show zc P c s (P.N + P.t) - zc P c s k * be P s j + c k * be P s j = zc P c s (P.N + P.t) + (c k - zc P c s k) * be P s j
    rw [Int.sub_mul]
    omega
  · show c (if i = j then k else s.b i) * (if i = j then 1 * s.T j (P.N + P.t) else s.T i (P.N + P.t) - s.T i k * (1 * s.T j (P.N + P.t))) = _
    unfold be
    rw [Int.one_mul]
    by_cases e : i = j
    · rw [if_pos e, if_pos e, if_pos e, e, one, Int.mul_one]
      omega
    · rw [if_neg e, if_neg e, if_neg e, Int.mul_sub, ← Int.mul_assoc, Int.add_zero]
/-- a run is short -/
theorem run_len (Ar : Arcs P sg) (cneg : ∀ l, l < P.N + P.t → c l ≤ 0) : ∀ (G : Nat) {L : Nat} {st : Nat → Tab} {j k : Nat → Nat}, Run P c L st j k → Fea P (st 0) → -(G : Int) ≤ obj P c (st 0) → L < (G + 1) * 2 ^ (P.N + P.t)
  | G, L, st, j, k, R, F, hG => by
    have hpos : 0 < 2 ^ (P.N + P.t) := Nat.pow_pos (by decide)
    have oneg : ∀ m, m ≤ L → obj P c (st m) ≤ 0 := fun m hm => by
      have Fm := R.fea Ar F m hm
      have := sm_le (n := P.t) (f := fun i => c ((st m).b i) * (st m).T i (P.N + P.t)) (g := fun _ => 0) fun i hi => by
        have h1 := cneg _ ((R.inv m hm).bl i hi)
        have h2 : 0 ≤ (st m).T i (P.N + P.t) := Fm i hi
        have := Int.mul_nonneg (show 0 ≤ - c ((st m).b i) by omega) h2
        rw [Int.neg_mul] at this
        omega
      rw [sm_zero] at this
      exact this
    have step : ∀ m, m < L → obj P c (st (m + 1)) = obj P c (st m) + (c (k m) - zc P c (st m) (k m)) * be P (st m) (j m) := fun m hm => by
      rw [R.nxt m hm, obj_piv (R.jt m hm) (R.one m hm)]
    have hind : ∀ (n : Nat) {st : Nat → Tab} {j k : Nat → Nat}, Run P c n st j k → Deg P n st j → n < 2 ^ (P.N + P.t) := fun n {st j k} R D =>
      run_short Ar (P.N + P.t) R D fun m hm => ⟨by have := R.kN m hm; omega, (R.inv m (Nat.le_of_lt hm)).bl _ (R.jt m hm)⟩
    by_cases hnd : ∃ m, m < L ∧ be P (st m) (j m) ≠ 0
    · obtain ⟨m0, h0, hn, hmin⟩ := ex_min hnd
      have D0 : Deg P m0 (fun m => st (0 + m)) (fun m => j (0 + m)) := fun m hm => by
        have := hmin (0 + m) (by omega)
        exact Classical.byContradiction fun z => this z
      have l0 := hind m0 (R.sub 0 (by omega)) D0
      have oc : ∀ m, m ≤ m0 → obj P c (st m) = obj P c (st 0) := fun m => by
        induction m with
        | zero => exact fun _ => rfl
        | succ m ih =>
          intro hm
          have d : be P (st m) (j m) = 0 := by
            have := hmin m (by omega)
            exact Classical.byContradiction fun z => this z
          rw [step m (by omega), d, Int.mul_zero, Int.add_zero, ih (by omega)]
      have hb : 1 ≤ be P (st m0) (j m0) := by
        have := R.fea Ar F m0 (by omega) (j m0) (R.jt m0 h0)
        omega
      have hu : 1 ≤ c (k m0) - zc P c (st m0) (k m0) := by have := R.up m0 h0; omega
      have hmul : 1 ≤ (c (k m0) - zc P c (st m0) (k m0)) * be P (st m0) (j m0) := by
        have := Int.mul_le_mul hu hb (by omega) (by omega)
        omega
      have ho := step m0 h0
      rw [oc m0 (Nat.le_refl _)] at ho
      have hle := oneg (m0 + 1) (by omega)
      cases G with
      | zero => omega
      | succ G =>
        have := run_len Ar cneg G (R.sub (m0 + 1) (n := L - (m0 + 1)) (by omega)) (R.fea Ar F (m0 + 1) (by omega)) (by
          show -(G : Int) ≤ obj P c (st (m0 + 1))
          rw [ho]
          omega)
        rw [Nat.add_mul, Nat.one_mul]
        omega
    · have := hind L R fun m hm => Classical.byContradiction fun z => hnd ⟨m, hm, z⟩
      rw [Nat.add_mul, Nat.one_mul]
      have := Nat.zero_le (G * 2 ^ (P.N + P.t))
      omega
end
end SX
end
section
set_option maxHeartbeats 1000000
namespace SX
/-! ### the climb, as it is computed -/
/-- the first one from k on, n to look at -/
def firstN (p : Nat → Bool) : Nat → Nat → Option Nat
  | 0, _ => none
  | n + 1, k => if p k = true then some k else firstN p n (k + 1)
theorem firstN_some {p : Nat → Bool} : ∀ {n k m : Nat}, firstN p n k = some m → k ≤ m ∧ m < k + n ∧ p m = true ∧ ∀ i, k ≤ i → i < m → p i = false
  | 0, k, m, h => by cases h
  | n + 1, k, m, h => by
    unfold firstN at h
    by_cases hp : p k = true
    · rw [if_pos hp] at h
      cases h
      exact ⟨Nat.le_refl _, by omega, hp, fun i h1 h2 => by omega⟩
    · rw [if_neg hp] at h
      obtain ⟨h1, h2, h3, h4⟩ := firstN_some h
      refine ⟨by omega, by omega, h3, fun i a b => ?_⟩
      by_cases e : i = k
      · rw [e]; exact Bool.eq_false_iff.mpr hp
      · exact h4 i (by omega) b
theorem firstN_none {p : Nat → Bool} : ∀ {n k : Nat}, firstN p n k = none → ∀ i, k ≤ i → i < k + n → p i = false
  | 0, k, _, i, h1, h2 => by omega
  | n + 1, k, h, i, h1, h2 => by
    unfold firstN at h
    by_cases hp : p k = true
    · rw [if_pos hp] at h
      cases h
    · rw [if_neg hp] at h
      by_cases e : i = k
      · rw [e]; exact Bool.eq_false_iff.mpr hp
      · exact firstN_none h i (by omega) (by omega)
def rise (P : Prb) (c : Nat → Int) (s : Tab) : Option Nat := firstN (fun k => decide (zc P c s k < c k)) P.N 0
/-- is row j better than row i -/
def bet (P : Prb) (s : Tab) (j i : Nat) : Bool := decide (be P s j < be P s i) || (decide (be P s j = be P s i) && decide (s.b j < s.b i))
def scan (P : Prb) (s : Tab) (k : Nat) : Nat → Option Nat
  | 0 => none
  | j + 1 => if 0 < s.T j k then (match scan P s k j with
    | none => some j
    | some i => if bet P s j i = true then some j else some i) else scan P s k j
theorem scan_some {P : Prb} {s : Tab} {k : Nat} : ∀ {n j : Nat}, scan P s k n = some j → j < n ∧ 0 < s.T j k ∧ ∀ i, i < n → 0 < s.T i k → be P s j < be P s i ∨ (be P s j = be P s i ∧ s.b j ≤ s.b i)
  | 0, j, h => by cases h
  | n + 1, j, h => by
    unfold scan at h
    by_cases hp : 0 < s.T n k
    · rw [if_pos hp] at h
      cases e : scan P s k n with
      | none =>
        rw [e] at h
        cases h
        refine ⟨by omega, hp, fun i hi hi2 => ?_⟩
        by_cases ei : i = n
        · rw [ei]; exact .inr ⟨rfl, Nat.le_refl _⟩
        · exfalso
          have : ∀ {m : Nat}, scan P s k m = none → ∀ i, i < m → ¬ 0 < s.T i k := by
            intro m
            induction m with
            | zero => intro _ i hi; omega
            | succ m ih =>
              intro hm i hi
              unfold scan at hm
              by_cases hq : 0 < s.T m k
              · rw [if_pos hq] at hm
                cases e : scan P s k m with
                | none => rw [e] at hm; cases hm
                | some z =>
                  rw [e] at hm
                  dsimp only at hm
                  split at hm <;> cases hm
              · rw [if_neg hq] at hm
                by_cases ei : i = m
                · rw [ei]; exact hq
                · exact ih hm i (by omega)
          exact this e i (by omega) hi2
      | some z =>
        rw [e] at h
        obtain ⟨h1, h2, h3⟩ := scan_some e
        dsimp only at h
        by_cases hb : bet P s n z = true
        · rw [if_pos hb] at h
          cases h
          unfold bet at hb
          simp only [Bool.or_eq_true, Bool.and_eq_true, decide_eq_true_eq] at hb
          refine ⟨by omega, hp, fun i hi hi2 => ?_⟩
          by_cases ei : i = n
          · rw [ei]; exact .inr ⟨rfl, Nat.le_refl _⟩
          · have := h3 i (by omega) hi2
            omega
        · rw [if_neg hb] at h
          cases h
          unfold bet at hb
          simp only [Bool.or_eq_true, Bool.and_eq_true, decide_eq_true_eq] at hb
          refine ⟨by omega, h2, fun i hi hi2 => ?_⟩
          by_cases ei : i = n
          · rw [ei]
            omega
          · exact h3 i (by omega) hi2
    · rw [if_neg hp] at h
      obtain ⟨h1, h2, h3⟩ := scan_some h
      refine ⟨by omega, h2, fun i hi hi2 => ?_⟩
      by_cases ei : i = n
      · rw [ei] at hi2; exact absurd hi2 hp
      · exact h3 i (by omega) hi2
theorem scan_none {P : Prb} {s : Tab} {k : Nat} : ∀ {m : Nat}, scan P s k m = none → ∀ i, i < m → ¬ 0 < s.T i k
  | 0, _, i, hi => by omega
  | m + 1, hm, i, hi => by
    unfold scan at hm
    by_cases hq : 0 < s.T m k
    · rw [if_pos hq] at hm
      cases e : scan P s k m with
      | none => rw [e] at hm; cases hm
      | some z =>
        rw [e] at hm
        dsimp only at hm
        split at hm <;> cases hm
    · rw [if_neg hq] at hm
      by_cases ei : i = m
      · rw [ei]; exact hq
      · exact scan_none hm i (by omega)
def climbS (P : Prb) (c : Nat → Int) : Nat → Tab → Option Tab
  | 0, _ => none
  | f + 1, s => match rise P c s with
    | none => some s
    | some k => match scan P s k P.t with
      | none => none
      | some j => climbS P c f (piv s j k)
section
variable {P : Prb} {c : Nat → Int} {sg : Nat → Int}
/-- what is kept -/
def Kept (P : Prb) (s s' : Tab) : Prop := (∀ i, i < P.t → s.b i < P.N) → ∀ i, i < P.t → s'.b i < P.N
theorem climb_or (Ar : Arcs P sg) (cneg : ∀ l, l < P.N + P.t → c l ≤ 0) : ∀ (f : Nat) (s : Tab), Inv P s → Fea P s →
    (∃ s', climbS P c f s = some s' ∧ Inv P s' ∧ Fea P s' ∧ (∀ k, k < P.N → c k ≤ zc P c s' k) ∧ Kept P s s') ∨ ∃ st j k, Run P c f st j k ∧ st 0 = s
  | 0, s, I, F => .inr ⟨fun _ => s, fun _ => 0, fun _ => 0, ⟨fun _ _ => I, fun _ h => (by omega), fun _ h => (by omega), fun _ h => (by omega), fun _ h => (by omega), fun _ h => (by omega), fun _ h => (by omega), fun _ h => (by omega)⟩, rfl⟩
  | f + 1, s, I, F => by
    cases hr : rise P c s with
    | none =>
      refine .inl ⟨s, ?_, I, F, fun k hk => ?_, fun h => h⟩
      · unfold climbS
        rw [hr]
      · have := firstN_none hr k (Nat.zero_le _) (by omega)
        have := of_decide_eq_false this
        omega
    | some k =>
      obtain ⟨_, k2, k3, k4⟩ := firstN_some hr
      have k3 := of_decide_eq_true k3
      have kN : k < P.N := by omega
      have kf : ∀ k', k' < k → c k' ≤ zc P c s k' := fun k' h => by
        have := of_decide_eq_false (k4 k' (Nat.zero_le _) h)
        omega
      cases hs : scan P s k P.t with
      | none =>
        exfalso
        have hn := scan_none hs
        have : 0 ≤ zc P c s k := sm_nonneg fun i hi => by
          have h1 := cneg _ (I.bl i hi)
          have h2 := hn i hi
          have := Int.mul_nonneg (show 0 ≤ - c (s.b i) by omega) (show 0 ≤ - s.T i k by omega)
          rw [Int.neg_mul_neg] at this
          exact this
        have := cneg k (by omega)
        omega
      | some j =>
        obtain ⟨j1, j2, j3⟩ := scan_some hs
        have one : s.T j k = 1 := by
          rcases I.entry Ar (l := k) j1 (by omega) with e | e | e <;> omega
        have rat : ∀ i, i < P.t → s.T i k = 1 → be P s j < be P s i ∨ (be P s j = be P s i ∧ s.b j ≤ s.b i) := fun i hi h => j3 i hi (by omega)
        have I' := I.piv j1 (k := k) (by omega) (.inl one)
        have F' := fea_piv I Ar F j1 kN one rat
        have e : climbS P c (f + 1) s = climbS P c f (piv s j k) := by
          show (match rise P c s with
            | none => some s
            | some k => match scan P s k P.t with
              | none => none
              | some j => climbS P c f (piv s j k)) = _
          rw [hr]
          dsimp only
          rw [hs]
        rcases climb_or Ar cneg f (piv s j k) I' F' with ⟨s', h1, h2, h3, h4, h5⟩ | ⟨st, j', k', R, h0⟩
        · refine .inl ⟨s', by rw [e]; exact h1, h2, h3, h4, fun hb => h5 fun i hi => ?_⟩
          show (if i = j then k else s.b i) < P.N
          split
          · exact kN
          · exact hb i hi
        · refine .inr ⟨fun m => match m with | 0 => s | m + 1 => st m, fun m => match m with | 0 => j | m + 1 => j' m, fun m => match m with | 0 => k | m + 1 => k' m, ⟨fun m hm => ?_, fun m hm => ?_, fun m hm => ?_, fun m hm => ?_, fun m hm => ?_, fun m hm => ?_, fun m hm => ?_, fun m hm => ?_⟩, rfl⟩
          · cases m with
            | zero => exact I
            | succ m => exact R.inv m (by omega)
          · cases m with
            | zero => exact kN
            | succ m => exact R.kN m (by omega)
          · cases m with
            | zero => exact k3
            | succ m => exact R.up m (by omega)
          · cases m with
            | zero => exact kf
            | succ m => exact R.first m (by omega)
          · cases m with
            | zero => exact j1
            | succ m => exact R.jt m (by omega)
          · cases m with
            | zero => exact one
            | succ m => exact R.one m (by omega)
          · cases m with
            | zero => exact rat
            | succ m => exact R.rat m (by omega)
          · cases m with
            | zero => exact h0
            | succ m => exact R.nxt m (by omega)
theorem climb_ends (Ar : Arcs P sg) (cneg : ∀ l, l < P.N + P.t → c l ≤ 0) {f G : Nat} {s : Tab} (I : Inv P s) (F : Fea P s) (hG : -(G : Int) ≤ obj P c s) (hf : (G + 1) * 2 ^ (P.N + P.t) ≤ f) :
    ∃ s', climbS P c f s = some s' ∧ Inv P s' ∧ Fea P s' ∧ (∀ k, k < P.N → c k ≤ zc P c s' k) ∧ Kept P s s' := by
  rcases climb_or Ar cneg f s I F with h | ⟨st, j, k, R, h0⟩
  · exact h
  · have := run_len Ar cneg G R (by rw [h0]; exact F) (by rw [h0]; exact hG)
    omega
/-- no goal is more than all goals together -/
theorem be_le {s : Tab} (I : Inv P s) (Ar : Arcs P sg) (g0 : ∀ r, r < P.t → 0 ≤ P.A r (P.N + P.t)) {i : Nat} (hi : i < P.t) : be P s i ≤ sm P.t fun r => P.A r (P.N + P.t) := by
  unfold be
  rw [I.row i _ hi (Nat.le_refl _)]
  refine sm_le fun r hr => ?_
  rcases I.entry Ar (l := P.N + r) hi (by omega) with e | e | e <;> rw [e] <;> have := g0 r hr <;> omega
end
end SX
end
section
set_option maxHeartbeats 1000000
namespace SX
structure Nice (P : Prb) (sg : Nat → Int) : Prop where
  g0 : ∀ r, r < P.t → 0 ≤ P.A r (P.N + P.t)
  arcs : Arcs P sg
  single : ∀ r, r < P.t → ∃ l, l < P.N ∧ ∀ x, x < P.t → P.A x l = if x = r then 1 else 0
  slack : ∀ r, r < P.t → ∃ l, l < P.N ∧ ∀ x, x < P.t → P.A x l = if x = r then -1 else 0
/-- all goals together -/
def gs (P : Prb) : Nat := (sm P.t fun r => P.A r (P.N + P.t)).toNat
def c1 (P : Prb) (l : Nat) : Int := if l < P.N then 0 else -1
section
variable {P : Prb} {sg : Nat → Int}
theorem gs_eq (N : Nice P sg) : (gs P : Int) = sm P.t fun r => P.A r (P.N + P.t) := Int.toNat_of_nonneg (sm_nonneg N.g0)
theorem c1_neg (l : Nat) : c1 P l ≤ 0 := by unfold c1; split <;> omega
theorem fea0 (N : Nice P sg) : Fea P (st0 P) := fun i hi => N.g0 i hi
theorem obj0 (N : Nice P sg) : -(gs P : Int) ≤ obj P (c1 P) (st0 P) := by
  have : obj P (c1 P) (st0 P) = sm P.t fun i => (-1) * P.A i (P.N + P.t) := sm_congr fun i hi => by
    show c1 P (P.N + i) * P.A i (P.N + P.t) = _
    unfold c1
    rw [if_neg (by omega)]
  rw [this, sm_mul, gs_eq N]
  omega
/-- behind the first climb the helping columns are at 0 -/
theorem phase1 (N : Nice P sg) {s : Tab} (I : Inv P s) (F : Fea P s) (opt : ∀ k, k < P.N → c1 P k ≤ zc P (c1 P) s k) : obj P (c1 P) s = 0 ∧ ∀ i, i < P.t → P.N ≤ s.b i → be P s i = 0 := by
  have pi0 : ∀ r, r < P.t → pi P (c1 P) s r = 0 := fun r hr => by
    obtain ⟨l, hl, e⟩ := N.single r hr
    obtain ⟨l', hl', e'⟩ := N.slack r hr
    have h1 := opt l hl
    have h2 := opt l' hl'
    unfold c1 at h1 h2
    rw [if_pos hl] at h1
    rw [if_pos hl'] at h2
    have z1 : zc P (c1 P) s l = pi P (c1 P) s r := by
      rw [zc_pi I (by omega), sm_congr (g := fun x => if x = r then pi P (c1 P) s x else 0) fun x hx => ?_, sm_pick hr]
      rw [e x hx]
      by_cases z : x = r
      · rw [if_pos z, if_pos z, Int.mul_one]
      · rw [if_neg z, if_neg z, Int.mul_zero]
    have z2 : zc P (c1 P) s l' = - pi P (c1 P) s r := by
      rw [zc_pi I (by omega), sm_congr (g := fun x => if x = r then - pi P (c1 P) s x else 0) fun x hx => ?_, sm_pick (f := fun x => - pi P (c1 P) s x) hr]
      rw [e' x hx]
      by_cases z : x = r
      · rw [if_pos z, if_pos z]; omega
      · rw [if_neg z, if_neg z, Int.mul_zero]
    have h1 : 0 ≤ zc P (c1 P) s l := h1
    have h2 : 0 ≤ zc P (c1 P) s l' := h2
    omega
  have o0 : obj P (c1 P) s = 0 := by
    unfold obj
    rw [zc_pi I (Nat.le_refl _), sm_congr (g := fun _ => 0) fun r hr => by rw [pi0 r hr, Int.zero_mul], sm_zero]
  refine ⟨o0, fun i hi hb => ?_⟩
  have h := sm_all0 (n := P.t) (f := fun i => - (c1 P (s.b i) * s.T i (P.N + P.t))) (fun i hi => by
    have h1 := c1_neg (P := P) (s.b i)
    have h2 : 0 ≤ s.T i (P.N + P.t) := F i hi
    have := Int.mul_nonneg (show 0 ≤ - c1 P (s.b i) by omega) h2
    rw [Int.neg_mul] at this
    exact this) (by
    have e : sm P.t (fun i => - (c1 P (s.b i) * s.T i (P.N + P.t))) = (-1) * sm P.t (fun i => c1 P (s.b i) * s.T i (P.N + P.t)) := by
      rw [← sm_mul]
      exact sm_congr fun i _ => by omega
    rw [e]
    have : sm P.t (fun i => c1 P (s.b i) * s.T i (P.N + P.t)) = 0 := o0
    rw [this]
    decide) i hi
  have e : c1 P (s.b i) = -1 := by unfold c1; rw [if_neg (by omega)]
  rw [e] at h
  show s.T i (P.N + P.t) = 0
  omega
/-- a pivot in a row at 0 moves nothing -/
theorem be_piv0 {s : Tab} {j k : Nat} (h : be P s j = 0) (i : Nat) : be P (piv s j k) i = be P s i := by
  have d : s.T j (P.N + P.t) = 0 := h
  show (if i = j then s.T j k * s.T j (P.N + P.t) else s.T i (P.N + P.t) - s.T i k * (s.T j k * s.T j (P.N + P.t))) = s.T i (P.N + P.t)
  rw [d, Int.mul_zero, Int.mul_zero, Int.sub_zero]
  by_cases e : i = j
  · rw [if_pos e, e, d]
  · rw [if_neg e]
def lhelp (P : Prb) : Nat → Tab → Option Tab
  | 0, s => some s
  | j + 1, s => if s.b j < P.N then lhelp P j s else match firstN (fun k => decide (s.T j k ≠ 0)) P.N 0 with
    | none => none
    | some k => lhelp P j (piv s j k)
theorem lhelp_ends (N : Nice P sg) : ∀ (n : Nat) {s : Tab}, n ≤ P.t → Inv P s → Fea P s → (∀ i, i < P.t → P.N ≤ s.b i → be P s i = 0) → (∀ i, n ≤ i → i < P.t → s.b i < P.N) →
    ∃ s', lhelp P n s = some s' ∧ Inv P s' ∧ Fea P s' ∧ ∀ i, i < P.t → s'.b i < P.N
  | 0, s, _, I, F, _, hb => ⟨s, rfl, I, F, fun i hi => hb i (Nat.zero_le _) hi⟩
  | j + 1, s, hn, I, F, h0, hb => by
    unfold lhelp
    by_cases hj : s.b j < P.N
    · rw [if_pos hj]
      exact lhelp_ends N j (by omega) I F h0 fun i h1 h2 => by
        by_cases e : i = j
        · rw [e]; exact hj
        · exact hb i (by omega) h2
    · rw [if_neg hj]
      have hjt : j < P.t := by omega
      have hr : s.b j - P.N < P.t := by have := I.bl j hjt; omega
      obtain ⟨l, hl, el⟩ := N.single _ hr
      have hT : s.T j l = 1 := by
        rw [I.row j l hjt (by omega), sm_congr (g := fun r => if r = s.b j - P.N then s.T j (P.N + r) else 0) fun r hr' => ?_, sm_pick hr]
        · have e : P.N + (s.b j - P.N) = s.b j := by omega
          rw [e, I.unit j j hjt hjt, if_pos rfl]
        · rw [el r hr']
          by_cases z : r = s.b j - P.N
          · rw [if_pos z, if_pos z, Int.mul_one]
          · rw [if_neg z, if_neg z, Int.mul_zero]
      cases hf : firstN (fun k => decide (s.T j k ≠ 0)) P.N 0 with
      | none =>
        have := of_decide_eq_false (firstN_none hf l (Nat.zero_le _) (by omega))
        omega
      | some k =>
        obtain ⟨_, k2, k3, _⟩ := firstN_some hf
        have k3 := of_decide_eq_true k3
        have kN : k < P.N := by omega
        have pm : s.T j k = 1 ∨ s.T j k = -1 := by
          rcases I.entry N.arcs (l := k) hjt (by omega) with e | e | e
          · exact absurd e k3
          · exact .inl e
          · exact .inr e
        have bj := h0 j hjt (by omega)
        dsimp only
        refine lhelp_ends N j (by omega) (I.piv hjt (by omega) pm) (fun i hi => by rw [be_piv0 bj]; exact F i hi) (fun i hi hN => ?_) fun i h1 h2 => ?_
        · rw [be_piv0 bj]
          have hN : P.N ≤ (if i = j then k else s.b i) := hN
          by_cases e : i = j
          · rw [e]; exact bj
          · rw [if_neg e] at hN
            exact h0 i hi hN
        · show (if i = j then k else s.b i) < P.N
          by_cases e : i = j
          · rw [if_pos e]; exact kN
          · rw [if_neg e]; exact hb i (by omega) h2
/-- the whole way: two climbs; what comes out -/
theorem solve (N : Nice P sg) {c : Nat → Int} (cn : ∀ l, l < P.N + P.t → c l ≤ 0) (cl : ∀ l, l < P.N + P.t → -1 ≤ c l) {f : Nat} (hf : (P.t * gs P + gs P + 1) * 2 ^ (P.N + P.t) ≤ f) :
    ∃ s1 s2 s3, climbS P (c1 P) f (st0 P) = some s1 ∧ obj P (c1 P) s1 = 0 ∧ Inv P s1 ∧ lhelp P P.t s1 = some s2 ∧ climbS P c f s2 = some s3 ∧ Inv P s2 ∧ Inv P s3 ∧ Fea P s3 ∧ (∀ i, i < P.t → s3.b i < P.N) ∧ ∀ k, k < P.N → c k ≤ zc P c s3 k := by
  have hpos : 0 < 2 ^ (P.N + P.t) := Nat.pow_pos (by decide)
  obtain ⟨s1, e1, I1, F1, o1, _⟩ := climb_ends N.arcs (fun l _ => c1_neg l) (f := f) (G := gs P) (inv0 P) (fea0 N) (obj0 N) (Nat.le_trans (Nat.mul_le_mul_right _ (by omega)) hf)
  obtain ⟨z1, z2⟩ := phase1 N I1 F1 o1
  obtain ⟨s2, e2, I2, F2, b2⟩ := lhelp_ends N P.t (Nat.le_refl _) I1 F1 z2 fun i h1 h2 => by omega
  have ob : -((P.t * gs P : Nat) : Int) ≤ obj P c s2 := by
    have h : sm P.t (fun _ => -(gs P : Int)) ≤ obj P c s2 := sm_le fun i hi => by
      have h1 := be_le I2 N.arcs N.g0 hi
      rw [← gs_eq N] at h1
      have h2 : 0 ≤ be P s2 i := F2 i hi
      have h3 := cl _ (I2.bl i hi)
      have h4 := cn _ (I2.bl i hi)
      show -(gs P : Int) ≤ c (s2.b i) * be P s2 i
      have := Int.mul_nonneg (show 0 ≤ c (s2.b i) + 1 by omega) h2
      rw [Int.add_mul, Int.one_mul] at this
      omega
    have e : ∀ n : Nat, sm n (fun _ => -(gs P : Int)) = -((n * gs P : Nat) : Int) := fun n => by
      induction n with
      | zero => simp [sm]
      | succ n ih =>
        show sm n (fun _ => -(gs P : Int)) + -(gs P : Int) = _
        rw [ih, Nat.succ_mul]
        omega
    rw [e] at h
    exact h
  obtain ⟨s3, e3, I3, F3, o3, k3⟩ := climb_ends N.arcs cn (f := f) (G := P.t * gs P) I2 F2 ob (Nat.le_trans (Nat.mul_le_mul_right _ (by omega)) hf)
  exact ⟨s1, s2, s3, e1, z1, I1, e2, e3, I2, I3, F3, k3 b2, o3⟩
/-- the amounts of the columns -/
def amt (P : Prb) (s : Tab) (l : Nat) : Int := sm P.t fun i => if s.b i = l then be P s i else 0
theorem amt_nonneg {s : Tab} (F : Fea P s) (l : Nat) : 0 ≤ amt P s l := sm_nonneg fun i hi => by
  split
  · exact F i hi
  · exact Int.le_refl _
/-- weighted by the columns: by the rows of the basis -/
theorem amt_sum {s : Tab} (hb : ∀ i, i < P.t → s.b i < P.N) (w : Nat → Int) : sm P.N (fun l => w l * amt P s l) = sm P.t fun i => w (s.b i) * be P s i := by
  unfold amt
  rw [sm_congr (g := fun l => sm P.t fun i => if s.b i = l then w l * be P s i else 0) fun l hl => ?_, sm_swap]
  · refine sm_congr fun i hi => ?_
    rw [sm_congr (g := fun l => if l = s.b i then w l * be P s i else 0) fun l _ => ?_, sm_pick (f := fun l => w l * be P s i) (hb i hi)]
    by_cases e : s.b i = l
    · rw [if_pos e, if_pos e.symm]
    · rw [if_neg e, if_neg (Ne.symm e)]
  · rw [← sm_mul]
    exact sm_congr fun i _ => by split <;> simp
/-- the equations hold -/
theorem amt_eq {s : Tab} (I : Inv P s) (hb : ∀ i, i < P.t → s.b i < P.N) {r : Nat} (hr : r < P.t) : sm P.N (fun l => P.A r l * amt P s l) = P.A r (P.N + P.t) := by
  rw [amt_sum hb, I.col r (P.N + P.t) hr (Nat.le_refl _)]
  rfl
theorem amt_cost {s : Tab} (hb : ∀ i, i < P.t → s.b i < P.N) (c : Nat → Int) : sm P.N (fun l => c l * amt P s l) = obj P c s := amt_sum hb c
theorem obj_pi {s : Tab} (I : Inv P s) (c : Nat → Int) : obj P c s = sm P.t fun r => pi P c s r * P.A r (P.N + P.t) := zc_pi I (Nat.le_refl _)
end
end SX
end
section
set_option maxHeartbeats 1000000
namespace SX
/-- a graph on n rows: m pairs (td l, cp l); signs that differ on each pair -/
structure Gr where
  n : Nat
  m : Nat
  td : Nat → Nat
  cp : Nat → Nat
  g : Nat → Int
structure Gr.Ok (G : Gr) (sg : Nat → Int) : Prop where
  tdn : ∀ l, l < G.m → G.td l < G.n
  cpn : ∀ l, l < G.m → G.cp l < G.n
  ne : ∀ l, l < G.m → G.td l ≠ G.cp l
  sg1 : ∀ r, r < G.n → sg r = 1 ∨ sg r = -1
  opp : ∀ l, l < G.m → sg (G.cp l) = - sg (G.td l)
  g0 : ∀ r, r < G.n → 0 ≤ G.g r
def colA (G : Gr) (r l : Nat) : Int :=
  if l < G.m then (if r = G.td l ∨ r = G.cp l then 1 else 0)
  else if l < G.m + G.n then (if l = G.m + r then 1 else 0)
  else if l < G.m + G.n + G.n then (if l = G.m + G.n + r then -1 else 0)
  else if l < G.m + G.n + G.n + G.n then (if l = G.m + G.n + G.n + r then 1 else 0)
  else G.g r
def Gr.prb (G : Gr) : Prb where
  t := G.n
  N := G.m + G.n + G.n
  A := colA G
  help := fun r s hr hs => by
    unfold colA
    rw [if_neg (by omega), if_neg (by omega), if_neg (by omega), if_pos (by omega)]
    by_cases e : r = s
    · rw [if_pos e, if_pos (by omega)]
    · rw [if_neg e, if_neg (by omega)]
section
variable {G : Gr} {sg : Nat → Int}
theorem colA_edge {r l : Nat} (h : l < G.m) : colA G r l = (if r = G.td l then 1 else 0) + if r = G.cp l then (if r = G.td l then 0 else 1) else 0 := by
  unfold colA
  rw [if_pos h]
  by_cases a : r = G.td l
  · rw [if_pos (.inl a), if_pos a, if_pos a]; split <;> rfl
  · rw [if_neg a, if_neg a]
    by_cases b : r = G.cp l
    · rw [if_pos (.inr b), if_pos b]; rfl
    · rw [if_neg (by rintro (z | z); exact a z; exact b z), if_neg b]; rfl
theorem colA_one {r x : Nat} (h : x < G.n) : colA G r (G.m + x) = if r = x then 1 else 0 := by
  unfold colA
  rw [if_neg (by omega), if_pos (by omega)]
  by_cases e : r = x
  · rw [if_pos e, if_pos (by omega)]
  · rw [if_neg e, if_neg (by omega)]
theorem colA_slack {r x : Nat} (h : x < G.n) : colA G r (G.m + G.n + x) = if r = x then -1 else 0 := by
  unfold colA
  rw [if_neg (by omega), if_neg (by omega), if_pos (by omega)]
  by_cases e : r = x
  · rw [if_pos e, if_pos (by omega)]
  · rw [if_neg e, if_neg (by omega)]
theorem colA_help {r x : Nat} (h : x < G.n) : colA G r (G.m + G.n + G.n + x) = if r = x then 1 else 0 := by
  unfold colA
  rw [if_neg (by omega), if_neg (by omega), if_neg (by omega), if_pos (by omega)]
  by_cases e : r = x
  · rw [if_pos e, if_pos (by omega)]
  · rw [if_neg e, if_neg (by omega)]
theorem colA_goal {r : Nat} : colA G r (G.m + G.n + G.n + G.n) = G.g r := by
  unfold colA
  rw [if_neg (by omega), if_neg (by omega), if_neg (by omega), if_neg (by omega)]
theorem dot_unit (y : Nat → Int) {x n : Nat} (c : Int) (h : x < n) : sm n (fun r => y r * (if r = x then c else 0)) = y x * c := by
  rw [sm_congr (g := fun r => if r = x then y r * c else 0) fun r _ => ?_, sm_pick (f := fun r => y r * c) h]
  split
  · rfl
  · rw [Int.mul_zero]
theorem dot_edge (O : G.Ok sg) (y : Nat → Int) {l : Nat} (h : l < G.m) : sm G.n (fun r => y r * colA G r l) = y (G.td l) + y (G.cp l) := by
  rw [sm_congr (g := fun r => y r * (if r = G.td l then 1 else 0) + y r * (if r = G.cp l then 1 else 0)) fun r _ => ?_, sm_add, dot_unit y 1 (O.tdn l h), dot_unit y 1 (O.cpn l h), Int.mul_one, Int.mul_one]
  rw [colA_edge h, Int.mul_add]
  congr 2
  by_cases b : r = G.cp l
  · rw [if_pos b, if_pos b, if_neg (by rw [b]; exact Ne.symm (O.ne l h))]
  · rw [if_neg b, if_neg b]
theorem arcs (O : G.Ok sg) : Arcs G.prb sg where
  sg1 := O.sg1
  arc := fun l hl => by
    have hl : l < G.m + G.n + G.n + G.n := hl
    have ss : ∀ r, r < G.n → sg r * sg r = 1 := fun r hr => by rcases O.sg1 r hr with h | h <;> rw [h] <;> rfl
    by_cases h1 : l < G.m
    · refine ⟨sg (G.td l), G.td l + 1, G.cp l + 1, O.sg1 _ (O.tdn l h1), O.tdn l h1, O.cpn l h1, fun y => ?_⟩
      show sm G.n (fun r => y r * colA G r l) = sg (G.td l) * (sg (G.td l) * y (G.td l) - sg (G.cp l) * y (G.cp l))
      rw [dot_edge O y h1, O.opp l h1, Int.neg_mul, Int.sub_neg, Int.mul_add, ← Int.mul_assoc, ← Int.mul_assoc, ss _ (O.tdn l h1), Int.one_mul, Int.one_mul]
    · have unit : ∀ (x : Nat) (a : Int), x < G.n → (a = 1 ∨ a = -1) → (∀ r, colA G r l = if r = x then a else 0) → ∃ (α : Int) (u v : Nat), (α = 1 ∨ α = -1) ∧ u ≤ G.n ∧ v ≤ G.n ∧ ∀ y : Nat → Int, sm G.n (fun r => y r * colA G r l) = α * (pot sg y u - pot sg y v) := fun x a hx ha hc => by
        refine ⟨a * sg x, x + 1, 0, ?_, hx, Nat.zero_le _, fun y => ?_⟩
        · rcases ha with e | e <;> rcases O.sg1 x hx with e' | e' <;> rw [e, e'] <;> decide
        · show sm G.n (fun r => y r * colA G r l) = a * sg x * (sg x * y x - 0)
          rw [sm_congr (g := fun r => y r * (if r = x then a else 0)) fun r _ => by rw [hc r], dot_unit y a hx, Int.sub_zero, Int.mul_assoc, ← Int.mul_assoc (sg x), ss x hx, Int.one_mul, Int.mul_comm]
      by_cases h2 : l < G.m + G.n
      · have e : l = G.m + (l - G.m) := by omega
        exact unit (l - G.m) 1 (by omega) (.inl rfl) fun r => by
          have := colA_one (G := G) (r := r) (x := l - G.m) (by omega)
          rw [← e] at this
          exact this
      · by_cases h3 : l < G.m + G.n + G.n
        · have e : l = G.m + G.n + (l - (G.m + G.n)) := by omega
          exact unit (l - (G.m + G.n)) (-1) (by omega) (.inr rfl) fun r => by
            have := colA_slack (G := G) (r := r) (x := l - (G.m + G.n)) (by omega)
            rw [← e] at this
            exact this
        · have e : l = G.m + G.n + G.n + (l - (G.m + G.n + G.n)) := by omega
          exact unit (l - (G.m + G.n + G.n)) 1 (by omega) (.inl rfl) fun r => by
            have := colA_help (G := G) (r := r) (x := l - (G.m + G.n + G.n)) (by omega)
            rw [← e] at this
            exact this
theorem nice (O : G.Ok sg) : Nice G.prb sg where
  g0 := fun r hr => by
    show 0 ≤ colA G r (G.m + G.n + G.n + G.n)
    rw [colA_goal]
    exact O.g0 r hr
  arcs := arcs O
  single := fun r hr => ⟨G.m + r, by have hr : r < G.n := hr; show G.m + r < G.m + G.n + G.n; omega, fun x hx => colA_one hr⟩
  slack := fun r hr => ⟨G.m + G.n + r, by have hr : r < G.n := hr; show G.m + G.n + r < G.m + G.n + G.n; omega, fun x hx => colA_slack hr⟩
/-- the costs: of pairs and singles -/
def c2 (G : Gr) (l : Nat) : Int := if l < G.m + G.n then -1 else 0
theorem sm_split (f : Nat → Int) (a : Nat) : ∀ b, sm (a + b) f = sm a f + sm b (fun i => f (a + i))
  | 0 => by show sm a f = sm a f + 0; omega
  | b + 1 => by
    show sm (a + b) f + f (a + b) = sm a f + (sm b (fun i => f (a + i)) + f (a + b))
    rw [sm_split f a b]
    omega
/-- a party: no pair within -/
def Party (G : Gr) (S : Nat → Int) : Prop := (∀ r, r < G.n → S r = 0 ∨ S r = 1) ∧ ∀ l, l < G.m → S (G.td l) + S (G.cp l) ≤ 1
/-- what the optimum is -/
theorem optimum (O : G.Ok sg) {s : Tab} (I : Inv G.prb s) (F : Fea G.prb s) (hb : ∀ i, i < G.n → s.b i < G.prb.N) (opt : ∀ k, k < G.prb.N → c2 G k ≤ zc G.prb (c2 G) s k) :
    (∀ l, 0 ≤ amt G.prb s l) ∧ (∀ r, r < G.n → G.g r ≤ sm G.m (fun l => colA G r l * amt G.prb s l) + amt G.prb s (G.m + r)) ∧
    (∃ S, Party G S ∧ sm G.n (fun r => S r * G.g r) = sm (G.m + G.n) (amt G.prb s)) ∧ ∀ S, Party G S → sm G.n (fun r => S r * G.g r) ≤ sm (G.m + G.n) (amt G.prb s) := by
  have x0 := fun l => amt_nonneg F l
  have eq : ∀ r, r < G.n → sm G.m (fun l => colA G r l * amt G.prb s l) + amt G.prb s (G.m + r) - amt G.prb s (G.m + G.n + r) = G.g r := fun r hr => by
    have h := amt_eq I hb (r := r) hr
    have h2 : sm (G.m + G.n + G.n) (fun l => colA G r l * amt G.prb s l) = colA G r (G.m + G.n + G.n + G.n) := h
    rw [colA_goal, sm_split, sm_split] at h2
    rw [sm_congr (f := fun i => colA G r (G.m + i) * amt G.prb s (G.m + i)) (g := fun i => if i = r then amt G.prb s (G.m + i) else 0) fun i hi => ?_, sm_pick (f := fun i => amt G.prb s (G.m + i)) hr,
      sm_congr (f := fun i => colA G r (G.m + G.n + i) * amt G.prb s (G.m + G.n + i)) (g := fun i => if i = r then - amt G.prb s (G.m + G.n + i) else 0) fun i hi => ?_, sm_pick (f := fun i => - amt G.prb s (G.m + G.n + i)) hr] at h2
    · omega
    · rw [colA_slack hi]
      by_cases e : i = r
      · rw [if_pos e, if_pos e.symm]; omega
      · rw [if_neg e, if_neg (Ne.symm e), Int.zero_mul]
    · rw [colA_one hi]
      by_cases e : i = r
      · rw [if_pos e, if_pos e.symm, Int.one_mul]
      · rw [if_neg e, if_neg (Ne.symm e), Int.zero_mul]
  have ge : ∀ r, r < G.n → G.g r ≤ sm G.m (fun l => colA G r l * amt G.prb s l) + amt G.prb s (G.m + r) := fun r hr => by
    have := eq r hr
    have := x0 (G.m + G.n + r)
    omega
  have cost : - sm (G.m + G.n) (amt G.prb s) = obj G.prb (c2 G) s := by
    rw [← amt_cost hb]
    show _ = sm (G.m + G.n + G.n) fun l => c2 G l * amt G.prb s l
    have a := sm_split (fun l => c2 G l * amt G.prb s l) (G.m + G.n) G.n
    have b : sm (G.m + G.n) (fun l => c2 G l * amt G.prb s l) = (-1) * sm (G.m + G.n) (amt G.prb s) := by
      rw [← sm_mul]
      exact sm_congr fun l hl => by unfold c2; rw [if_pos hl]
    have d : sm G.n (fun i => c2 G (G.m + G.n + i) * amt G.prb s (G.m + G.n + i)) = 0 := by
      rw [← sm_zero G.n]
      exact sm_congr fun i hi => by unfold c2; rw [if_neg (by omega), Int.zero_mul]
    rw [a, b, d]
    omega
  refine ⟨x0, ge, ⟨fun r => - pi G.prb (c2 G) s r, ⟨fun r hr => ?_, fun l hl => ?_⟩, ?_⟩, fun S hS => ?_⟩
  · have h1 := opt (G.m + r) (by show G.m + r < G.m + G.n + G.n; omega)
    have h2 := opt (G.m + G.n + r) (by show G.m + G.n + r < G.m + G.n + G.n; omega)
    rw [zc_pi I (by show G.m + r ≤ G.m + G.n + G.n + G.n; omega)] at h1
    rw [zc_pi I (by show G.m + G.n + r ≤ G.m + G.n + G.n + G.n; omega)] at h2
    have e1 : sm G.prb.t (fun x => pi G.prb (c2 G) s x * G.prb.A x (G.m + r)) = pi G.prb (c2 G) s r * 1 := by
      rw [← dot_unit (fun x => pi G.prb (c2 G) s x) 1 hr]
      exact sm_congr fun x _ => by show _ * colA G x (G.m + r) = _; rw [colA_one hr]
    have e2 : sm G.prb.t (fun x => pi G.prb (c2 G) s x * G.prb.A x (G.m + G.n + r)) = pi G.prb (c2 G) s r * (-1) := by
      rw [← dot_unit (fun x => pi G.prb (c2 G) s x) (-1) hr]
      exact sm_congr fun x _ => by show _ * colA G x (G.m + G.n + r) = _; rw [colA_slack hr]
    rw [e1] at h1
    rw [e2] at h2
    have d1 : c2 G (G.m + r) = -1 := if_pos (by omega)
    have d2 : c2 G (G.m + G.n + r) = 0 := if_neg (by omega)
    rw [d1] at h1
    rw [d2] at h2
    show - pi G.prb (c2 G) s r = 0 ∨ - pi G.prb (c2 G) s r = 1
    omega
  · have h1 := opt l (by show l < G.m + G.n + G.n; omega)
    rw [zc_pi I (by show l ≤ G.m + G.n + G.n + G.n; omega)] at h1
    have e1 : sm G.prb.t (fun x => pi G.prb (c2 G) s x * G.prb.A x l) = pi G.prb (c2 G) s (G.td l) + pi G.prb (c2 G) s (G.cp l) := dot_edge O _ hl
    rw [e1] at h1
    have e2 : c2 G l = -1 := if_pos (by omega)
    rw [e2] at h1
    show - pi G.prb (c2 G) s (G.td l) + - pi G.prb (c2 G) s (G.cp l) ≤ 1
    omega
  · have h := obj_pi I (c2 G)
    rw [← cost] at h
    have e : sm G.n (fun r => - pi G.prb (c2 G) s r * G.g r) = (-1) * sm G.n (fun r => pi G.prb (c2 G) s r * G.g r) := by
      rw [← sm_mul]
      exact sm_congr fun r _ => by rw [Int.neg_mul]; omega
    have e2 : sm G.prb.t (fun r => pi G.prb (c2 G) s r * G.prb.A r (G.prb.N + G.prb.t)) = sm G.n (fun r => pi G.prb (c2 G) s r * G.g r) := sm_congr fun r _ => by
      show _ * colA G r (G.m + G.n + G.n + G.n) = _
      rw [colA_goal]
    rw [e2] at h
    rw [e]
    omega
  · have h1 : sm G.n (fun r => S r * G.g r) ≤ sm G.n (fun r => S r * sm G.m (fun l => colA G r l * amt G.prb s l) + S r * amt G.prb s (G.m + r)) := sm_le fun r hr => by
      have a := ge r hr
      rcases hS.1 r hr with e | e <;> rw [e] <;> omega
    have h2 : sm G.n (fun r => S r * sm G.m (fun l => colA G r l * amt G.prb s l)) = sm G.m fun l => (S (G.td l) + S (G.cp l)) * amt G.prb s l := by
      rw [sm_congr (g := fun r => sm G.m fun l => S r * colA G r l * amt G.prb s l) fun r _ => by rw [← sm_mul]; exact sm_congr fun l _ => by rw [Int.mul_assoc], sm_swap]
      exact sm_congr fun l hl => by rw [sm_mulr, dot_edge O S hl]
    rw [sm_add, h2] at h1
    have h3 : sm G.m (fun l => (S (G.td l) + S (G.cp l)) * amt G.prb s l) ≤ sm G.m (amt G.prb s) := sm_le fun l hl => by
      have a := hS.2 l hl
      have b := x0 l
      have := Int.mul_nonneg (show 0 ≤ 1 - (S (G.td l) + S (G.cp l)) by omega) b
      rw [Int.sub_mul, Int.one_mul] at this
      omega
    have h4 : sm G.n (fun r => S r * amt G.prb s (G.m + r)) ≤ sm G.n (fun r => amt G.prb s (G.m + r)) := sm_le fun r hr => by
      have b := x0 (G.m + r)
      rcases hS.1 r hr with e | e <;> rw [e] <;> omega
    rw [sm_split]
    omega
end
end SX
end
section
set_option maxHeartbeats 1000000
namespace CD
open PySem PySem.Spec PyProof.Rows L2 DL
theorem runD_of {np nN : Nat} {F : En → Option SR} {ds : List PyData} {r : SR} {d : PyData} (h : ds.length = np) (e : F (startE nN none [] ds) = some r) (hd : resD r = some d) : runD np nN F ds = some d := by
  unfold runD
  rw [if_pos h, e]
  exact hd
theorem runM_of {np nN : Nat} {F : En → Option SR} {m : SelfD} {ds : List PyData} {r : SR} {d : PyData} (h : ds.length + 1 = np) (e : F (startE nN (some (ro m)) [none] ds) = some r) (hd : resD r = some d) : runM np nN F m ds = some d := by
  unfold runM
  rw [if_pos h, e]
  exact hd
theorem runMM_of {np nN : Nat} {F : En → Option SR} {m m' : SelfD} {ds : List PyData} {r : SR} {d : PyData} (h : ds.length + 1 = np) (e : F (startE nN (some m) [none] ds) = some r) (hd : resM r = some (m', d)) : runMM np nN F m ds = some (m', d) := by
  unfold runMM
  rw [if_pos h, e]
  exact hd
/-- a whole number as a ratio -/
def rt (v : Int) : PyData := .tuple [.int v, .int 1]
theorem lim2 : 2 ≤ LIM := by show 2 ≤ 1000; decide
theorem sm1 : sm 1 = true := by decide
theorem F_ratio1 (v : Int) : F_ratio [.int v, .int 1] = some (rt v) := by
  have hd : v.fdiv 1 = v := by simp [Int.fdiv_one]
  have h1 : B_ratio (startE 3 none [] [.int v, .int 1]) = some (.rt ⟨[some (.int v), some (.int 1), some (.int 1)], none, 0, [], true⟩ (rt v)) := by
    unfold B_ratio
    simp [sThen, sSet, dIf, bOf, bin2, dVar, dC, dGt, dGcd, asB, setE, startE, thenE, sRet, dTup, sCons, sNil, dFdv, rt, hd, lim2]
  exact runD_of rfl h1 rfl
theorem F_ratio2 (v : Int) : F_ratio [.int v, .int (-1)] = some (rt (-v)) := by
  have hd : v.fdiv (-1) = -v := by
    have e : v = (-v) * (-1) := by omega
    conv => lhs; rw [e]
    exact Int.mul_fdiv_cancel _ (by decide)
  have h1 : B_ratio (startE 3 none [] [.int v, .int (-1)]) = some (.rt ⟨[some (.int v), some (.int (-1)), some (.int (-1))], none, 0, [], true⟩ (rt (-v))) := by
    unfold B_ratio
    simp [sThen, sSet, dIf, bOf, bin2, dVar, dC, dGt, dGcd, dSub, asB, setE, startE, thenE, sRet, dTup, sCons, sNil, dFdv, rt, hd, lim2]
  exact runD_of rfl h1 rfl
theorem ix0 (v : Int) : dIx (rt v) (.int 0) = some (.int v) := rfl
theorem ix1 (v : Int) : dIx (rt v) (.int 1) = some (.int 1) := rfl
theorem ixm : dIx (rt (-1)) (.int 0) = some (.int (-1)) := rfl
theorem mul1 (v : Int) : dMul (.int v) (.int 1) = some (.int v) := by
  show (if (sm v || sm 1) = true then some (PyData.int (v * 1)) else none) = _
  rw [sm1, Bool.or_true, if_pos rfl, Int.mul_one]
theorem mulS {v w : Int} (h : sm v = true) : dMul (.int v) (.int w) = some (.int (v * w)) := by
  show (if (sm v || sm w) = true then some (PyData.int (v * w)) else none) = _
  rw [h, Bool.true_or, if_pos rfl]
theorem mulS2 {v w : Int} (h : sm w = true) : dMul (.int v) (.int w) = some (.int (v * w)) := by
  show (if (sm v || sm w) = true then some (PyData.int (v * w)) else none) = _
  rw [h, Bool.or_true, if_pos rfl]
theorem F_plus1 (a b : Int) : F_plus [rt a, rt b] = some (rt (a + b)) := by
  refine runD_of (r := .rt ⟨[some (rt a), some (rt b)], none, 0, [], true⟩ (rt (a + b))) rfl ?_ rfl
  unfold B_plus
  simp [sRet, dCall, sCons, sNil, bin2, dVar, dC, startE, ix0, ix1, mul1, dAdd, F_ratio1]
theorem F_minus1 (a b : Int) : F_minus [rt a, rt b] = some (rt (a - b)) := by
  refine runD_of (r := .rt ⟨[some (rt a), some (rt b)], none, 0, [], true⟩ (rt (a - b))) rfl ?_ rfl
  unfold B_minus
  simp [sRet, dCall, sCons, sNil, bin2, dVar, dC, startE, ix0, ix1, mul1, dSub, F_ratio1]
theorem F_by1 (a b : Int) (h : sm a = true) : F_by [rt a, rt b] = some (rt (a * b)) := by
  refine runD_of (r := .rt ⟨[some (rt a), some (rt b)], none, 0, [], true⟩ (rt (a * b))) rfl ?_ rfl
  unfold B_by
  simp [sRet, dCall, sCons, sNil, bin2, dVar, dC, startE, ix0, ix1, mul1, mulS h, F_ratio1]
theorem F_by2 (a b : Int) (h : sm b = true) : F_by [rt a, rt b] = some (rt (a * b)) := by
  refine runD_of (r := .rt ⟨[some (rt a), some (rt b)], none, 0, [], true⟩ (rt (a * b))) rfl ?_ rfl
  unfold B_by
  simp [sRet, dCall, sCons, sNil, bin2, dVar, dC, startE, ix0, ix1, mul1, mulS2 h, F_ratio1]
theorem F_over1 (a p : Int) (h : p = 1 ∨ p = -1) : F_over [rt a, rt p] = some (rt (p * a)) := by
  refine runD_of (r := .rt ⟨[some (rt a), some (rt p)], none, 0, [], true⟩ (rt (p * a))) rfl ?_ rfl
  unfold B_over
  rcases h with rfl | rfl
  · simp [sRet, dCall, sCons, sNil, bin2, dVar, dC, startE, ix0, ix1, mul1, F_ratio1]
  · simp [sRet, dCall, sCons, sNil, bin2, dVar, dC, startE, ix0, ix1, ixm, mul1, mulS sm1, F_ratio2]
theorem F_less1 (a b : Int) : F_less [rt a, rt b] = some (.bool (decide (a < b))) := by
  refine runD_of (r := .rt ⟨[some (rt a), some (rt b)], none, 0, [], true⟩ (.bool (decide (a < b)))) rfl ?_ rfl
  unfold B_less
  simp [sRet, bin2, dVar, dC, startE, ix0, ix1, mul1, dLt]
end CD
end
section
set_option maxHeartbeats 1000000
namespace CD
open PySem PySem.Spec PyProof.Rows L2 DL
theorem sFor_nx {it : En → Option (List PyData)} {tg : Tgt} {body : En → Option SR} {ρ ρx : En} {ds : List PyData} (ho : ρ.ow = []) (hi : it (hideE ρ) = some ds) (hf : forL tg body ds (hideE ρ) = some (.nx ρx)) (hs : sameE ρ ρx = true) :
    sFor it tg body ρ = some (.nx ⟨ρx.sl, ρ.me, ρ.mi, [], ρ.base⟩) := by
  unfold sFor
  rw [ho, if_pos (show ([] : List (Nat × List PyData)).isEmpty = true from rfl), hi, Option.bind_some, hf, Option.bind_some]
  show (backE ρ ρx).map SR.nx = _
  unfold backE
  rw [if_pos hs]
  rfl
theorem sFor_rt {it : En → Option (List PyData)} {tg : Tgt} {body : En → Option SR} {ρ ρx : En} {ds : List PyData} {d : PyData} (ho : ρ.ow = []) (hi : it (hideE ρ) = some ds) (hf : forL tg body ds (hideE ρ) = some (.rt ρx d)) (hs : sameE ρ ρx = true) :
    sFor it tg body ρ = some (.rt ⟨ρx.sl, ρ.me, ρ.mi, [], ρ.base⟩ d) := by
  unfold sFor
  rw [ho, if_pos (show ([] : List (Nat × List PyData)).isEmpty = true from rfl), hi, Option.bind_some, hf, Option.bind_some]
  show (backE ρ ρx).map (SR.rt · d) = _
  unfold backE
  rw [if_pos hs]
  rfl
theorem sForM_nx {it : En → Option (List PyData)} {tg : Tgt} {body : En → Option SR} {ρ ρx : En} {ds : List PyData} (hi : it ρ = some ds) (hf : forL tg body ds ⟨ρ.sl, ρ.me, ρ.mi, ρ.ow, false⟩ = some (.nx ρx)) (hs : sameE ρ ρx = true) :
    sForM it tg body ρ = some (.nx ⟨ρx.sl, ρx.me, ρx.mi, ρx.ow, ρ.base⟩) := by
  unfold sForM
  rw [hi, Option.bind_some, hf, Option.bind_some]
  show (backM ρ ρx).map SR.nx = _
  unfold backM
  rw [if_pos hs]
  rfl
theorem sThen_nx {F G : En → Option SR} {ρ ρ' : En} (h : F ρ = some (.nx ρ')) : sThen F G ρ = G ρ' := by
  unfold sThen
  rw [h]
  rfl
theorem sThen_rt {F G : En → Option SR} {ρ ρ' : En} {d : PyData} (h : F ρ = some (.rt ρ' d)) : sThen F G ρ = some (.rt ρ' d) := by
  unfold sThen
  rw [h]
  rfl
theorem F_sum_of1 (vs : List Int) : F_sum_of [.list (vs.map rt)] = some (rt vs.sum) := by
  have hl : ∃ ρ', forL (.one 2) (sSet 1 (dCall F_plus (sCons (dVar 1) (sCons (dVar 2) sNil)))) (vs.map rt) ⟨[some (.list (vs.map rt)), some (rt 0), none], none, 0, [], false⟩ = some (.nx ρ') ∧ ∃ x, ρ' = ⟨[some (.list (vs.map rt)), some (rt vs.sum), x], none, 0, [], false⟩ := by
    obtain ⟨ρ', h1, x, h2⟩ := forL_inv (tg := .one 2) (body := sSet 1 (dCall F_plus (sCons (dVar 1) (sCons (dVar 2) sNil)))) (fun k ρ => ∃ x, ρ = (⟨[some (.list (vs.map rt)), some (rt (vs.take k).sum), x], none, 0, [], false⟩ : En)) (ds := vs.map rt) (k := 0) (ρ := ⟨[some (.list (vs.map rt)), some (rt 0), none], none, 0, [], false⟩) ⟨none, rfl⟩ (fun i d ρ hd hI => by
      obtain ⟨x, rfl⟩ := hI
      rw [List.getElem?_map] at hd
      obtain ⟨v, hv, rfl⟩ := Option.map_eq_some_iff.mp hd
      rw [Nat.zero_add]
      refine ⟨⟨[some (.list (vs.map rt)), some (rt (vs.take i).sum), some (rt v)], none, 0, [], false⟩, ⟨[some (.list (vs.map rt)), some (rt ((vs.take i).sum + v)), some (rt v)], none, 0, [], false⟩, rfl, ?_, some (rt v), ?_⟩
      · simp [sSet, dCall, sCons, sNil, dVar, F_plus1, setE]
      · rw [List.take_add_one, hv, List.sum_append]
        simp)
    rw [Nat.zero_add, List.length_map, List.take_length] at h2
    exact ⟨ρ', h1, x, h2⟩
  obtain ⟨ρ', h1, x, rfl⟩ := hl
  have h2 : B_sum_of (startE 3 none [] [.list (vs.map rt)]) = some (.rt ⟨[some (.list (vs.map rt)), some (rt vs.sum), x], none, 0, [], true⟩ (rt vs.sum)) := by
    unfold B_sum_of
    rw [sThen_nx (ρ' := ⟨[some (.list (vs.map rt)), some (rt 0), none], none, 0, [], true⟩) (by simp [sSet, dTup, sCons, sNil, dC, setE, startE, lim2, rt])]
    rw [sThen_nx (sFor_nx (ds := vs.map rt) rfl rfl h1 rfl)]
    rfl
  exact runD_of rfl h2 rfl
/-! ### the table as data -/
open SX (Prb Tab zc be piv)
def wd (P : Prb) : Nat := P.N + P.t + 1
def rowD (P : Prb) (s : Tab) (i : Nat) : PyData := .list ((List.range (wd P)).map fun l => rt (s.T i l))
def basD (s : Tab) (i : Nat) : PyData := .int (s.b i : Nat)
def meD (P : Prb) (s : Tab) (w : Bool) : SelfD := ⟨.int P.N, List.replicate P.t (rt 1), (List.range P.t).map (rowD P s), (List.range P.t).map (basD s), w⟩
theorem row_at {P : Prb} {s : Tab} {w : Bool} {i : Nat} (h : i < P.t) : atI (meD P s w).rows (i : Int) = some (rowD P s i) := by
  rw [DL.atI_nat]
  show ((List.range P.t).map (rowD P s))[i]? = _
  rw [List.getElem?_map, List.getElem?_range h]
  rfl
theorem bas_at {P : Prb} {s : Tab} {w : Bool} {i : Nat} (h : i < P.t) : atI (meD P s w).basis (i : Int) = some (basD s i) := by
  rw [DL.atI_nat]
  show ((List.range P.t).map (basD s))[i]? = _
  rw [List.getElem?_map, List.getElem?_range h]
  rfl
theorem ent_at {P : Prb} {s : Tab} {i l : Nat} (h : l < wd P) : dIx (rowD P s i) (.int (l : Nat)) = some (rt (s.T i l)) := by
  show atI ((List.range (wd P)).map fun l => rt (s.T i l)) (l : Int) = _
  rw [DL.atI_nat, List.getElem?_map, List.getElem?_range h]
  rfl
theorem last_at {P : Prb} {s : Tab} {i : Nat} : dIx (rowD P s i) (.int (-1)) = some (rt (be P s i)) := by
  show atI ((List.range (wd P)).map fun l => rt (s.T i l)) (-1) = _
  rw [DL.atI_neg1 _ (by unfold wd; simp), List.length_map, List.length_range, List.getElem?_map, List.getElem?_range (by unfold wd; omega)]
  unfold wd be
  rw [Nat.add_sub_cancel]
  rfl
end CD
end
section
set_option maxHeartbeats 1000000
namespace CD
open PySem PySem.Spec PyProof.Rows L2 DL
open SX (Prb Tab zc be piv)
section
variable {α : Type} {tg : Tgt} {tt : En → Option Bool} {el : En → Option PyData} {ρ : En}
theorem compL_fm' (p : α → Bool) (h g : α → PyData) : ∀ {xs : List α}, (∀ x ∈ xs, ∃ ρ1, setT tg (h x) ρ = some ρ1 ∧ tt ρ1 = some (p x) ∧ (p x = true → el ρ1 = some (g x))) → compL tg tt el ρ (xs.map h) = some ((xs.filter p).map g)
  | [], _ => rfl
  | x :: xs, hh => by
    obtain ⟨ρ1, h1, h2, h3⟩ := hh x List.mem_cons_self
    have ih := compL_fm' p h g (xs := xs) fun y hy => hh y (List.mem_cons_of_mem _ hy)
    show ((setT tg (h x) ρ).bind fun ρ1 => (tt ρ1).bind fun c => if c = true then (el ρ1).bind fun y => (compL tg tt el ρ (xs.map h)).map (y :: ·) else compL tg tt el ρ (xs.map h)) = _
    rw [h1, Option.bind_some, h2, Option.bind_some, ih, List.filter_cons]
    cases hp : p x with
    | true => rw [if_pos rfl, if_pos rfl, h3 hp, Option.bind_some]; rfl
    | false => rw [if_neg Bool.false_ne_true, if_neg Bool.false_ne_true]
theorem compL_map' (h g : α → PyData) {xs : List α} (hh : ∀ x ∈ xs, ∃ ρ1, setT tg (h x) ρ = some ρ1 ∧ tt ρ1 = some true ∧ el ρ1 = some (g x)) : compL tg tt el ρ (xs.map h) = some (xs.map g) := by
  rw [compL_fm' (fun _ => true) h g fun x hx => let ⟨ρ1, h1, h2, h3⟩ := hh x hx; ⟨ρ1, h1, h2, fun _ => h3⟩, List.filter_eq_self.mpr fun _ _ => rfl]
end
theorem dComp_map {α : Type} {vs : List Nat} {it : En → Option (List PyData)} {tg : Tgt} {tt : En → Option Bool} {el : En → Option PyData} {ρ : En} {xs : List α} (h g : α → PyData) (hi : it ρ = some (xs.map h)) (hl : xs.length ≤ LIM)
    (hh : ∀ x ∈ xs, ∃ ρ1, setT tg (h x) (wipeE vs ρ) = some ρ1 ∧ tt ρ1 = some true ∧ el ρ1 = some (g x)) : dComp vs it tg tt el ρ = some (.list (xs.map g)) := by
  unfold dComp sComp
  rw [hi, Option.bind_some, if_pos (by rw [List.length_map]; exact hl), compL_map' h g hh]
  rfl
theorem dComp_fm {α : Type} {vs : List Nat} {it : En → Option (List PyData)} {tg : Tgt} {tt : En → Option Bool} {el : En → Option PyData} {ρ : En} {xs : List α} (p : α → Bool) (h g : α → PyData) (hi : it ρ = some (xs.map h)) (hl : xs.length ≤ LIM)
    (hh : ∀ x ∈ xs, ∃ ρ1, setT tg (h x) (wipeE vs ρ) = some ρ1 ∧ tt ρ1 = some (p x) ∧ (p x = true → el ρ1 = some (g x))) : dComp vs it tg tt el ρ = some (.list ((xs.filter p).map g)) := by
  unfold dComp sComp
  rw [hi, Option.bind_some, if_pos (by rw [List.length_map]; exact hl), compL_fm' p h g hh]
  rfl
theorem eqv_int (a b : Int) : PyData.eqv (.int a) (.int b) = decide (a = b) := by
  unfold PyData.eqv
  first | rfl | (simp; done)
theorem dEq_int (a b : Int) : dEq (.int a) (.int b) = some (.bool (decide (a = b))) := by
  show (if SeqAt.shaped (.int a) && SeqAt.shaped (.int b) then some (PyData.bool (PyData.eqv (.int a) (.int b))) else none) = _
  rw [if_pos (by rfl), eqv_int]
theorem dNe_int (a b : Int) : dNe (.int a) (.int b) = some (.bool (!decide (a = b))) := by
  show (if SeqAt.shaped (.int a) && SeqAt.shaped (.int b) then some (PyData.bool (!PyData.eqv (.int a) (.int b))) else none) = _
  rw [if_pos (by rfl), eqv_int]
/-! ### one pivot -/
def rowOf (n : Nat) (f : Nat → Int) : PyData := .list ((List.range n).map fun l => rt (f l))
def meF (P : Prb) (R : Nat → Nat → Int) (b : Nat → Nat) (w : Bool) : SelfD := ⟨.int P.N, List.replicate P.t (rt 1), (List.range P.t).map (fun i => rowOf (wd P) (R i)), (List.range P.t).map (fun i => PyData.int (b i : Nat)), w⟩
theorem meD_eq (P : Prb) (s : Tab) (w : Bool) : meD P s w = meF P s.T s.b w := rfl
theorem set_range {f : Nat → PyData} {n i : Nat} {d : PyData} (h : i < n) : ((List.range n).map f).set i d = (List.range n).map fun x => if x = i then d else f x := by
  apply List.ext_getElem?
  intro x
  by_cases hx : x = i
  · subst hx
    rw [List.getElem?_set_self (by simpa using h), List.getElem?_map, List.getElem?_range h]
    simp
  · rw [List.getElem?_set_ne (Ne.symm hx), List.getElem?_map, List.getElem?_map]
    by_cases hn : x < n
    · rw [List.getElem?_range hn]
      simp [hx]
    · rw [List.getElem?_eq_none (by simpa using hn)]
      rfl
theorem ixN_nat {n i : Nat} (h : i < n) : ixN n (i : Int) = some i := by
  unfold ixN
  rw [if_pos (by omega), if_pos (by omega)]
  rfl
section
variable {P : Prb} {R : Nat → Nat → Int} {b : Nat → Nat} {w : Bool}
theorem rowsF_at {i : Nat} (h : i < P.t) : atI (meF P R b w).rows (i : Int) = some (rowOf (wd P) (R i)) := by
  rw [DL.atI_nat]
  show ((List.range P.t).map _)[i]? = _
  rw [List.getElem?_map, List.getElem?_range h]
  rfl
theorem basF_at {i : Nat} (h : i < P.t) : atI (meF P R b w).basis (i : Int) = some (.int (b i : Nat)) := by
  rw [DL.atI_nat]
  show ((List.range P.t).map _)[i]? = _
  rw [List.getElem?_map, List.getElem?_range h]
  rfl
theorem rowOf_at {n l : Nat} {f : Nat → Int} (h : l < n) : dIx (rowOf n f) (.int (l : Nat)) = some (rt (f l)) := by
  show atI ((List.range n).map fun l => rt (f l)) (l : Int) = _
  rw [DL.atI_nat, List.getElem?_map, List.getElem?_range h]
  rfl
theorem setRow {i : Nat} {f : Nat → Int} (h : i < P.t) : setL (.int (i : Nat)) (rowOf (wd P) f) (meF P R b w).rows = some (meF P (fun x => if x = i then f else R x) b w).rows := by
  unfold setL
  show (ixN ((List.range P.t).map fun i => rowOf (wd P) (R i)).length (i : Int)).map _ = _
  rw [List.length_map, List.length_range, ixN_nat h]
  show some (((List.range P.t).map fun i => rowOf (wd P) (R i)).set i (rowOf (wd P) f)) = _
  rw [set_range h]
  show _ = some ((List.range P.t).map fun x => rowOf (wd P) (if x = i then f else R x))
  congr 1
  refine List.map_congr_left fun x _ => ?_
  by_cases e : x = i
  · rw [if_pos e, if_pos e]
  · rw [if_neg e, if_neg e]
theorem setBas {i k : Nat} (h : i < P.t) : setL (.int (i : Nat)) (.int (k : Nat)) (meF P R b w).basis = some (meF P R (fun x => if x = i then k else b x) w).basis := by
  unfold setL
  show (ixN ((List.range P.t).map fun i => PyData.int (b i : Nat)).length (i : Int)).map _ = _
  rw [List.length_map, List.length_range, ixN_nat h]
  show some (((List.range P.t).map fun i => PyData.int (b i : Nat)).set i (.int (k : Nat))) = _
  rw [set_range h]
  show _ = some ((List.range P.t).map fun x => PyData.int ((if x = i then k else b x : Nat) : Int))
  congr 1
  refine List.map_congr_left fun x _ => ?_
  by_cases e : x = i
  · rw [if_pos e, if_pos e]
  · rw [if_neg e, if_neg e]
theorem zip_rows {n : Nat} {f g : Nat → Int} : zipL ((List.range n).map fun l => rt (f l)) ((List.range n).map fun l => rt (g l)) = (List.range n).map fun l => .tuple [rt (f l), rt (g l)] := by
  unfold zipL
  rw [List.zipWith_map, List.zipWith_self]
end
end CD
end
section
set_option maxHeartbeats 1000000
namespace CD
open PySem PySem.Spec PyProof.Rows L2 DL
open SX (Prb Tab zc be piv)
/-! ### turn -/
def tnE (P : Prb) (R : Nat → Nat → Int) (b : Nat → Nat) (j k : Nat) (x3 x5 x6 : Option PyData) (bs : Bool) : En := ⟨[none, some (.int j), some (.int k), x3, none, x5, x6, none, none], some (meF P R b true), 0, [], bs⟩
def sm01 (v : Int) : Prop := v = 0 ∨ v = 1 ∨ v = -1
theorem sm_of {v : Int} (h : sm01 v) : sm v = true := by rcases h with rfl | rfl | rfl <;> decide
def tn2 : En → Option PyData := dComp [4] (sSeq (dRowAt 0 (dVar 1))) (.one 4) bYes (dCall F_over (sCons (dVar 4) (sCons (dVar 3) sNil)))
theorem tn2_eq {P : Prb} {R : Nat → Nat → Int} {b : Nat → Nat} {j k : Nat} {p : Int} {x5 x6 : Option PyData} {bs : Bool} (hj : j < P.t) (hw : wd P ≤ LIM) (hp : p = 1 ∨ p = -1) :
    tn2 (tnE P R b j k (some (rt p)) x5 x6 bs) = some (rowOf (wd P) fun l => p * R j l) := by
  unfold tn2
  refine dComp_map (xs := List.range (wd P)) (fun l => rt (R j l)) (fun l => rt (p * R j l)) ?_ (by rw [List.length_range]; exact hw) fun l _ => ?_
  · show ((dRowAt 0 (dVar 1) (tnE P R b j k (some (rt p)) x5 x6 bs)).bind items) = _
    show ((atI (meF P R b true).rows (j : Int)).bind items) = _
    rw [rowsF_at hj]
    rfl
  · refine ⟨_, rfl, rfl, ?_⟩
    show F_over [rt (R j l), rt p] = _
    exact F_over1 _ _ hp
def tn4 : En → Option PyData := dComp [7, 8] (sZip (dRowAt 0 (dVar 5)) (dRowAt 0 (dVar 1))) (.two 7 8) bYes (dCall F_minus (sCons (dVar 7) (sCons (dCall F_by (sCons (dVar 6) (sCons (dVar 8) sNil))) sNil)))
theorem tn4_eq {P : Prb} {R : Nat → Nat → Int} {b : Nat → Nat} {j k i : Nat} {f : Int} {x3 : Option PyData} {bs : Bool} (hj : j < P.t) (hi : i < P.t) (hw : wd P ≤ LIM) (hf : sm01 f) :
    tn4 (tnE P R b j k x3 (some (.int i)) (some (rt f)) bs) = some (rowOf (wd P) fun l => R i l - f * R j l) := by
  unfold tn4
  refine dComp_map (xs := List.range (wd P)) (fun l => .tuple [rt (R i l), rt (R j l)]) (fun l => rt (R i l - f * R j l)) ?_ (by rw [List.length_range]; exact hw) fun l _ => ?_
  · show ((atI (meF P R b true).rows (i : Int)).bind fun x => (atI (meF P R b true).rows (j : Int)).bind fun y => match x, y with
      | .list ds, .list es => some (zipL ds es)
      | _, _ => none) = _
    rw [rowsF_at hi, Option.bind_some, rowsF_at hj, Option.bind_some]
    show some (zipL ((List.range (wd P)).map fun l => rt (R i l)) ((List.range (wd P)).map fun l => rt (R j l))) = _
    rw [zip_rows]
  · refine ⟨_, rfl, rfl, ?_⟩
    show (((some (rt (R i l))).bind fun d => ((((F_by [rt f, rt (R j l)])).bind fun d => (some ([] : List PyData)).map (d :: ·))).map (d :: ·))).bind F_minus = _
    rw [F_by1 f (R j l) (sm_of hf)]
    exact F_minus1 _ _
/-- the body of the loop -/
def tnB : En → Option SR := sThen (sSet 6 (bin2 dIx (dRowAt 0 (dVar 5)) (dVar 2)))
  (sIf (bAnd (bOf (bin2 dNe (dVar 5) (dVar 1))) (bOf (bin2 dNe (bin2 dIx (dVar 6) (dC (.int 0))) (dC (.int 0))))) (sSetR 0 (dVar 5) tn4) sSkip)
theorem B_turn_eq : B_Program_turn = sThen (sSet 3 (bin2 dIx (dRowAt 0 (dVar 1)) (dVar 2))) (sThen (sSetR 0 (dVar 1) tn2) (sThen (sForM (sRng1 (dLenRows 0)) (.one 5) tnB) (sSetB 0 (dVar 1) (dVar 2)))) := rfl
theorem tnE_len {P : Prb} {R : Nat → Nat → Int} {b : Nat → Nat} {j k : Nat} {x3 x5 x6 : Option PyData} {bs : Bool} (ht : P.t ≤ 1000) : sRng1 (dLenRows 0) (tnE P R b j k x3 x5 x6 bs) = some (rangeL 0 P.t) := by
  show (if ((((List.range P.t).map fun i => rowOf (wd P) (R i)).length : Nat) : Int) ≤ 1000 ∧ -1000 ≤ ((((List.range P.t).map fun i => rowOf (wd P) (R i)).length : Nat) : Int) then some (rangeL 0 ((((List.range P.t).map fun i => rowOf (wd P) (R i)).length : Nat) : Int).toNat) else none) = _
  rw [List.length_map, List.length_range, if_pos ⟨by omega, by omega⟩, Int.toNat_natCast]
theorem tnB_eq {P : Prb} {R : Nat → Nat → Int} {b : Nat → Nat} {j k i : Nat} {x3 x6 : Option PyData} {bs : Bool} (hj : j < P.t) (hi : i < P.t) (hk : k < wd P) (hw : wd P ≤ LIM) (hf : i ≠ j → sm01 (R i k)) :
    tnB (tnE P R b j k x3 (some (.int i)) x6 bs) = some (.nx (tnE P (fun x => if x = i ∧ i ≠ j then fun l => R i l - R i k * R j l else R x) b j k x3 (some (.int i)) (some (rt (R i k))) bs)) := by
  have e1 : sSet 6 (bin2 dIx (dRowAt 0 (dVar 5)) (dVar 2)) (tnE P R b j k x3 (some (.int i)) x6 bs) = some (.nx (tnE P R b j k x3 (some (.int i)) (some (rt (R i k))) bs)) := by
    have : bin2 dIx (dRowAt 0 (dVar 5)) (dVar 2) (tnE P R b j k x3 (some (.int i)) x6 bs) = some (rt (R i k)) := by
      show ((atI (meF P R b true).rows (i : Int)).bind fun a => (some (PyData.int k)).bind fun b => dIx a b) = _
      rw [rowsF_at hi, Option.bind_some, Option.bind_some, rowOf_at hk]
    unfold sSet
    rw [this]
    rfl
  unfold tnB
  rw [sThen_nx e1]
  have c1 : bOf (bin2 dNe (dVar 5) (dVar 1)) (tnE P R b j k x3 (some (.int i)) (some (rt (R i k))) bs) = some (!decide ((i : Int) = j)) := by
    show (dNe (.int i) (.int j)).bind asB = _
    rw [dNe_int]
    rfl
  have c2 : bOf (bin2 dNe (bin2 dIx (dVar 6) (dC (.int 0))) (dC (.int 0))) (tnE P R b j k x3 (some (.int i)) (some (rt (R i k))) bs) = some (!decide (R i k = 0)) := by
    show (dNe (.int (R i k)) (.int 0)).bind asB = _
    rw [dNe_int]
    rfl
  by_cases hij : i = j
  · subst hij
    have : sIf (bAnd (bOf (bin2 dNe (dVar 5) (dVar 1))) (bOf (bin2 dNe (bin2 dIx (dVar 6) (dC (.int 0))) (dC (.int 0))))) (sSetR 0 (dVar 5) tn4) sSkip (tnE P R b i k x3 (some (.int i)) (some (rt (R i k))) bs) = some (.nx (tnE P R b i k x3 (some (.int i)) (some (rt (R i k))) bs)) := by
      unfold sIf bAnd
      rw [c1, decide_eq_true rfl]
      rfl
    rw [this]
    congr 3
    funext x
    rw [if_neg (fun z => z.2 rfl)]
  · by_cases h0 : R i k = 0
    · have : sIf (bAnd (bOf (bin2 dNe (dVar 5) (dVar 1))) (bOf (bin2 dNe (bin2 dIx (dVar 6) (dC (.int 0))) (dC (.int 0))))) (sSetR 0 (dVar 5) tn4) sSkip (tnE P R b j k x3 (some (.int i)) (some (rt (R i k))) bs) = some (.nx (tnE P R b j k x3 (some (.int i)) (some (rt (R i k))) bs)) := by
        unfold sIf bAnd
        rw [c1, decide_eq_false (by omega), c2, decide_eq_true h0]
        rfl
      rw [this]
      congr 3
      funext x
      by_cases hx : x = i
      · rw [if_pos ⟨hx, hij⟩, h0, hx]
        funext l
        omega
      · rw [if_neg (fun z => hx z.1)]
    · have hs : sSetR 0 (dVar 5) tn4 (tnE P R b j k x3 (some (.int i)) (some (rt (R i k))) bs) = some (.nx (tnE P (fun x => if x = i then fun l => R i l - R i k * R j l else R x) b j k x3 (some (.int i)) (some (rt (R i k))) bs)) := by
        unfold sSetR
        rw [tn4_eq hj hi hw (hf hij), Option.bind_some]
        show ((setL (.int (i : Nat)) (rowOf (wd P) fun l => R i l - R i k * R j l) (meF P R b true).rows).map _).map _ = _
        rw [setRow hi]
        rfl
      unfold sIf bAnd
      rw [c1, decide_eq_false (by omega), c2, decide_eq_false h0]
      show sSetR 0 (dVar 5) tn4 _ = _
      rw [hs]
      congr 3
      funext x
      by_cases hx : x = i
      · rw [if_pos hx, if_pos ⟨hx, hij⟩]
      · rw [if_neg hx, if_neg (fun z => hx z.1)]
theorem F_turn1 {P : Prb} {s : Tab} {j k : Nat} (hj : j < P.t) (hk : k < wd P) (hw : wd P ≤ LIM) (ht : P.t ≤ 1000) (hp : s.T j k = 1 ∨ s.T j k = -1) (he : ∀ i, i < P.t → sm01 (s.T i k)) :
    F_Program_turn (meD P s true) [.int j, .int k] = some (meD P (piv s j k) true, .none) := by
  let R1 : Nat → Nat → Int := fun x => if x = j then fun l => s.T j k * s.T j l else s.T x
  have a1 : sSet 3 (bin2 dIx (dRowAt 0 (dVar 1)) (dVar 2)) (tnE P s.T s.b j k none none none true) = some (.nx (tnE P s.T s.b j k (some (rt (s.T j k))) none none true)) := by
    have : bin2 dIx (dRowAt 0 (dVar 1)) (dVar 2) (tnE P s.T s.b j k none none none true) = some (rt (s.T j k)) := by
      show ((atI (meF P s.T s.b true).rows (j : Int)).bind fun a => (some (PyData.int k)).bind fun b => dIx a b) = _
      rw [rowsF_at hj, Option.bind_some, Option.bind_some, rowOf_at hk]
    unfold sSet
    rw [this]
    rfl
  have a2 : sSetR 0 (dVar 1) tn2 (tnE P s.T s.b j k (some (rt (s.T j k))) none none true) = some (.nx (tnE P R1 s.b j k (some (rt (s.T j k))) none none true)) := by
    unfold sSetR
    rw [tn2_eq hj hw hp, Option.bind_some]
    show ((setL (.int (j : Nat)) (rowOf (wd P) fun l => s.T j k * s.T j l) (meF P s.T s.b true).rows).map _).map _ = _
    rw [setRow hj]
    rfl
  have a3 : ∃ x5 x6, forL (.one 5) tnB (rangeL 0 P.t) (tnE P R1 s.b j k (some (rt (s.T j k))) none none false) = some (.nx (tnE P (piv s j k).T s.b j k (some (rt (s.T j k))) x5 x6 false)) := by
    let Rn : Nat → Nat → Nat → Int := fun n x => if x = j then R1 j else if x < n then (piv s j k).T x else s.T x
    obtain ⟨ρ', h1, _, x5, h2⟩ := forL_inv (tg := .one 5) (body := tnB) (fun n ρ => n ≤ P.t ∧ ∃ x5 x6, ρ = tnE P (Rn n) s.b j k (some (rt (s.T j k))) x5 x6 false) (ds := rangeL 0 P.t) (k := 0) (ρ := tnE P R1 s.b j k (some (rt (s.T j k))) none none false)
      ⟨Nat.zero_le _, none, none, by
        congr 1
        funext x
        show R1 x = if x = j then R1 j else if x < 0 then _ else s.T x
        by_cases e : x = j
        · rw [if_pos e, e]
        · rw [if_neg e, if_neg (by omega)]
          exact if_neg e⟩ (fun i d ρ hd hI => by
      obtain ⟨_, x5, x6, rfl⟩ := hI
      have hi : i < P.t := by
        have := (List.getElem?_eq_some_iff.mp hd).1
        rw [rangeL_len] at this
        exact this
      rw [rangeL_get hi] at hd
      have hd := Option.some.inj hd
      subst hd
      rw [Nat.zero_add, Int.zero_add]
      have hR : i ≠ j → Rn i i = s.T i := fun e => by
        show (if i = j then R1 j else if i < i then _ else s.T i) = _
        rw [if_neg e, if_neg (Nat.lt_irrefl i)]
      have hRj : Rn i j = R1 j := if_pos rfl
      refine ⟨tnE P (Rn i) s.b j k (some (rt (s.T j k))) (some (.int i)) x6 false, _, rfl, tnB_eq hj hi hk hw (fun e => by rw [hR e]; exact he i hi), hi, some (.int i), some (rt (Rn i i k)), ?_⟩
      congr 1
      funext x
      show (if x = i ∧ i ≠ j then fun l => Rn i i l - Rn i i k * Rn i j l else Rn i x) = if x = j then R1 j else if x < i + 1 then (piv s j k).T x else s.T x
      by_cases e : x = i ∧ i ≠ j
      · obtain ⟨e1, e2⟩ := e
        rw [if_pos ⟨e1, e2⟩, if_neg (by rw [e1]; exact e2), if_pos (by omega), hR e2, hRj, e1]
        funext l
        show s.T i l - s.T i k * R1 j l = if i = j then _ else s.T i l - s.T i k * (s.T j k * s.T j l)
        rw [if_neg e2]
        have : R1 j = fun l => s.T j k * s.T j l := if_pos rfl
        rw [this]
      · rw [if_neg e]
        show (if x = j then R1 j else if x < i then (piv s j k).T x else s.T x) = _
        by_cases ex : x = j
        · rw [if_pos ex, if_pos ex]
        · rw [if_neg ex, if_neg ex]
          by_cases e3 : x < i
          · rw [if_pos e3, if_pos (by omega)]
          · have : x ≠ i := fun z => e ⟨z, by rw [← z]; exact ex⟩
            rw [if_neg e3, if_neg (by omega)])
    obtain ⟨x6, h3⟩ := h2
    subst h3
    refine ⟨x5, x6, ?_⟩
    rw [h1]
    rw [rangeL_len, Nat.zero_add]
    congr 2
    unfold tnE
    congr 2
    unfold meF
    congr 1
    refine List.map_congr_left fun i hi => ?_
    have hi := List.mem_range.mp hi
    congr 1
    show (if i = j then R1 j else if i < P.t then (piv s j k).T i else s.T i) = _
    by_cases e : i = j
    · rw [if_pos e, e]
      show (if j = j then _ else s.T j) = _
      rw [if_pos rfl]
      funext l
      exact (if_pos rfl).symm
    · rw [if_neg e, if_pos hi]
  obtain ⟨x5, x6, a3⟩ := a3
  have a4 : sForM (sRng1 (dLenRows 0)) (.one 5) tnB (tnE P R1 s.b j k (some (rt (s.T j k))) none none true) = some (.nx (tnE P (piv s j k).T s.b j k (some (rt (s.T j k))) x5 x6 true)) :=
    sForM_nx (tnE_len ht) a3 rfl
  have a5 : sSetB 0 (dVar 1) (dVar 2) (tnE P (piv s j k).T s.b j k (some (rt (s.T j k))) x5 x6 true) = some (.nx (tnE P (piv s j k).T (piv s j k).b j k (some (rt (s.T j k))) x5 x6 true)) := by
    unfold sSetB
    show ((setL (.int (j : Nat)) (.int (k : Nat)) (meF P (piv s j k).T s.b true).basis).map _).map _ = _
    rw [setBas hj]
    rfl
  refine runMM_of (r := .nx (tnE P (piv s j k).T (piv s j k).b j k (some (rt (s.T j k))) x5 x6 true)) rfl ?_ rfl
  show B_Program_turn (tnE P s.T s.b j k none none none true) = _
  rw [B_turn_eq, sThen_nx a1, sThen_nx a2, sThen_nx a4, a5]
end CD
end
section
set_option maxHeartbeats 1000000
namespace CD
open PySem PySem.Spec PyProof.Rows L2 DL
open SX (Prb Tab zc be piv firstN rise)
theorem sum_filter (p : Nat → Bool) (f : Nat → Int) : ∀ (n : Nat), (∀ i, i < n → p i = false → f i = 0) → ((((List.range n).filter p).map f).sum : Int) = SX.sm n f
  | 0, _ => rfl
  | n + 1, h => by
    rw [List.range_succ, List.filter_append, List.map_append, List.sum_append, sum_filter p f n fun i hi => h i (Nat.lt_succ_of_lt hi)]
    show _ = SX.sm n f + f n
    congr 1
    cases hp : p n with
    | true => simp [hp]
    | false => simp [hp, h n (Nat.lt_succ_self n) hp]
theorem enumL_range (f : Nat → PyData) (n : Nat) : enumL 0 ((List.range n).map f) = (List.range n).map fun i => .tuple [.int (i : Nat), f i] := by
  apply List.ext_getElem?
  intro i
  by_cases h : i < n
  · rw [enumL_get 0 _ i (f i) (by rw [List.getElem?_map, List.getElem?_range h]; rfl), List.getElem?_map, List.getElem?_range h, Nat.zero_add]
    rfl
  · rw [List.getElem?_eq_none (by rw [enumL_len]; simpa using h), List.getElem?_eq_none (by simpa using h)]
theorem forL_first {tg : Tgt} {body : En → Option SR} (I : Nat → En → Prop) (J : En → Prop) (p : Nat → Bool) (r : Nat → PyData) : ∀ {ds : List PyData} {k : Nat} {ρ : En}, I k ρ →
    (∀ (i : Nat) (d : PyData) (ρ : En), ds[i]? = some d → I (k + i) ρ → ∃ ρ1, setT tg d ρ = some ρ1 ∧ (p (k + i) = true → ∃ ρ2, body ρ1 = some (.rt ρ2 (r (k + i))) ∧ J ρ2) ∧ (p (k + i) = false → ∃ ρ2, body ρ1 = some (.nx ρ2) ∧ I (k + i + 1) ρ2)) →
    (firstN p ds.length k = none ∧ ∃ ρ', forL tg body ds ρ = some (.nx ρ') ∧ I (k + ds.length) ρ') ∨ ∃ m, firstN p ds.length k = some m ∧ ∃ ρ', forL tg body ds ρ = some (.rt ρ' (r m)) ∧ J ρ'
  | [], k, ρ, h0, _ => .inl ⟨rfl, ρ, rfl, h0⟩
  | d :: ds, k, ρ, h0, h => by
    obtain ⟨ρ1, h1, h2, h3⟩ := h 0 d ρ rfl h0
    cases hp : p k with
    | true =>
      obtain ⟨ρ2, h4, h5⟩ := h2 hp
      refine .inr ⟨k, ?_, ρ2, ?_, h5⟩
      · show (if p k = true then some k else _) = _
        rw [if_pos hp]
      · show ((setT tg d ρ).bind fun ρ1 => (body ρ1).bind fun r => thenE r (forL tg body ds)) = _
        rw [h1, Option.bind_some, h4]
        rfl
    | false =>
      obtain ⟨ρ2, h4, h5⟩ := h3 hp
      have ih := forL_first I J p r (ds := ds) (k := k + 1) (ρ := ρ2) h5 fun i d ρ hd hI => by
        have := h (i + 1) d ρ hd (by rw [show k + (i + 1) = k + 1 + i by omega]; exact hI)
        rw [show k + (i + 1) = k + 1 + i by omega] at this
        exact this
      have e1 : firstN p (d :: ds).length k = firstN p ds.length (k + 1) := by
        show (if p k = true then some k else _) = _
        rw [hp, if_neg Bool.false_ne_true]
      have e2 : forL tg body (d :: ds) ρ = forL tg body ds ρ2 := by
        show ((setT tg d ρ).bind fun ρ1 => (body ρ1).bind fun r => thenE r (forL tg body ds)) = _
        rw [h1, Option.bind_some, h4]
        rfl
      rw [e1, e2]
      rw [show k + (d :: ds).length = k + 1 + ds.length by simp; omega]
      exact ih
/-! ### multiplier -/
def coD (P : Prb) (c : Nat → Int) : PyData := rowOf (P.N + P.t) c
def muE (P : Prb) (s : Tab) (c : Nat → Int) (k : Nat) (x3 x4 x5 : Option PyData) (bs : Bool) : En := ⟨[none, some (coD P c), some (.int k), x3, x4, x5], some (meD P s false), 0, [], bs⟩
def muC : En → Option Bool := bAnd (bOf (bin2 dNe (bin2 dIx (bin2 dIx (dVar 5) (dVar 2)) (dC (.int 0))) (dC (.int 0)))) (bOf (bin2 dNe (bin2 dIx (bin2 dIx (dVar 1) (dBasAt 0 (dVar 4))) (dC (.int 0))) (dC (.int 0))))
def mu3 : En → Option PyData := dComp [4, 5] (sEnumRows 0) (.two 4 5) muC (dVar 4)
def mu4 : En → Option PyData := dComp [4] (sSeq (dVar 3)) (.one 4) bYes (dCall F_by (sCons (bin2 dIx (dVar 1) (dBasAt 0 (dVar 4))) (sCons (bin2 dIx (dRowAt 0 (dVar 4)) (dVar 2)) sNil)))
theorem B_multiplier_eq : B_Program_multiplier = sThen (sSet 3 mu3) (sRet (dCall F_sum_of (sCons mu4 sNil))) := rfl
def muP (s : Tab) (c : Nat → Int) (k : Nat) (i : Nat) : Bool := !decide (s.T i k = 0) && !decide (c (s.b i) = 0)
section
variable {P : Prb} {s : Tab} {c : Nat → Int} {k : Nat}
theorem mu3_eq (hb : ∀ i, i < P.t → s.b i < P.N + P.t) (hk : k < wd P) (ht : P.t ≤ LIM) : mu3 (muE P s c k none none none true) = some (.list (((List.range P.t).filter (muP s c k)).map fun i => PyData.int (i : Nat))) := by
  unfold mu3
  refine dComp_fm (xs := List.range P.t) (muP s c k) (fun i => .tuple [.int (i : Nat), rowD P s i]) (fun i => .int (i : Nat)) ?_ (by rw [List.length_range]; exact ht) fun i hi => ?_
  · show some (enumL 0 ((List.range P.t).map (rowD P s))) = _
    rw [enumL_range]
  · have hi := List.mem_range.mp hi
    refine ⟨muE P s c k none (some (.int (i : Nat))) (some (rowD P s i)) false, rfl, ?_, fun _ => rfl⟩
    have c1 : bOf (bin2 dNe (bin2 dIx (bin2 dIx (dVar 5) (dVar 2)) (dC (.int 0))) (dC (.int 0))) (muE P s c k none (some (.int (i : Nat))) (some (rowD P s i)) false) = some (!decide (s.T i k = 0)) := by
      show ((((dIx (rowD P s i) (.int (k : Nat))).bind fun a => dIx a (.int 0)).bind fun a => dNe a (.int 0)).bind asB) = _
      rw [ent_at hk, Option.bind_some]
      show (dNe (.int (s.T i k)) (.int 0)).bind asB = _
      rw [dNe_int]
      rfl
    have c2 : bOf (bin2 dNe (bin2 dIx (bin2 dIx (dVar 1) (dBasAt 0 (dVar 4))) (dC (.int 0))) (dC (.int 0))) (muE P s c k none (some (.int (i : Nat))) (some (rowD P s i)) false) = some (!decide (c (s.b i) = 0)) := by
      show (((((atI (meD P s false).basis (i : Int)).bind fun b => dIx (coD P c) b).bind fun a => dIx a (.int 0)).bind fun a => dNe a (.int 0)).bind asB) = _
      rw [bas_at hi, Option.bind_some]
      show ((((dIx (coD P c) (.int (s.b i : Nat))).bind fun a => dIx a (.int 0)).bind fun a => dNe a (.int 0)).bind asB) = _
      rw [show dIx (coD P c) (.int (s.b i : Nat)) = some (rt (c (s.b i))) from rowOf_at (hb i hi), Option.bind_some]
      show (dNe (.int (c (s.b i))) (.int 0)).bind asB = _
      rw [dNe_int]
      rfl
    unfold muC bAnd
    rw [c1, c2]
    unfold muP
    cases decide (s.T i k = 0) <;> rfl
theorem mu4_eq (hb : ∀ i, i < P.t → s.b i < P.N + P.t) (hc : ∀ l, l < P.N + P.t → sm (c l) = true) (hk : k < wd P) (ht : P.t ≤ LIM) :
    mu4 (muE P s c k (some (.list (((List.range P.t).filter (muP s c k)).map fun i => PyData.int (i : Nat)))) none none true) = some (.list (((List.range P.t).filter (muP s c k)).map fun i => rt (c (s.b i) * s.T i k))) := by
  unfold mu4
  refine dComp_map (xs := (List.range P.t).filter (muP s c k)) (fun i => .int (i : Nat)) (fun i => rt (c (s.b i) * s.T i k)) rfl (Nat.le_trans (List.length_filter_le _ _) (by rw [List.length_range]; exact ht)) fun i hi => ?_
  have hi := List.mem_range.mp (List.mem_filter.mp hi).1
  refine ⟨muE P s c k _ (some (.int (i : Nat))) none false, rfl, rfl, ?_⟩
  show ((((atI (meD P s false).basis (i : Int)).bind fun b => dIx (coD P c) b).bind fun d => ((((atI (meD P s false).rows (i : Int)).bind fun b => dIx b (.int (k : Nat))).bind fun d => (some ([] : List PyData)).map (d :: ·))).map (d :: ·))).bind F_by = _
  rw [bas_at hi, row_at hi, Option.bind_some, Option.bind_some, ent_at hk]
  show (((dIx (coD P c) (.int (s.b i : Nat))).bind fun d => some [d, rt (s.T i k)])).bind F_by = _
  rw [show dIx (coD P c) (.int (s.b i : Nat)) = some (rt (c (s.b i))) from rowOf_at (hb i hi), Option.bind_some]
  exact F_by1 _ _ (hc _ (hb i hi))
theorem F_multiplier (w : Bool) (hb : ∀ i, i < P.t → s.b i < P.N + P.t) (hc : ∀ l, l < P.N + P.t → sm (c l) = true) (hk : k < wd P) (ht : P.t ≤ LIM) :
    F_Program_multiplier (meD P s w) [coD P c, .int (k : Nat)] = some (rt (zc P c s k)) := by
  let L : PyData := .list (((List.range P.t).filter (muP s c k)).map fun i => PyData.int (i : Nat))
  refine runM_of (r := .rt (muE P s c k (some L) none none true) (rt (zc P c s k))) rfl ?_ rfl
  show B_Program_multiplier (muE P s c k none none none true) = _
  have a1 : sSet 3 mu3 (muE P s c k none none none true) = some (.nx (muE P s c k (some L) none none true)) := by
    unfold sSet
    rw [mu3_eq hb hk ht]
    rfl
  rw [B_multiplier_eq, sThen_nx a1]
  show (((mu4 (muE P s c k (some L) none none true)).bind fun d => (some ([] : List PyData)).map (d :: ·)).bind F_sum_of).map _ = _
  rw [mu4_eq hb hc hk ht]
  show (F_sum_of [.list (((List.range P.t).filter (muP s c k)).map fun i => rt (c (s.b i) * s.T i k))]).map _ = _
  have e : (((List.range P.t).filter (muP s c k)).map fun i => rt (c (s.b i) * s.T i k)) = (((List.range P.t).filter (muP s c k)).map fun i => c (s.b i) * s.T i k).map rt := by
    rw [List.map_map]
    rfl
  rw [e, F_sum_of1, sum_filter (muP s c k) (fun i => c (s.b i) * s.T i k) P.t fun i hi h => ?_]
  · rfl
  · unfold muP at h
    by_cases h1 : s.T i k = 0
    · rw [h1, Int.mul_zero]
    · by_cases h2 : c (s.b i) = 0
      · rw [h2, Int.zero_mul]
      · rw [decide_eq_false h1, decide_eq_false h2] at h
        cases h
/-! ### rising -/
def riE (P : Prb) (s : Tab) (c : Nat → Int) (x3 : Option PyData) (bs : Bool) : En := ⟨[none, some (coD P c), some (.int P.N), x3], some (meD P s false), 0, [], bs⟩
def riB : En → Option SR := sIf (bOf (dCall F_less (sCons (dMeth 0 F_Program_multiplier (sCons (dVar 1) (sCons (dVar 3) sNil))) (sCons (bin2 dIx (dVar 1) (dVar 3)) sNil)))) (sRet (dVar 3)) sSkip
theorem B_rising_eq : B_Program_rising = sThen (sFor (sRng1 (dVar 2)) (.one 3) riB) (sRet (dC .none)) := rfl
def opD : Option Nat → PyData
  | none => .none
  | some k => .int (k : Nat)
theorem F_rising (w : Bool) (hb : ∀ i, i < P.t → s.b i < P.N + P.t) (hc : ∀ l, l < P.N + P.t → sm (c l) = true) (hN : P.N ≤ 1000) (ht : P.t ≤ LIM) :
    F_Program_rising (meD P s w) [coD P c, .int P.N] = some (opD (rise P c s)) := by
  have hr : sRng1 (dVar 2) (hideE (riE P s c none true)) = some (rangeL 0 P.N) := by
    show (if (P.N : Int) ≤ 1000 ∧ -1000 ≤ (P.N : Int) then some (rangeL 0 (P.N : Int).toNat) else none) = _
    rw [if_pos ⟨by omega, by omega⟩, Int.toNat_natCast]
  have hf := forL_first (tg := .one 3) (body := riB) (fun _ ρ => ∃ x, ρ = riE P s c x false) (fun ρ => ∃ x, ρ = riE P s c x false) (fun k => decide (zc P c s k < c k)) (fun k => .int (k : Nat)) (ds := rangeL 0 P.N) (k := 0) (ρ := riE P s c none false) ⟨none, rfl⟩ fun i d ρ hd hI => by
    obtain ⟨x, rfl⟩ := hI
    have hi : i < P.N := by
      have := (List.getElem?_eq_some_iff.mp hd).1
      rw [rangeL_len] at this
      exact this
    rw [rangeL_get hi] at hd
    have hd := Option.some.inj hd
    subst hd
    rw [Nat.zero_add, Int.zero_add]
    have ht : bOf (dCall F_less (sCons (dMeth 0 F_Program_multiplier (sCons (dVar 1) (sCons (dVar 3) sNil))) (sCons (bin2 dIx (dVar 1) (dVar 3)) sNil))) (riE P s c (some (.int (i : Nat))) false) = some (decide (zc P c s i < c i)) := by
      show (((F_Program_multiplier (meD P s false) [coD P c, .int (i : Nat)]).bind fun d => (((dIx (coD P c) (.int (i : Nat))).bind fun d => (some ([] : List PyData)).map (d :: ·))).map (d :: ·)).bind F_less).bind asB = _
      rw [F_multiplier false hb hc (show i < P.N + P.t + 1 by omega) ht, Option.bind_some, show dIx (coD P c) (.int (i : Nat)) = some (rt (c i)) from rowOf_at (by omega)]
      show (F_less [rt (zc P c s i), rt (c i)]).bind asB = _
      rw [F_less1]
      rfl
    refine ⟨riE P s c (some (.int (i : Nat))) false, rfl, fun hp => ⟨riE P s c (some (.int (i : Nat))) false, ?_, _, rfl⟩, fun hp => ⟨riE P s c (some (.int (i : Nat))) false, ?_, _, rfl⟩⟩
    · show (bOf _ _).bind _ = _
      rw [ht, hp]
      rfl
    · show (bOf _ _).bind _ = _
      rw [ht, hp]
      rfl
  rw [rangeL_len] at hf
  rcases hf with ⟨e, ρ', h1, x, rfl⟩ | ⟨m, e, ρ', h1, x, rfl⟩
  · refine runM_of (r := .rt (riE P s c x true) .none) rfl ?_ ?_
    · show B_Program_rising (riE P s c none true) = _
      rw [B_rising_eq, sThen_nx (sFor_nx rfl hr h1 rfl)]
      rfl
    · show some PyData.none = some (opD (firstN _ P.N 0))
      rw [e]
      rfl
  · refine runM_of (r := .rt (riE P s c x true) (.int (m : Nat))) rfl ?_ ?_
    · show B_Program_rising (riE P s c none true) = _
      rw [B_rising_eq, sThen_rt (sFor_rt rfl hr h1 rfl)]
      rfl
    · show some (PyData.int (m : Nat)) = some (opD (firstN _ P.N 0))
      rw [e]
      rfl
end
end CD
end
section
set_option maxHeartbeats 1000000
namespace CD
open PySem PySem.Spec PyProof.Rows L2 DL
open SX (Prb Tab zc be piv firstN rise scan bet climbS)
theorem eqv_rt (a b : Int) : PyData.eqv (rt a) (rt b) = decide (a = b) := by
  unfold rt
  rw [PyData.eqv, PyData.eqvAll, PyData.eqvAll, PyData.eqvAll, eqv_int, eqv_int]
  simp
theorem dEq_rt (a b : Int) : dEq (rt a) (rt b) = some (.bool (decide (a = b))) := by
  show (if SeqAt.shaped (rt a) && SeqAt.shaped (rt b) then some (PyData.bool (PyData.eqv (rt a) (rt b))) else none) = _
  rw [if_pos (by rfl), eqv_rt]
def clE (P : Prb) (s : Tab) (c : Nat → Int) (x3 x4 x5 x6 x7 : Option PyData) (w bs : Bool) : En := ⟨[none, some (coD P c), some (.int P.N), x3, x4, x5, x6, x7], some (meD P s w), 0, [], bs⟩
def clB2 : En → Option SR := sIf (bOr (bOf (bin2 dIsN (dVar 4) (dC .none))) (bOr (bOf (dCall F_less (sCons (dVar 7) (sCons (bin2 dIx (dVar 4) (dC (.int 0))) sNil)))) (bAnd (bOf (bin2 dEq (dVar 7) (bin2 dIx (dVar 4) (dC (.int 0))))) (bOf (bin2 dLt (dBasAt 0 (dVar 5)) (dBasAt 0 (bin2 dIx (dVar 4) (dC (.int 1))))))))) (sSet 4 (dTup (sCons (dVar 7) (sCons (dVar 5) sNil)))) sSkip
def clB : En → Option SR := sIf (bOf (bin2 dGt (bin2 dIx (bin2 dIx (dVar 6) (dVar 3)) (dC (.int 0))) (dC (.int 0)))) (sThen (sSet 7 (dCall F_over (sCons (bin2 dIx (dVar 6) (dNeg (dC (.int 1)))) (sCons (bin2 dIx (dVar 6) (dVar 3)) sNil)))) clB2) sSkip
def clT : En → Option SR := sThen (sIf (bOf (bin2 dIsN (dVar 4) (dC .none))) (sRet (dC (.bool false))) sSkip) (sCallM 0 F_Program_turn (sCons (bin2 dIx (dVar 4) (dC (.int 1))) (sCons (dVar 3) sNil)))
def clBody : En → Option SR := sThen (sPar 3 4 (sCons (dMeth 0 F_Program_rising (sCons (dVar 1) (sCons (dVar 2) sNil))) (sCons (dC .none) sNil)))
  (sThen (sIf (bOf (bin2 dIsN (dVar 3) (dC .none))) (sRet (dC (.bool true))) sSkip) (sThen (sFor (sEnumRows 0) (.two 5 6) clB) clT))
def FUEL : Nat := 1267650600228229401496703205376
theorem B_climb_eq : B_Program_climb = whileL (bOf (dC (.bool true))) clBody FUEL := rfl
def bestD (P : Prb) (s : Tab) : Option Nat → PyData
  | none => .none
  | some j => .tuple [rt (be P s j), .int (j : Nat)]
section
variable {P : Prb} {s : Tab} {c : Nat → Int} {k : Nat}
theorem clB_eq {i : Nat} {x5 x7 : Option PyData} (hi : i < P.t) (hk : k < wd P) (he : sm01 (s.T i k)) :
    ∃ x7', clB (clE P s c (some (.int (k : Nat))) (some (bestD P s (scan P s k i))) (some (.int (i : Nat))) (some (rowD P s i)) x7 false false) =
      some (.nx (clE P s c (some (.int (k : Nat))) (some (bestD P s (scan P s k (i + 1)))) (some (.int (i : Nat))) (some (rowD P s i)) x7' false false)) := by
  have c1 : bOf (bin2 dGt (bin2 dIx (bin2 dIx (dVar 6) (dVar 3)) (dC (.int 0))) (dC (.int 0))) (clE P s c (some (.int (k : Nat))) (some (bestD P s (scan P s k i))) (some (.int (i : Nat))) (some (rowD P s i)) x7 false false) = some (decide (0 < s.T i k)) := by
    show ((((dIx (rowD P s i) (.int (k : Nat))).bind fun a => dIx a (.int 0)).bind fun a => dGt a (.int 0)).bind asB) = _
    rw [ent_at hk]
    rfl
  have sc : scan P s k (i + 1) = if 0 < s.T i k then (match scan P s k i with
    | none => some i
    | some m => if bet P s i m = true then some i else some m) else scan P s k i := rfl
  by_cases hp : 0 < s.T i k
  · have h1 : s.T i k = 1 := by rcases he with h | h | h <;> omega
    refine ⟨some (rt (be P s i)), ?_⟩
    have a1 : sSet 7 (dCall F_over (sCons (bin2 dIx (dVar 6) (dNeg (dC (.int 1)))) (sCons (bin2 dIx (dVar 6) (dVar 3)) sNil))) (clE P s c (some (.int (k : Nat))) (some (bestD P s (scan P s k i))) (some (.int (i : Nat))) (some (rowD P s i)) x7 false false)
        = some (.nx (clE P s c (some (.int (k : Nat))) (some (bestD P s (scan P s k i))) (some (.int (i : Nat))) (some (rowD P s i)) (some (rt (be P s i))) false false)) := by
      unfold sSet
      show ((((dIx (rowD P s i) (.int (-1))).bind fun d => (((dIx (rowD P s i) (.int (k : Nat))).bind fun d => (some ([] : List PyData)).map (d :: ·))).map (d :: ·)).bind F_over)).bind _ = _
      rw [last_at, ent_at hk, h1]
      show (F_over [rt (be P s i), rt 1]).bind _ = _
      rw [F_over1 _ 1 (.inl rfl), Int.one_mul]
      rfl
    unfold clB sIf
    rw [c1, decide_eq_true hp]
    show (sThen _ clB2) _ = _
    rw [sThen_nx a1, sc, if_pos hp]
    unfold clB2 sIf bOr
    cases hs : scan P s k i with
    | none => rfl
    | some m =>
      have hm : m < P.t := by
        have := (SX.scan_some hs).1
        omega
      let E1 : En := clE P s c (some (.int (k : Nat))) (some (bestD P s (some m))) (some (.int (i : Nat))) (some (rowD P s i)) (some (rt (be P s i))) false false
      have t1 : bOf (bin2 dIsN (dVar 4) (dC .none)) E1 = some false := rfl
      have t2 : bOf (dCall F_less (sCons (dVar 7) (sCons (bin2 dIx (dVar 4) (dC (.int 0))) sNil))) E1 = some (decide (be P s i < be P s m)) := by
        show (F_less [rt (be P s i), rt (be P s m)]).bind asB = _
        rw [F_less1]
        rfl
      have t3 : bOf (bin2 dEq (dVar 7) (bin2 dIx (dVar 4) (dC (.int 0)))) E1 = some (decide (be P s i = be P s m)) := by
        show (dEq (rt (be P s i)) (rt (be P s m))).bind asB = _
        rw [dEq_rt]
        rfl
      have t4 : bOf (bin2 dLt (dBasAt 0 (dVar 5)) (dBasAt 0 (bin2 dIx (dVar 4) (dC (.int 1))))) E1 = some (decide (s.b i < s.b m)) := by
        show (((atI (meD P s false).basis (i : Int)).bind fun a => (atI (meD P s false).basis (m : Int)).bind fun b => dLt a b)).bind asB = _
        rw [bas_at hi, bas_at hm]
        show some (decide ((s.b i : Int) < (s.b m : Int))) = _
        congr 1
        simp
      show ((bOf (bin2 dIsN (dVar 4) (dC .none)) E1).bind fun c => if c = true then some true else (bOf (dCall F_less (sCons (dVar 7) (sCons (bin2 dIx (dVar 4) (dC (.int 0))) sNil))) E1).bind fun c => if c = true then some true else bAnd _ _ E1).bind _ = _
      rw [t1, Option.bind_some, if_neg Bool.false_ne_true, t2, Option.bind_some]
      unfold bAnd
      rw [t3, t4, Option.bind_some]
      show _ = some (SR.nx (clE P s c (some (.int (k : Nat))) (some (bestD P s (if bet P s i m = true then some i else some m))) (some (.int (i : Nat))) (some (rowD P s i)) (some (rt (be P s i))) false false))
      unfold bet
      cases decide (be P s i < be P s m) with
      | true => rfl
      | false =>
        cases decide (be P s i = be P s m) with
        | false => rfl
        | true => cases decide (s.b i < s.b m) <;> rfl
  · refine ⟨x7, ?_⟩
    unfold clB sIf
    rw [c1, decide_eq_false hp, sc, if_neg hp]
    rfl
theorem clFor (hk : k < wd P) (he : ∀ i, i < P.t → sm01 (s.T i k)) {x5 x6 x7 : Option PyData} :
    ∃ x5' x6' x7', sFor (sEnumRows 0) (.two 5 6) clB (clE P s c (some (.int (k : Nat))) (some .none) x5 x6 x7 true true) = some (.nx (clE P s c (some (.int (k : Nat))) (some (bestD P s (scan P s k P.t))) x5' x6' x7' true true)) := by
  obtain ⟨ρ', h1, h2⟩ := forL_inv (tg := .two 5 6) (body := clB) (fun n ρ => n ≤ P.t ∧ ∃ x5 x6 x7, ρ = clE P s c (some (.int (k : Nat))) (some (bestD P s (scan P s k n))) x5 x6 x7 false false)
    (ds := (List.range P.t).map fun i => .tuple [.int (i : Nat), rowD P s i]) (k := 0) (ρ := clE P s c (some (.int (k : Nat))) (some .none) x5 x6 x7 false false) ⟨Nat.zero_le _, x5, x6, x7, rfl⟩ (fun i d ρ hd hI => by
      obtain ⟨_, x5, x6, x7, rfl⟩ := hI
      have hi : i < P.t := by
        have := (List.getElem?_eq_some_iff.mp hd).1
        rwa [List.length_map, List.length_range] at this
      rw [List.getElem?_map, List.getElem?_range hi] at hd
      have hd := Option.some.inj hd
      subst hd
      rw [Nat.zero_add]
      obtain ⟨x7', e⟩ := clB_eq (c := c) (x5 := x5) (x7 := x7) hi hk (he i hi)
      exact ⟨_, _, rfl, e, hi, _, _, _, rfl⟩)
  rw [Nat.zero_add, List.length_map, List.length_range] at h2
  obtain ⟨_, x5', x6', x7', rfl⟩ := h2
  refine ⟨x5', x6', x7', ?_⟩
  have hit : sEnumRows 0 (hideE (clE P s c (some (.int (k : Nat))) (some .none) x5 x6 x7 true true)) = some ((List.range P.t).map fun i => .tuple [.int (i : Nat), rowD P s i]) := by
    show some (enumL 0 ((List.range P.t).map (rowD P s))) = _
    rw [enumL_range]
  exact sFor_nx rfl hit h1 rfl
theorem clLoop {sg : Nat → Int} (Ar : SX.Arcs P sg) (hc : ∀ l, l < P.N + P.t → sm (c l) = true) (hN : P.N ≤ 1000) (ht : P.t ≤ LIM) (hw : wd P ≤ LIM) (ht2 : P.t ≤ 1000) : ∀ (f : Nat) {s s' : Tab} {x3 x4 x5 x6 x7 : Option PyData}, SX.Inv P s → climbS P c f s = some s' →
    ∃ ρ', whileL (bOf (dC (.bool true))) clBody f (clE P s c x3 x4 x5 x6 x7 true true) = some (.rt ρ' (.bool true)) ∧ ρ'.me = some (meD P s' true)
  | 0, s, s', _, _, _, _, _, _, h => by cases h
  | f + 1, s, s', x3, x4, x5, x6, x7, I, h => by
    have hr := F_rising (P := P) (s := s) (c := c) false I.bl hc hN ht
    have e0 : whileL (bOf (dC (.bool true))) clBody (f + 1) (clE P s c x3 x4 x5 x6 x7 true true) = (clBody (clE P s c x3 x4 x5 x6 x7 true true)).bind fun r => thenE r (whileL (bOf (dC (.bool true))) clBody f) := rfl
    have a1 : sPar 3 4 (sCons (dMeth 0 F_Program_rising (sCons (dVar 1) (sCons (dVar 2) sNil))) (sCons (dC .none) sNil)) (clE P s c x3 x4 x5 x6 x7 true true) = some (.nx (clE P s c (some (opD (rise P c s))) (some .none) x5 x6 x7 true true)) := by
      have : F_Program_rising (meD P s true) [coD P c, .int P.N] = some (opD (rise P c s)) := F_rising true I.bl hc hN ht
      unfold sPar
      show (((F_Program_rising (meD P s true) [coD P c, .int P.N]).bind fun d => (some [PyData.none]).map (d :: ·))).bind _ = _
      rw [this]
      rfl
    rw [e0]
    have h' : (match rise P c s with
      | none => some s
      | some k => match scan P s k P.t with
        | none => none
        | some j => climbS P c f (piv s j k)) = some s' := h
    cases hri : rise P c s with
    | none =>
      rw [hri] at h' a1
      have h' := Option.some.inj h'
      subst h'
      have eB : clBody (clE P s c x3 x4 x5 x6 x7 true true) = some (.rt (clE P s c (some .none) (some .none) x5 x6 x7 true true) (.bool true)) := by
        unfold clBody
        rw [sThen_nx a1]
        rfl
      rw [eB]
      exact ⟨clE P s c (some .none) (some .none) x5 x6 x7 true true, rfl, rfl⟩
    | some k =>
      have h' : (match scan P s k P.t with
        | none => none
        | some j => climbS P c f (piv s j k)) = some s' := by
        rw [hri] at h'
        exact h'
      rw [hri] at a1
      have hkN : k < P.N := by
        have := SX.firstN_some hri
        omega
      have hk : k < wd P := by unfold wd; omega
      have he : ∀ i, i < P.t → sm01 (s.T i k) := fun i hi => I.entry Ar hi (by omega)
      cases hsc : scan P s k P.t with
      | none =>
        rw [hsc] at h'
        cases h'
      | some j =>
        rw [hsc] at h'
        have h' : climbS P c f (piv s j k) = some s' := h'
        obtain ⟨hj, hpos, _⟩ := SX.scan_some hsc
        have h1 : s.T j k = 1 ∨ s.T j k = -1 := by rcases he j hj with z | z | z <;> omega
        obtain ⟨x5', x6', x7', a2⟩ := clFor (P := P) (s := s) (c := c) hk he (x5 := x5) (x6 := x6) (x7 := x7)
        rw [hsc] at a2
        have a0 : sIf (bOf (bin2 dIsN (dVar 3) (dC .none))) (sRet (dC (.bool true))) sSkip (clE P s c (some (opD (some k))) (some .none) x5 x6 x7 true true) = some (.nx (clE P s c (some (opD (some k))) (some .none) x5 x6 x7 true true)) := rfl
        have a3 : clT (clE P s c (some (.int (k : Nat))) (some (bestD P s (some j))) x5' x6' x7' true true) = some (.nx (clE P (piv s j k) c (some (.int (k : Nat))) (some (bestD P s (some j))) x5' x6' x7' true true)) := by
          unfold clT
          rw [sThen_nx (show sIf (bOf (bin2 dIsN (dVar 4) (dC .none))) (sRet (dC (.bool false))) sSkip (clE P s c (some (.int (k : Nat))) (some (bestD P s (some j))) x5' x6' x7' true true) = some (.nx (clE P s c (some (.int (k : Nat))) (some (bestD P s (some j))) x5' x6' x7' true true)) from rfl)]
          unfold sCallM callM
          show (((F_Program_turn (meD P s true) [.int (j : Nat), .int (k : Nat)]).bind fun r => if r.1.w = true then some (_, r.2) else none)).map _ = _
          rw [F_turn1 hj hk hw ht2 h1 he]
          rfl
        have eB : clBody (clE P s c x3 x4 x5 x6 x7 true true) = some (.nx (clE P (piv s j k) c (some (.int (k : Nat))) (some (bestD P s (some j))) x5' x6' x7' true true)) := by
          unfold clBody
          rw [sThen_nx a1, sThen_nx a0, sThen_nx (show sFor (sEnumRows 0) (.two 5 6) clB (clE P s c (some (opD (some k))) (some .none) x5 x6 x7 true true) = _ from a2), a3]
        rw [eB]
        exact clLoop Ar hc hN ht hw ht2 f (I.piv hj (by omega) h1) h'
theorem F_climb {sg : Nat → Int} (Ar : SX.Arcs P sg) (hc : ∀ l, l < P.N + P.t → sm (c l) = true) (hN : P.N ≤ 1000) (ht : P.t ≤ LIM) (hw : wd P ≤ LIM) (ht2 : P.t ≤ 1000) {s' : Tab} (I : SX.Inv P s) (h : climbS P c FUEL s = some s') :
    F_Program_climb (meD P s true) [coD P c, .int P.N] = some (meD P s' true, .bool true) := by
  obtain ⟨ρ', h1, h2⟩ := clLoop Ar hc hN ht hw ht2 FUEL (x3 := none) (x4 := none) (x5 := none) (x6 := none) (x7 := none) I h
  refine runMM_of (r := .rt ρ' (.bool true)) rfl ?_ ?_
  · show B_Program_climb (clE P s c none none none none none true true) = _
    rw [B_climb_eq]
    exact h1
  · show ρ'.me.map (·, PyData.bool true) = _
    rw [h2]
    rfl
end
end CD
end
section
set_option maxHeartbeats 1000000
namespace CD
open PySem PySem.Spec PyProof.Rows L2 DL
open SX (Prb Tab zc be piv firstN lhelp amt)
theorem firstN_head (p : Nat → Bool) : ∀ (n k : Nat), ((List.range' k n).filter p).head? = firstN p n k
  | 0, _ => rfl
  | n + 1, k => by
    rw [List.range'_succ, List.filter_cons]
    show _ = if p k = true then some k else firstN p n (k + 1)
    cases hp : p k with
    | true => rfl
    | false =>
      rw [if_neg Bool.false_ne_true, if_neg Bool.false_ne_true]
      exact firstN_head p n (k + 1)
theorem downL_succ (lo : Int) (n : Nat) : downL lo (n + 1) = .int lo :: downL (lo - 1) n := by
  unfold downL
  rw [List.range_succ_eq_map, List.map_cons, List.map_map]
  congr 1
  · congr 1
    show lo + ((0 : Nat) : Int) * -1 = lo
    omega
  · refine List.map_congr_left fun k _ => ?_
    show PyData.int (lo + ((k + 1 : Nat) : Int) * -1) = PyData.int (lo - 1 + (k : Int) * -1)
    congr 1
    omega
def leE (P : Prb) (s : Tab) (x1 x2 : Option PyData) (bs : Bool) : En := ⟨[none, x1, x2, none], some (meD P s true), 0, [], bs⟩
def leC : En → Option PyData := dComp [3] (sRng1 (dMany 0)) (.one 3) (bOf (bin2 dNe (bin2 dIx (bin2 dIx (dRowAt 0 (dVar 1)) (dVar 3)) (dC (.int 0))) (dC (.int 0)))) (dVar 3)
def leB : En → Option SR := sIf (bOf (bin2 dGe (dBasAt 0 (dVar 1)) (dMany 0))) (sThen (sSet 2 leC)
  (sIf (dTruL (dVar 2)) (sCallM 0 F_Program_turn (sCons (dVar 1) (sCons (bin2 dIx (dVar 2) (dC (.int 0))) sNil))) (sThen (fun _ => none) (fun _ => none)))) sSkip
theorem B_leave_eq : B_Program_leave_help = sForM (sRngD (bin2 dSub (dLenRows 0) (dC (.int 1))) (dNeg (dC (.int 1)))) (.one 1) leB := rfl
section
variable {P : Prb} {s : Tab} {c : Nat → Int} {k : Nat} {sg : Nat → Int}
theorem leC_eq {j : Nat} {x2 : Option PyData} {bs : Bool} (hj : j < P.t) (hN : P.N ≤ 1000) (hl : P.N ≤ LIM) : leC (leE P s (some (.int (j : Nat))) x2 bs) = some (.list (((List.range P.N).filter fun k => decide (s.T j k ≠ 0)).map fun i => PyData.int (i : Nat))) := by
  unfold leC
  refine dComp_fm (xs := List.range P.N) (fun k => decide (s.T j k ≠ 0)) (fun i => .int (i : Nat)) (fun i => .int (i : Nat)) ?_ (by rw [List.length_range]; exact hl) fun i hi => ?_
  · show (if (P.N : Int) ≤ 1000 ∧ -1000 ≤ (P.N : Int) then some (rangeL 0 (P.N : Int).toNat) else none) = _
    rw [if_pos ⟨by omega, by omega⟩, Int.toNat_natCast]
    unfold rangeL
    congr 1
    exact List.map_congr_left fun i _ => by rw [Int.zero_add]
  · have hi := List.mem_range.mp hi
    refine ⟨⟨[none, some (.int (j : Nat)), x2, some (.int (i : Nat))], some (meD P s true), 0, [], false⟩, rfl, ?_, fun _ => rfl⟩
    show (((((atI (meD P s true).rows (j : Int)).bind fun a => dIx a (.int (i : Nat))).bind fun a => dIx a (.int 0)).bind fun a => dNe a (.int 0)).bind asB) = _
    rw [row_at hj, Option.bind_some, ent_at (by unfold wd; omega), Option.bind_some]
    show (dNe (.int (s.T j i)) (.int 0)).bind asB = _
    rw [dNe_int]
    show some (!decide (s.T j i = 0)) = _
    congr 1
    by_cases h : s.T j i = 0
    · rw [decide_eq_true h, decide_eq_false (fun z => z h)]
      rfl
    · rw [decide_eq_false h, decide_eq_true h]
      rfl
theorem leLoop (Ar : SX.Arcs P sg) (hN : P.N ≤ 1000) (hl : P.N ≤ LIM) (hw : wd P ≤ LIM) (ht2 : P.t ≤ 1000) : ∀ (n : Nat) {s s' : Tab} {x1 x2 : Option PyData}, n ≤ P.t → SX.Inv P s → lhelp P n s = some s' →
    ∃ x1' x2', forL (.one 1) leB (downL ((n : Int) - 1) n) (leE P s x1 x2 false) = some (.nx (leE P s' x1' x2' false))
  | 0, s, s', x1, x2, _, I, h => by
    have h := Option.some.inj h
    subst h
    exact ⟨x1, x2, rfl⟩
  | j + 1, s, s', x1, x2, hn, I, h => by
    have hj : j < P.t := hn
    have e0 : forL (.one 1) leB (downL (((j + 1 : Nat) : Int) - 1) (j + 1)) (leE P s x1 x2 false) = (leB (leE P s (some (.int (j : Nat))) x2 false)).bind fun r => thenE r (forL (.one 1) leB (downL ((j : Int) - 1) j)) := by
      rw [show ((j + 1 : Nat) : Int) - 1 = (j : Int) by omega, downL_succ]
      rfl
    have c1 : bOf (bin2 dGe (dBasAt 0 (dVar 1)) (dMany 0)) (leE P s (some (.int (j : Nat))) x2 false) = some (!decide (s.b j < P.N)) := by
      show (((atI (meD P s true).basis (j : Int)).bind fun a => dGe a (.int (P.N : Nat)))).bind asB = _
      rw [bas_at hj, Option.bind_some]
      show some (decide ((P.N : Int) ≤ (s.b j : Int))) = _
      congr 1
      by_cases h : s.b j < P.N
      · rw [decide_eq_true h, decide_eq_false (by omega)]
        rfl
      · rw [decide_eq_false h, decide_eq_true (by omega)]
        rfl
    rw [e0]
    have h : (if s.b j < P.N then lhelp P j s else match firstN (fun k => decide (s.T j k ≠ 0)) P.N 0 with
      | none => none
      | some k => lhelp P j (piv s j k)) = some s' := h
    by_cases hb : s.b j < P.N
    · rw [if_pos hb] at h
      have eB : leB (leE P s (some (.int (j : Nat))) x2 false) = some (.nx (leE P s (some (.int (j : Nat))) x2 false)) := by
        unfold leB sIf
        rw [c1, decide_eq_true hb]
        rfl
      rw [eB]
      exact leLoop Ar hN hl hw ht2 j (by omega) I h
    · rw [if_neg hb] at h
      cases hf : firstN (fun k => decide (s.T j k ≠ 0)) P.N 0 with
      | none =>
        rw [hf] at h
        cases h
      | some k =>
        rw [hf] at h
        have h : lhelp P j (piv s j k) = some s' := h
        obtain ⟨_, hk, hkp, _⟩ := SX.firstN_some hf
        have hkN : k < P.N := by omega
        have hne : s.T j k ≠ 0 := of_decide_eq_true hkp
        have he : ∀ i, i < P.t → sm01 (s.T i k) := fun i hi => I.entry Ar hi (by omega)
        have h1 : s.T j k = 1 ∨ s.T j k = -1 := by rcases he j hj with z | z | z <;> omega
        obtain ⟨tl, htl⟩ : ∃ tl, ((List.range P.N).filter fun k => decide (s.T j k ≠ 0)) = k :: tl := by
          have := firstN_head (fun k => decide (s.T j k ≠ 0)) P.N 0
          rw [hf, ← List.range_eq_range'] at this
          cases hh : (List.range P.N).filter fun k => decide (s.T j k ≠ 0) with
          | nil => rw [hh] at this; cases this
          | cons a tl =>
            rw [hh] at this
            have := Option.some.inj this
            exact ⟨tl, by rw [this]⟩
        have hC := leC_eq (P := P) (s := s) (x2 := x2) (bs := false) hj hN hl
        rw [htl] at hC
        let L : PyData := .list ((k :: tl).map fun i => PyData.int (i : Nat))
        have a1 : sSet 2 leC (leE P s (some (.int (j : Nat))) x2 false) = some (.nx (leE P s (some (.int (j : Nat))) (some L) false)) := by
          unfold sSet
          rw [hC]
          rfl
        have eB : leB (leE P s (some (.int (j : Nat))) x2 false) = some (.nx (leE P (piv s j k) (some (.int (j : Nat))) (some L) false)) := by
          unfold leB sIf
          rw [c1, decide_eq_false hb]
          show sThen (sSet 2 leC) _ _ = _
          rw [sThen_nx a1]
          show sCallM 0 F_Program_turn _ _ = _
          have hx : dIx L (.int 0) = some (.int (k : Nat)) := by
            show atI ((k :: tl).map fun i => PyData.int (i : Nat)) ((0 : Nat) : Int) = _
            rw [DL.atI_nat]
            rfl
          unfold sCallM callM
          show (((((dIx L (.int 0)).bind fun d => (some ([] : List PyData)).map (d :: ·)).map (PyData.int (j : Nat) :: ·)).bind fun ds => (F_Program_turn (meD P s true) ds).bind fun r => if r.1.w = true then some (_, r.2) else none)).map _ = _
          rw [hx]
          show (((F_Program_turn (meD P s true) [.int (j : Nat), .int (k : Nat)]).bind fun r => if r.1.w = true then some (_, r.2) else none)).map _ = _
          rw [F_turn1 hj (by unfold wd; omega) hw ht2 h1 he]
          rfl
        rw [eB]
        exact leLoop Ar hN hl hw ht2 j (by omega) (I.piv hj (by omega) h1) h
theorem F_leave_help (Ar : SX.Arcs P sg) (hN : P.N ≤ 1000) (hl : P.N ≤ LIM) (hw : wd P ≤ LIM) (ht2 : P.t ≤ 1000) {s' : Tab} (I : SX.Inv P s) (h : lhelp P P.t s = some s') :
    F_Program_leave_help (meD P s true) [] = some (meD P s' true, .none) := by
  obtain ⟨x1, x2, h1⟩ := leLoop Ar hN hl hw ht2 P.t (x1 := none) (x2 := none) (Nat.le_refl _) I h
  have hit : sRngD (bin2 dSub (dLenRows 0) (dC (.int 1))) (dNeg (dC (.int 1))) (leE P s none none true) = some (downL ((P.t : Int) - 1) P.t) := by
    show (if ((((List.range P.t).map (rowD P s)).length : Nat) : Int) - 1 ≤ 1000 ∧ -1000 ≤ ((((List.range P.t).map (rowD P s)).length : Nat) : Int) - 1 ∧ (-(1 : Int)) ≤ 1000 ∧ -1000 ≤ (-(1 : Int)) then some (downL (((((List.range P.t).map (rowD P s)).length : Nat) : Int) - 1) (((((List.range P.t).map (rowD P s)).length : Nat) : Int) - 1 - (-(1 : Int))).toNat) else none) = _
    rw [List.length_map, List.length_range, if_pos ⟨by omega, by omega, by omega, by omega⟩, show (P.t : Int) - 1 - -1 = (P.t : Int) by omega, Int.toNat_natCast]
  refine runMM_of (r := .nx (leE P s' x1 x2 true)) rfl ?_ rfl
  show B_Program_leave_help (leE P s none none true) = _
  rw [B_leave_eq]
  exact sForM_nx hit h1 rfl
/-! ### amounts -/
def amE (P : Prb) (s : Tab) (xs : Nat → Int) (x3 x4 : Option PyData) (bs : Bool) : En := ⟨[none, none, none, x3, x4], some (meD P s false), 0, [(1, (List.range P.N).map fun l => rt (xs l))], bs⟩
def amB : En → Option SR := sIf (bOf (bin2 dLt (dBasAt 0 (dVar 3)) (dMany 0))) (sSetI 1 (dBasAt 0 (dVar 3)) (bin2 dIx (dVar 4) (dNeg (dC (.int 1))))) sSkip
theorem B_amounts_eq : B_Program_amounts = sThen (sOwn 1 (sComp [2] (sRng1 (dMany 0)) (.one 2) bYes (dTup (sCons (dC (.int 0)) (sCons (dC (.int 1)) sNil))))) (sThen (sForM (sEnumRows 0) (.two 3 4) amB) (sRel 1 (sRet (dVar 1)))) := rfl
def am (P : Prb) (s : Tab) (n l : Nat) : Int := SX.sm n fun i => if s.b i = l then be P s i else 0
theorem am_step (I : SX.Inv P s) {i l : Nat} (hi : i < P.t) : am P s (i + 1) l = if l = s.b i then be P s i else am P s i l := by
  show am P s i l + (if s.b i = l then be P s i else 0) = _
  by_cases h : l = s.b i
  · rw [if_pos h, if_pos h.symm]
    have : am P s i l = 0 := by
      unfold am
      refine (SX.sm_congr (g := fun _ => 0) fun r hr => if_neg fun z => ?_).trans (SX.sm_zero i)
      have := SX.two_basic I (by omega) hi (z.trans h)
      omega
    rw [this, Int.zero_add]
  · rw [if_neg h, if_neg (fun z => h z.symm), Int.add_zero]
theorem amB_eq (I : SX.Inv P s) {i : Nat} (hi : i < P.t) :
    amB (amE P s (am P s i) (some (.int (i : Nat))) (some (rowD P s i)) false) = some (.nx (amE P s (am P s (i + 1)) (some (.int (i : Nat))) (some (rowD P s i)) false)) := by
  have c1 : bOf (bin2 dLt (dBasAt 0 (dVar 3)) (dMany 0)) (amE P s (am P s i) (some (.int (i : Nat))) (some (rowD P s i)) false) = some (decide (s.b i < P.N)) := by
    show (((atI (meD P s false).basis (i : Int)).bind fun a => dLt a (.int (P.N : Nat)))).bind asB = _
    rw [bas_at hi, Option.bind_some]
    show some (decide ((s.b i : Int) < (P.N : Int))) = _
    congr 1
    simp
  unfold amB sIf
  rw [c1]
  by_cases hb : s.b i < P.N
  · rw [decide_eq_true hb]
    show sSetI 1 _ _ _ = _
    unfold sSetI
    show ((dIx (rowD P s i) (.int (-1))).bind fun d => ((atI (meD P s false).basis (i : Int)).bind fun k => _)) = _
    rw [last_at, bas_at hi, Option.bind_some, Option.bind_some]
    show (((setL (.int (s.b i : Nat)) (rt (be P s i)) ((List.range P.N).map fun l => rt (am P s i l)))).map _).map _ = _
    have : setL (.int (s.b i : Nat)) (rt (be P s i)) ((List.range P.N).map fun l => rt (am P s i l)) = some ((List.range P.N).map fun l => rt (am P s (i + 1) l)) := by
      unfold setL
      show (ixN ((List.range P.N).map fun l => rt (am P s i l)).length (s.b i : Int)).map _ = _
      rw [List.length_map, List.length_range, ixN_nat hb]
      show some (((List.range P.N).map fun l => rt (am P s i l)).set (s.b i) (rt (be P s i))) = _
      rw [set_range hb]
      congr 1
      refine List.map_congr_left fun x _ => ?_
      rw [am_step I hi]
      by_cases e : x = s.b i
      · rw [if_pos e, if_pos e]
      · rw [if_neg e, if_neg e]
    rw [this]
    rfl
  · rw [decide_eq_false hb]
    show some (SR.nx _) = _
    congr 2
    unfold amE
    congr 3
    refine List.map_congr_left fun x hx => ?_
    have hx := List.mem_range.mp hx
    rw [am_step I hi, if_neg (by omega)]
theorem F_amounts (w : Bool) (I : SX.Inv P s) (hN : P.N ≤ 1000) (hl : P.N ≤ LIM) : F_Program_amounts (meD P s w) [] = some (rowOf P.N (amt P s)) := by
  have a1 : sOwn 1 (sComp [2] (sRng1 (dMany 0)) (.one 2) bYes (dTup (sCons (dC (.int 0)) (sCons (dC (.int 1)) sNil)))) ⟨[none, none, none, none, none], some (meD P s false), 0, [], true⟩ = some (.nx (amE P s (am P s 0) none none true)) := by
    have h := dComp_map (vs := [2]) (it := sRng1 (dMany 0)) (tg := .one 2) (tt := bYes) (el := dTup (sCons (dC (.int 0)) (sCons (dC (.int 1)) sNil))) (ρ := ⟨[none, none, none, none, none], some (meD P s false), 0, [], true⟩) (xs := List.range P.N) (fun i => .int (i : Nat)) (fun i => rt 0) (by
      show (if (P.N : Int) ≤ 1000 ∧ -1000 ≤ (P.N : Int) then some (rangeL 0 (P.N : Int).toNat) else none) = _
      rw [if_pos ⟨by omega, by omega⟩, Int.toNat_natCast]
      unfold rangeL
      congr 1
      exact List.map_congr_left fun i _ => by rw [Int.zero_add]) (by rw [List.length_range]; exact hl) fun i _ => ⟨_, rfl, rfl, rfl⟩
    unfold dComp at h
    obtain ⟨ds, h1, h2⟩ := Option.map_eq_some_iff.mp h
    unfold sOwn
    rw [h1]
    cases h2
    rfl
  obtain ⟨ρ', h1, h2⟩ := forL_inv (tg := .two 3 4) (body := amB) (fun n ρ => n ≤ P.t ∧ ∃ x3 x4, ρ = amE P s (am P s n) x3 x4 false)
    (ds := (List.range P.t).map fun i => .tuple [.int (i : Nat), rowD P s i]) (k := 0) (ρ := amE P s (am P s 0) none none false) ⟨Nat.zero_le _, none, none, rfl⟩ (fun i d ρ hd hI => by
      obtain ⟨_, x3, x4, rfl⟩ := hI
      have hi : i < P.t := by
        have := (List.getElem?_eq_some_iff.mp hd).1
        rwa [List.length_map, List.length_range] at this
      rw [List.getElem?_map, List.getElem?_range hi] at hd
      have hd := Option.some.inj hd
      subst hd
      rw [Nat.zero_add]
      exact ⟨_, _, rfl, amB_eq I hi, hi, _, _, rfl⟩)
  rw [Nat.zero_add, List.length_map, List.length_range] at h2
  obtain ⟨_, x3, x4, rfl⟩ := h2
  have hit : sEnumRows 0 (amE P s (am P s 0) none none true) = some ((List.range P.t).map fun i => .tuple [.int (i : Nat), rowD P s i]) := by
    show some (enumL 0 ((List.range P.t).map (rowD P s))) = _
    rw [enumL_range]
  have a2 : sForM (sEnumRows 0) (.two 3 4) amB (amE P s (am P s 0) none none true) = some (.nx (amE P s (am P s P.t) x3 x4 true)) := sForM_nx hit h1 rfl
  refine runM_of (r := .rt ⟨[none, some (rowOf P.N (amt P s)), none, x3, x4], some (meD P s false), 0, [], true⟩ (rowOf P.N (amt P s))) rfl ?_ rfl
  show B_Program_amounts ⟨[none, none, none, none, none], some (meD P s false), 0, [], true⟩ = _
  rw [B_amounts_eq, sThen_nx a1, sThen_nx a2]
  rfl
/-! ### prices -/
theorem F_prices (w : Bool) (hb : ∀ i, i < P.t → s.b i < P.N + P.t) (hc : ∀ l, l < P.N + P.t → sm (c l) = true) (ht : P.t ≤ LIM) :
    F_Program_prices (meD P s w) [coD P c] = some (rowOf P.t fun j => zc P c s (P.N + j)) := by
  refine runM_of (r := .rt ⟨[none, some (coD P c), none, none], some (meD P s false), 0, [], true⟩ (rowOf P.t fun j => zc P c s (P.N + j))) rfl ?_ rfl
  show (dComp [2, 3] (sEnum (dSigns 0)) (.two 2 3) bYes (dCall F_by (sCons (dVar 3) (sCons (dMeth 0 F_Program_multiplier (sCons (dVar 1) (sCons (bin2 dAdd (dMany 0) (dVar 2)) sNil))) sNil))) ⟨[none, some (coD P c), none, none], some (meD P s false), 0, [], true⟩).map _ = _
  rw [dComp_map (xs := List.range P.t) (fun i => .tuple [.int (i : Nat), rt 1]) (fun i => rt (zc P c s (P.N + i))) ?_ (by rw [List.length_range]; exact ht) fun i hi => ?_]
  · rfl
  · show some (enumL 0 (List.replicate P.t (rt 1))) = _
    rw [← enumL_range (fun _ => rt 1)]
    congr 2
    rw [List.map_const', List.length_range]
  · have hi := List.mem_range.mp hi
    refine ⟨⟨[none, some (coD P c), some (.int (i : Nat)), some (rt 1)], some (meD P s false), 0, [], false⟩, rfl, rfl, ?_⟩
    have hm := F_multiplier (P := P) (s := s) (c := c) (k := P.N + i) false hb hc (by unfold wd; omega) ht
    rw [show (((P.N + i : Nat) : Int)) = (P.N : Int) + (i : Int) by omega] at hm
    show (((F_Program_multiplier (meD P s false) [coD P c, .int ((P.N : Int) + (i : Int))]).bind fun d => (some ([] : List PyData)).map (d :: ·)).map (rt 1 :: ·)).bind F_by = _
    rw [hm]
    show F_by [rt 1, rt _] = _
    rw [F_by1 _ _ sm1, Int.one_mul]
end
end CD
end
section
set_option maxHeartbeats 1000000
namespace CD
open PySem PySem.Spec PyProof.Rows L2 DL
open SX (Prb Tab zc be piv firstN lhelp amt st0)
def rowsD (P : Prb) : PyData := .list ((List.range P.t).map fun r => rowOf P.N (P.A r))
def goalsD (P : Prb) : PyData := .list ((List.range P.t).map fun r => rt (P.A r (P.N + P.t)))
def inE (P : Prb) (n : Nat) (x4 x5 x6 : Option PyData) (bs : Bool) : En := ⟨[none, some (rowsD P), some (goalsD P), none, x4, x5, x6, none, none], some ⟨.int P.N, List.replicate P.t (rt 1), (List.range n).map (rowD P (st0 P)), (List.range n).map (basD (st0 P)), true⟩, 0, [], bs⟩
def in6 : En → Option PyData := dComp [7] (sRng1 (dFun fLen (dVar 1))) (.one 7) bYes (dIf (bOf (bin2 dEq (dVar 7) (dVar 4))) (dTup (sCons (dC (.int 1)) (sCons (dC (.int 1)) sNil))) (dTup (sCons (dC (.int 0)) (sCons (dC (.int 1)) sNil))))
def in8 : En → Option PyData := dComp [8] (sSeq (dVar 5)) (.one 8) bYes (dCall F_by (sCons (dVar 8) (sCons (bin2 dIx (dSigns 0) (dVar 4)) sNil)))
def in9 : En → Option PyData := dLst (sCons (dCall F_by (sCons (bin2 dIx (dVar 2) (dVar 4)) (sCons (bin2 dIx (dSigns 0) (dVar 4)) sNil))) sNil)
def inB : En → Option SR := sThen (sSet 6 in6) (sThen (sAppR 0 (bin2 dAdd (bin2 dAdd in8 (dVar 6)) in9)) (sAppB 0 (bin2 dAdd (dMany 0) (dVar 4))))
theorem I_loop_eq : I_loop = sForM (sEnum (dVar 1)) (.two 4 5) inB := rfl
section
variable {P : Prb}
theorem sgn_at {n j : Nat} {x : PyData} (h : j < n) : dIx (.list (List.replicate n x)) (.int (j : Nat)) = some x := by
  show atI (List.replicate n x) (j : Int) = _
  rw [DL.atI_nat, List.getElem?_replicate_of_lt h]
theorem dRng1 {ρ : En} {f : En → Option PyData} {n : Nat} (h : f ρ = some (.int (n : Nat))) (hn : n ≤ 1000) : sRng1 f ρ = some ((List.range n).map fun i => PyData.int (i : Nat)) := by
  unfold sRng1
  rw [h]
  show (if (n : Int) ≤ 1000 ∧ -1000 ≤ (n : Int) then some (rangeL 0 (n : Int).toNat) else none) = _
  rw [if_pos ⟨by omega, by omega⟩, Int.toNat_natCast]
  unfold rangeL
  congr 1
  exact List.map_congr_left fun i _ => by rw [Int.zero_add]
theorem row0 {r : Nat} (hr : r < P.t) : ((List.range P.N).map fun l => rt (P.A r l)) ++ ((List.range P.t).map fun x => if x = r then rt 1 else rt 0) ++ [rt (P.A r (P.N + P.t))] = (List.range (wd P)).map fun l => rt (P.A r l) := by
  unfold wd
  rw [List.range_succ, List.map_append, List.range_add, List.map_append, List.map_map]
  congr 2
  refine List.map_congr_left fun x hx => ?_
  have hx := List.mem_range.mp hx
  show _ = rt (P.A r (P.N + x))
  rw [P.help r x hr hx]
  by_cases e : x = r
  · rw [if_pos e, if_pos e.symm]
  · rw [if_neg e, if_neg (fun z => e z.symm)]
theorem in6_eq {i : Nat} {x5 x6 : Option PyData} (ht : P.t ≤ 1000) : in6 (inE P i (some (.int (i : Nat))) x5 x6 false) = some (.list ((List.range P.t).map fun x => if x = i then rt 1 else rt 0)) := by
  unfold in6
  refine dComp_map (xs := List.range P.t) (fun i => .int (i : Nat)) _ (dRng1 ?_ ht) (by rw [List.length_range]; exact ht) fun x hx => ?_
  · show some (PyData.int ((((List.range P.t).map fun r => rowOf P.N (P.A r)).length : Nat) : Int)) = _
    rw [List.length_map, List.length_range]
  · refine ⟨_, rfl, rfl, ?_⟩
    show ((dEq (.int (x : Nat)) (.int (i : Nat))).bind asB).bind _ = _
    rw [dEq_int]
    by_cases e : x = i
    · rw [if_pos e, decide_eq_true (by omega)]
      rfl
    · rw [if_neg e, decide_eq_false (by omega)]
      rfl
theorem in8_eq {i : Nat} {x6 : Option PyData} (hi : i < P.t) (hl : P.N ≤ LIM) : in8 (inE P i (some (.int (i : Nat))) (some (rowOf P.N (P.A i))) x6 false) = some (.list ((List.range P.N).map fun l => rt (P.A i l))) := by
  unfold in8
  refine dComp_map (xs := List.range P.N) (fun l => rt (P.A i l)) _ rfl (by rw [List.length_range]; exact hl) fun l _ => ⟨_, rfl, rfl, ?_⟩
  show (((dIx (.list (List.replicate P.t (rt 1))) (.int (i : Nat))).bind fun d => (some ([] : List PyData)).map (d :: ·)).map (rt (P.A i l) :: ·)).bind F_by = _
  rw [sgn_at hi]
  show F_by [rt (P.A i l), rt 1] = _
  rw [F_by2 _ _ sm1, Int.mul_one]
theorem in9_eq {i : Nat} {x5 x6 : Option PyData} (hi : i < P.t) : in9 (inE P i (some (.int (i : Nat))) x5 x6 false) = some (.list [rt (P.A i (P.N + P.t))]) := by
  have h1 : dIx (goalsD P) (.int (i : Nat)) = some (rt (P.A i (P.N + P.t))) := by
    show atI ((List.range P.t).map fun r => rt (P.A r (P.N + P.t))) (i : Int) = _
    rw [DL.atI_nat, List.getElem?_map, List.getElem?_range hi]
    rfl
  have h2 : dCall F_by (sCons (bin2 dIx (dVar 2) (dVar 4)) (sCons (bin2 dIx (dSigns 0) (dVar 4)) sNil)) (inE P i (some (.int (i : Nat))) x5 x6 false) = some (rt (P.A i (P.N + P.t))) := by
    show (((dIx (goalsD P) (.int (i : Nat))).bind fun d => (((dIx (.list (List.replicate P.t (rt 1))) (.int (i : Nat))).bind fun d => (some ([] : List PyData)).map (d :: ·))).map (d :: ·))).bind F_by = _
    rw [h1, sgn_at hi]
    show F_by [rt _, rt 1] = _
    rw [F_by2 _ _ sm1, Int.mul_one]
  show (((dCall F_by (sCons (bin2 dIx (dVar 2) (dVar 4)) (sCons (bin2 dIx (dSigns 0) (dVar 4)) sNil)) (inE P i (some (.int (i : Nat))) x5 x6 false)).bind fun d => (some ([] : List PyData)).map (d :: ·)).bind fun ds => if ds.length ≤ LIM then some (PyData.list ds) else none) = _
  rw [h2]
  rfl
theorem inB_eq {i : Nat} {x6 : Option PyData} (hi : i < P.t) (hw : wd P ≤ 1000) :
    inB (inE P i (some (.int (i : Nat))) (some (rowOf P.N (P.A i))) x6 false) = some (.nx (inE P (i + 1) (some (.int (i : Nat))) (some (rowOf P.N (P.A i))) (some (.list ((List.range P.t).map fun x => if x = i then rt 1 else rt 0))) false)) := by
  have hw' : P.N + P.t + 1 ≤ 1000 := hw
  have hL : LIM = 1000 := rfl
  let h6 : PyData := .list ((List.range P.t).map fun x => if x = i then rt 1 else rt 0)
  have a1 : sSet 6 in6 (inE P i (some (.int (i : Nat))) (some (rowOf P.N (P.A i))) x6 false) = some (.nx (inE P i (some (.int (i : Nat))) (some (rowOf P.N (P.A i))) (some h6) false)) := by
    unfold sSet
    rw [in6_eq (by omega)]
    rfl
  have a2 : bin2 dAdd (bin2 dAdd in8 (dVar 6)) in9 (inE P i (some (.int (i : Nat))) (some (rowOf P.N (P.A i))) (some h6) false) = some (rowD P (st0 P) i) := by
    show ((in8 (inE P i (some (.int (i : Nat))) (some (rowOf P.N (P.A i))) (some h6) false)).bind fun a => (some h6).bind fun b => dAdd a b).bind (fun a => (in9 (inE P i (some (.int (i : Nat))) (some (rowOf P.N (P.A i))) (some h6) false)).bind fun b => dAdd a b) = _
    rw [in8_eq hi (by omega), in9_eq hi]
    show (dAdd (.list ((List.range P.N).map fun l => rt (P.A i l))) h6).bind _ = _
    have e1 : dAdd (.list ((List.range P.N).map fun l => rt (P.A i l))) h6 = some (.list (((List.range P.N).map fun l => rt (P.A i l)) ++ ((List.range P.t).map fun x => if x = i then rt 1 else rt 0))) := by
      show (if _ ≤ LIM then _ else _) = _
      rw [if_pos (by rw [List.length_map, List.length_map, List.length_range, List.length_range]; omega)]
    rw [e1, Option.bind_some]
    show dAdd (.list (((List.range P.N).map fun l => rt (P.A i l)) ++ ((List.range P.t).map fun x => if x = i then rt 1 else rt 0))) (.list [rt (P.A i (P.N + P.t))]) = _
    show (if _ ≤ LIM then _ else _) = _
    rw [if_pos (by rw [List.length_append, List.length_map, List.length_map, List.length_range, List.length_range]; show P.N + P.t + 1 ≤ LIM; omega), row0 hi]
    rfl
  have a3 : sAppR 0 (bin2 dAdd (bin2 dAdd in8 (dVar 6)) in9) (inE P i (some (.int (i : Nat))) (some (rowOf P.N (P.A i))) (some h6) false) = some (.nx ⟨[none, some (rowsD P), some (goalsD P), none, some (.int (i : Nat)), some (rowOf P.N (P.A i)), some h6, none, none], some ⟨.int P.N, List.replicate P.t (rt 1), (List.range (i + 1)).map (rowD P (st0 P)), (List.range i).map (basD (st0 P)), true⟩, 0, [], false⟩) := by
    unfold sAppR
    rw [a2, Option.bind_some]
    show ((appL (rowD P (st0 P) i) ((List.range i).map (rowD P (st0 P)))).map _).map _ = _
    unfold appL
    rw [if_pos (by rw [List.length_map, List.length_range]; omega), List.range_succ, List.map_append]
    rfl
  unfold inB
  rw [sThen_nx a1, sThen_nx a3]
  unfold sAppB
  show ((appL (.int ((P.N : Int) + (i : Int))) ((List.range i).map (basD (st0 P)))).map _).map _ = _
  unfold appL
  rw [if_pos (by rw [List.length_map, List.length_range]; omega)]
  unfold inE
  rw [List.range_succ, List.map_append, List.map_append]
  rfl
theorem F_init_eq (ht : 1 ≤ P.t) (hw : wd P ≤ 1000) (g0 : ∀ r, r < P.t → 0 ≤ P.A r (P.N + P.t)) : F_init [rowsD P, goalsD P] = some (meD P (st0 P) true) := by
  have hw' : P.N + P.t + 1 ≤ 1000 := hw
  have hL : LIM = 1000 := rfl
  have h1 : I_many (startE 9 none [none] [rowsD P, goalsD P]) = some (.int P.N) := by
    show ((atI ((List.range P.t).map fun r => rowOf P.N (P.A r)) ((0 : Nat) : Int))).bind fLen = _
    rw [DL.atI_nat, List.getElem?_map, List.getElem?_range (by omega)]
    show some (PyData.int ((((List.range P.N).map fun l => rt (P.A 0 l)).length : Nat) : Int)) = _
    rw [List.length_map, List.length_range]
  have h2 : I_signs (startE 9 none [none] [rowsD P, goalsD P]) = some (.list (List.replicate P.t (rt 1))) := by
    unfold I_signs
    rw [dComp_map (xs := List.range P.t) (fun r => rt (P.A r (P.N + P.t))) (fun _ => rt 1) rfl (by rw [List.length_range]; omega) fun r hr => ⟨_, rfl, rfl, ?_⟩]
    · rw [List.map_const', List.length_range]
    · have := g0 r (List.mem_range.mp hr)
      show (some (decide (P.A r (P.N + P.t) < 0))).bind _ = _
      rw [decide_eq_false (by omega)]
      rfl
  obtain ⟨ρ', h3, h4⟩ := forL_inv (tg := .two 4 5) (body := inB) (fun n ρ => n ≤ P.t ∧ ∃ x4 x5 x6, ρ = inE P n x4 x5 x6 false)
    (ds := (List.range P.t).map fun i => .tuple [.int (i : Nat), rowOf P.N (P.A i)]) (k := 0) (ρ := inE P 0 none none none false) ⟨Nat.zero_le _, none, none, none, rfl⟩ (fun i d ρ hd hI => by
      obtain ⟨_, x4, x5, x6, rfl⟩ := hI
      have hi : i < P.t := by
        have := (List.getElem?_eq_some_iff.mp hd).1
        rwa [List.length_map, List.length_range] at this
      rw [List.getElem?_map, List.getElem?_range hi] at hd
      have hd := Option.some.inj hd
      subst hd
      rw [Nat.zero_add]
      exact ⟨_, _, rfl, inB_eq hi hw, hi, _, _, _, rfl⟩)
  rw [Nat.zero_add, List.length_map, List.length_range] at h4
  obtain ⟨_, x4, x5, x6, rfl⟩ := h4
  have hit : sEnum (dVar 1) (inE P 0 none none none true) = some ((List.range P.t).map fun i => .tuple [.int (i : Nat), rowOf P.N (P.A i)]) := by
    show some (enumL 0 ((List.range P.t).map fun r => rowOf P.N (P.A r))) = _
    rw [enumL_range]
  have h5 : I_loop (inE P 0 none none none true) = some (.nx (inE P P.t x4 x5 x6 true)) := by
    rw [I_loop_eq]
    exact sForM_nx hit h3 rfl
  unfold F_init
  rw [if_pos (show [rowsD P, goalsD P].length = 2 from rfl), h1, Option.bind_some, h2, Option.bind_some]
  show (I_loop (inE P 0 none none none true)).bind endI = _
  rw [h5]
  rfl
end
end CD
end
section
set_option maxHeartbeats 1000000
namespace CD
open PySem PySem.Spec PyProof.Rows L2 DL
open SX (Prb Tab zc be piv firstN lhelp amt st0 climbS c1 gs)
def soE (P : Prb) (c : Nat → Int) (s : Tab) (x4 x7 : Option PyData) : En := ⟨[some (rowsD P), some (goalsD P), some (rowOf P.N c), none, x4, none, none, x7], some (meD P s true), 3, [], true⟩
def so1 : En → Option SR := sSet 4 (bin2 dAdd (dComp [5] (sSeq (dVar 2)) (.one 5) bYes (dTup (sCons (dC (.int 0)) (sCons (dC (.int 1)) sNil)))) (dComp [6] (sSeq (dVar 0)) (.one 6) bYes (dTup (sCons (dNeg (dC (.int 1))) (sCons (dC (.int 1)) sNil)))))
def so2 : En → Option SR := sCallM 3 F_Program_climb (sCons (dVar 4) (sCons (dMany 3) sNil))
def so3 : En → Option SR := sIf (bOf (bin2 dLt (bin2 dIx (dMeth 3 F_Program_multiplier (sCons (dVar 4) (sCons (bin2 dAdd (dMany 3) (dFun fLen (dVar 0))) sNil))) (dC (.int 0))) (dC (.int 0)))) (sRet (dTup (sCons (dC (.str "none")) (sCons (dMeth 3 F_Program_prices (sCons (dVar 4) sNil)) sNil)))) sSkip
def so4 : En → Option SR := sCallM 3 F_Program_leave_help sNil
def so5 : En → Option SR := sSet 7 (bin2 dAdd (dFun fList (dVar 2)) (dComp [6] (sSeq (dVar 0)) (.one 6) bYes (dTup (sCons (dC (.int 0)) (sCons (dC (.int 1)) sNil)))))
def so6 : En → Option SR := sIfNotM 3 F_Program_climb (sCons (dVar 7) (sCons (dMany 3) sNil)) (sRet (dTup (sCons (dC (.str "free")) sNil))) sSkip
def so7 : En → Option SR := sRet (dTup (sCons (dC (.str "best")) (sCons (dMeth 3 F_Program_amounts sNil) (sCons (dMeth 3 F_Program_prices (sCons (dVar 7) sNil)) sNil))))
theorem B_solved_eq : B_solved = sThen so1 (sThen so2 (sThen so3 (sThen so4 (sThen so5 (sThen so6 so7))))) := rfl
section
variable {P : Prb} {c : Nat → Int} {s : Tab}
theorem row_split {c f g : Nat → Int} (h1 : ∀ l, l < P.N → c l = f l) (h2 : ∀ j, j < P.t → c (P.N + j) = g j) : ((List.range P.N).map fun l => rt (f l)) ++ ((List.range P.t).map fun j => rt (g j)) = (List.range (P.N + P.t)).map fun l => rt (c l) := by
  rw [List.range_add, List.map_append, List.map_map]
  congr 1
  · exact List.map_congr_left fun l hl => by rw [h1 l (List.mem_range.mp hl)]
  · refine List.map_congr_left fun j hj => ?_
    show _ = rt (c (P.N + j))
    rw [h2 j (List.mem_range.mp hj)]
theorem dAdd_list {xs ys : List PyData} (h : xs.length + ys.length ≤ LIM) : dAdd (.list xs) (.list ys) = some (.list (xs ++ ys)) := by
  show (if xs.length + ys.length ≤ LIM then _ else _) = _
  rw [if_pos h]
theorem so1_eq (hw : wd P ≤ 1000) : so1 (soE P c s none none) = some (.nx (soE P c s (some (coD P (c1 P))) none)) := by
  have hw' : P.N + P.t + 1 ≤ 1000 := hw
  have hL : LIM = 1000 := rfl
  have h1 : dComp [5] (sSeq (dVar 2)) (.one 5) bYes (dTup (sCons (dC (.int 0)) (sCons (dC (.int 1)) sNil))) (soE P c s none none) = some (.list ((List.range P.N).map fun l => rt 0)) :=
    dComp_map (xs := List.range P.N) (fun l => rt (c l)) (fun _ => rt 0) rfl (by rw [List.length_range]; omega) fun l _ => ⟨_, rfl, rfl, rfl⟩
  have h2 : dComp [6] (sSeq (dVar 0)) (.one 6) bYes (dTup (sCons (dNeg (dC (.int 1))) (sCons (dC (.int 1)) sNil))) (soE P c s none none) = some (.list ((List.range P.t).map fun l => rt (-1))) :=
    dComp_map (xs := List.range P.t) (fun r => rowOf P.N (P.A r)) (fun _ => rt (-1)) rfl (by rw [List.length_range]; omega) fun l _ => ⟨_, rfl, rfl, rfl⟩
  unfold so1 sSet bin2
  rw [h1, Option.bind_some, h2, Option.bind_some, dAdd_list (by rw [List.length_map, List.length_map, List.length_range, List.length_range]; omega), Option.bind_some]
  rw [row_split (P := P) (c := c1 P) (f := fun _ => 0) (g := fun _ => -1) (fun l hl => by unfold c1; rw [if_pos hl]) fun j hj => by unfold c1; rw [if_neg (by omega)]]
  rfl
theorem so5_eq {x4 : Option PyData} (hw : wd P ≤ 1000) (hc0 : ∀ l, P.N ≤ l → c l = 0) : so5 (soE P c s x4 none) = some (.nx (soE P c s x4 (some (coD P c)))) := by
  have hw' : P.N + P.t + 1 ≤ 1000 := hw
  have hL : LIM = 1000 := rfl
  have h1 : dFun fList (dVar 2) (soE P c s x4 none) = some (.list ((List.range P.N).map fun l => rt (c l))) := rfl
  have h2 : dComp [6] (sSeq (dVar 0)) (.one 6) bYes (dTup (sCons (dC (.int 0)) (sCons (dC (.int 1)) sNil))) (soE P c s x4 none) = some (.list ((List.range P.t).map fun l => rt 0)) :=
    dComp_map (xs := List.range P.t) (fun r => rowOf P.N (P.A r)) (fun _ => rt 0) rfl (by rw [List.length_range]; omega) fun l _ => ⟨_, rfl, rfl, rfl⟩
  unfold so5 sSet bin2
  rw [h1, Option.bind_some, h2, Option.bind_some, dAdd_list (by rw [List.length_map, List.length_map, List.length_range, List.length_range]; omega), Option.bind_some]
  rw [row_split (P := P) (c := c) (f := c) (g := fun _ => 0) (fun l hl => rfl) fun j hj => hc0 _ (by omega)]
  rfl
theorem callM3 {M : SelfD → List PyData → Option (SelfD × PyData)} {fs : En → Option (List PyData)} {ds : List PyData} {s' : Tab} {d : PyData} {x4 x7 : Option PyData} (h1 : fs (soE P c s x4 x7) = some ds) (h2 : M (meD P s true) ds = some (meD P s' true, d)) :
    callM 3 M fs (soE P c s x4 x7) = some (soE P c s' x4 x7, d) := by
  unfold callM
  show ((fs (soE P c s x4 x7)).bind fun ds => (M (meD P s true) ds).bind fun r => if r.1.w = true then some (_, r.2) else none) = _
  rw [h1, Option.bind_some, h2]
  rfl
theorem F_solved_eq {sg : Nat → Int} (N : SX.Nice P sg) (cn : ∀ l, c l ≤ 0) (cl : ∀ l, -1 ≤ c l) (hc0 : ∀ l, P.N ≤ l → c l = 0) (ht : 1 ≤ P.t) (hw : wd P ≤ 1000) (hf : (P.t * gs P + gs P + 1) * 2 ^ (P.N + P.t) ≤ FUEL) :
    ∃ s, F_solved [rowsD P, goalsD P, rowOf P.N c] = some (.tuple [.str "best", rowOf P.N (amt P s), rowOf P.t fun j => zc P c s (P.N + j)]) ∧ SX.Inv P s ∧ SX.Fea P s ∧ (∀ i, i < P.t → s.b i < P.N) ∧ ∀ k, k < P.N → c k ≤ zc P c s k := by
  have hw' : P.N + P.t + 1 ≤ 1000 := hw
  have hL : LIM = 1000 := rfl
  obtain ⟨s1, s2, s3, e1, e2, I1, e3, e4, I2, I3, F3, b3, o3⟩ := SX.solve N (fun l _ => cn l) (fun l _ => cl l) hf
  refine ⟨s3, ?_, I3, F3, b3, o3⟩
  have sm1' : ∀ l, sm (c1 P l) = true := fun l => by
    unfold c1
    split <;> decide
  have smc : ∀ l, sm (c l) = true := fun l => by
    have h1 := cn l
    have h2 := cl l
    rcases (by omega : c l = 0 ∨ c l = -1) with h | h <;> rw [h] <;> decide
  have I0 := SX.inv0 P
  have a1 : so1 (soE P c (st0 P) none none) = some (.nx (soE P c (st0 P) (some (coD P (c1 P))) none)) := so1_eq hw
  have a2 : so2 (soE P c (st0 P) (some (coD P (c1 P))) none) = some (.nx (soE P c s1 (some (coD P (c1 P))) none)) := by
    unfold so2 sCallM
    rw [callM3 (ds := [coD P (c1 P), .int P.N]) rfl (F_climb N.arcs (fun l _ => sm1' l) (by omega) (by omega) (by rw [hL]; exact hw) (by omega) I0 e1)]
    rfl
  have a3 : so3 (soE P c s1 (some (coD P (c1 P))) none) = some (.nx (soE P c s1 (some (coD P (c1 P))) none)) := by
    have hm := F_multiplier (P := P) (s := s1) (c := c1 P) (k := P.N + P.t) true I1.bl (fun l _ => sm1' l) (by unfold wd; omega) (by omega)
    have hz : zc P (c1 P) s1 (P.N + P.t) = 0 := e2
    rw [hz] at hm
    have hn : dFun fLen (dVar 0) (soE P c s1 (some (coD P (c1 P))) none) = some (.int (P.t : Nat)) := by
      show some (PyData.int ((((List.range P.t).map fun r => rowOf P.N (P.A r)).length : Nat) : Int)) = _
      rw [List.length_map, List.length_range]
    have ht : bOf (bin2 dLt (bin2 dIx (dMeth 3 F_Program_multiplier (sCons (dVar 4) (sCons (bin2 dAdd (dMany 3) (dFun fLen (dVar 0))) sNil))) (dC (.int 0))) (dC (.int 0))) (soE P c s1 (some (coD P (c1 P))) none) = some false := by
      show ((((((((dFun fLen (dVar 0) (soE P c s1 (some (coD P (c1 P))) none)).bind fun b => dAdd (.int P.N) b).bind fun d => (some ([] : List PyData)).map (d :: ·)).map (coD P (c1 P) :: ·)).bind fun ds => F_Program_multiplier (meD P s1 true) ds).bind fun a => dIx a (.int 0)).bind fun a => dLt a (.int 0))).bind asB = _
      rw [hn]
      show ((((F_Program_multiplier (meD P s1 true) [coD P (c1 P), .int ((P.N : Int) + (P.t : Int))]).bind fun a => dIx a (.int 0)).bind fun a => dLt a (.int 0))).bind asB = _
      rw [show (P.N : Int) + (P.t : Int) = ((P.N + P.t : Nat) : Int) by omega, hm]
      rfl
    unfold so3 sIf
    rw [ht]
    rfl
  have a4 : so4 (soE P c s1 (some (coD P (c1 P))) none) = some (.nx (soE P c s2 (some (coD P (c1 P))) none)) := by
    unfold so4 sCallM
    rw [callM3 (ds := []) rfl (F_leave_help N.arcs (by omega) (by omega) (by rw [hL]; exact hw) (by omega) I1 e3)]
    rfl
  have a5 : so5 (soE P c s2 (some (coD P (c1 P))) none) = some (.nx (soE P c s2 (some (coD P (c1 P))) (some (coD P c)))) := so5_eq hw hc0
  have a6 : so6 (soE P c s2 (some (coD P (c1 P))) (some (coD P c))) = some (.nx (soE P c s3 (some (coD P (c1 P))) (some (coD P c)))) := by
    unfold so6 sIfNotM
    rw [callM3 (ds := [coD P c, .int P.N]) rfl (F_climb N.arcs (fun l _ => smc l) (by omega) (by omega) (by rw [hL]; exact hw) (by omega) I2 e4)]
    rfl
  have a7 : so7 (soE P c s3 (some (coD P (c1 P))) (some (coD P c))) = some (.rt (soE P c s3 (some (coD P (c1 P))) (some (coD P c))) (.tuple [.str "best", rowOf P.N (amt P s3), rowOf P.t fun j => zc P c s3 (P.N + j)])) := by
    unfold so7 sRet
    show (((((F_Program_amounts (meD P s3 true) []).bind fun d => ((F_Program_prices (meD P s3 true) [coD P c]).bind fun d => (some ([] : List PyData)).map (d :: ·)).map (d :: ·))).map (PyData.str "best" :: ·)).bind fun ds => if ds.length ≤ LIM then some (PyData.tuple ds) else none).map _ = _
    rw [F_amounts true I3 (by omega) (by omega), F_prices true I3.bl (fun l _ => smc l) (by omega)]
    rfl
  unfold F_solved
  show (F_init [rowsD P, goalsD P]).bind _ = _
  rw [F_init_eq ht hw N.g0, Option.bind_some]
  show (B_solved (soE P c (st0 P) none none)).bind resD = _
  rw [B_solved_eq, sThen_nx a1, sThen_nx a2, sThen_nx a3, sThen_nx a4, sThen_nx a5, sThen_nx a6, a7]
  rfl
end
end CD
end
section
set_option maxHeartbeats 1000000
namespace CD
open PySem PySem.Spec PyProof.Rows L2 DL
/-! ### charts by functions -/
/-- ch r: the chief of person r + 1, 0 if none -/
structure Fo (n : Nat) (ch rk : Nat → Nat) : Prop where
  le : ∀ r, r < n → ch r ≤ n
  rn : ∀ r, r < n → rk r < n
  dn : ∀ r, r < n → ch r = 0 ∨ rk (ch r - 1) < rk r
def natD (n : Nat) (f : Nat → Nat) : List PyData := (List.range n).map fun r => .int (f r : Nat)
def chD (n : Nat) (ch : Nat → Nat) : PyData := .tuple (natD n ch)
theorem natD_len {n : Nat} {f : Nat → Nat} : (natD n f).length = n := by unfold natD; simp
theorem natD_at {n r : Nat} {f : Nat → Nat} (h : r < n) : atI (natD n f) (r : Int) = some (.int (f r : Nat)) := by
  rw [DL.atI_nat]
  unfold natD
  rw [List.getElem?_map, List.getElem?_range h]
  rfl
theorem chD_ix {n r : Nat} {f : Nat → Nat} (h : r < n) : dIx (chD n f) (.int (r : Nat)) = some (.int (f r : Nat)) := natD_at h
theorem chD_ix1 {n r : Nat} {f : Nat → Nat} (h : r < n) : dIx (chD n f) (.int ((1 : Int) + (r : Nat) - 1)) = some (.int (f r : Nat)) := by
  rw [show (1 : Int) + (r : Nat) - 1 = (r : Int) by omega]
  exact natD_at h
theorem chD_len {n : Nat} {f : Nat → Nat} {ρ : En} {i : Nat} (h : dVar i ρ = some (chD n f)) : dFun fLen (dVar i) ρ = some (.int (n : Nat)) := by
  unfold dFun
  rw [h]
  show some (PyData.int ((natD n f).length : Nat)) = _
  rw [natD_len]
theorem dRng2 {ρ : En} {f : En → Option PyData} {n : Nat} (h : f ρ = some (.int (n : Nat))) (hn : n ≤ 999) : sRng2 (dC (.int 1)) (bin2 dAdd f (dC (.int 1))) ρ = some ((List.range n).map fun i => PyData.int ((1 : Int) + (i : Nat))) := by
  unfold sRng2 bin2
  rw [h]
  show (if (1 : Int) ≤ 1000 ∧ -1000 ≤ (1 : Int) ∧ (n : Int) + 1 ≤ 1000 ∧ -1000 ≤ (n : Int) + 1 then some (rangeL 1 ((n : Int) + 1 - 1).toNat) else none) = _
  rw [if_pos ⟨by omega, by omega, by omega, by omega⟩, show (n : Int) + 1 - 1 = (n : Int) by omega, Int.toNat_natCast]
  rfl
theorem F_is_in1 (v a b : Int) : F_is_in [.int v, .int a, .int b] = some (.bool (decide (a ≤ v) && decide (v ≤ b))) := by
  refine runD_of (r := .rt ⟨[some (.int v), some (.int a), some (.int b)], none, 0, [], true⟩ (.bool (decide (a ≤ v) && decide (v ≤ b)))) rfl ?_ rfl
  have h : dChain dLe dLe (dVar 1) (dVar 0) (dVar 2) ⟨[some (.int v), some (.int a), some (.int b)], none, 0, [], true⟩ = some (.bool (decide (a ≤ v) && decide (v ≤ b))) := by
    show (if decide (a ≤ v) = true then some (PyData.bool (decide (v ≤ b))) else some (.bool false)) = _
    cases decide (a ≤ v) <;> rfl
  show ((dChain dLe dLe (dVar 1) (dVar 0) (dVar 2) ⟨[some (.int v), some (.int a), some (.int b)], none, 0, [], true⟩)).map _ = _
  rw [h]
  rfl
section
variable {n : Nat} {ch rk : Nat → Nat}
def cuE (n : Nat) (ch : Nat → Nat) (x1 x2 x3 : Option PyData) (bs : Bool) : En := ⟨[some (chD n ch), x1, x2, x3], none, 0, [], bs⟩
def cuT : En → Option Bool := bAnd (bOf (bin2 dNe (dVar 2) (dC (.int 0)))) (bOf (bin2 dLe (dVar 3) (dFun fLen (dVar 0))))
def cuW : En → Option SR := sPar 2 3 (sCons (bin2 dIx (dVar 0) (bin2 dSub (dVar 2) (dC (.int 1)))) (sCons (bin2 dAdd (dVar 3) (dC (.int 1))) sNil))
def cuB : En → Option SR := sThen (sPar 2 3 (sCons (dVar 1) (sCons (dC (.int 0)) sNil))) (sThen (whileL cuT cuW 1267650600228229401496703205376) (sIf (bOf (bin2 dNe (dVar 2) (dC (.int 0)))) (sRet (dC (.bool false))) sSkip))
theorem B_comes_eq : B_comes_up = sThen (sFor (sRng2 (dC (.int 1)) (bin2 dAdd (dFun fLen (dVar 0)) (dC (.int 1)))) (.one 1) cuB) (sRet (dC (.bool true))) := rfl
theorem cuT_eq {x1 : Option PyData} {h m : Nat} {bs : Bool} (hm : m ≤ n) : cuT (cuE n ch x1 (some (.int (h : Nat))) (some (.int (m : Nat))) bs) = some (!decide (h = 0)) := by
  have h1 : bOf (bin2 dNe (dVar 2) (dC (.int 0))) (cuE n ch x1 (some (.int (h : Nat))) (some (.int (m : Nat))) bs) = some (!decide (h = 0)) := by
    show (dNe (.int (h : Nat)) (.int 0)).bind asB = _
    rw [dNe_int]
    show some (!decide ((h : Int) = 0)) = _
    congr 2
    simp
  have h2 : bOf (bin2 dLe (dVar 3) (dFun fLen (dVar 0))) (cuE n ch x1 (some (.int (h : Nat))) (some (.int (m : Nat))) bs) = some true := by
    unfold bOf bin2
    rw [chD_len (n := n) (f := ch) rfl]
    show some (decide ((m : Int) ≤ (n : Int))) = _
    rw [decide_eq_true (by omega)]
  unfold cuT bAnd
  rw [h1, h2]
  cases decide (h = 0) <;> rfl
theorem cuLoop (F : Fo n ch rk) {x1 : Option PyData} {bs : Bool} : ∀ (k h m f : Nat), h ≤ n → (h = 0 ∨ rk (h - 1) < k) → m + k ≤ n → k < f → ∃ m' : Nat, whileL cuT cuW f (cuE n ch x1 (some (.int (h : Nat))) (some (.int (m : Nat))) bs) = some (.nx (cuE n ch x1 (some (.int 0)) (some (.int (m' : Nat))) bs))
  | k, h, m, 0, _, _, _, hf => by omega
  | k, h, m, f + 1, hn, hr, hm, hf => by
    have e0 : whileL cuT cuW (f + 1) (cuE n ch x1 (some (.int (h : Nat))) (some (.int (m : Nat))) bs) = (cuT (cuE n ch x1 (some (.int (h : Nat))) (some (.int (m : Nat))) bs)).bind fun c => if c = true then (cuW (cuE n ch x1 (some (.int (h : Nat))) (some (.int (m : Nat))) bs)).bind fun r => thenE r (whileL cuT cuW f) else some (.nx (cuE n ch x1 (some (.int (h : Nat))) (some (.int (m : Nat))) bs)) := rfl
    rw [e0, cuT_eq (by omega)]
    by_cases h0 : h = 0
    · subst h0
      exact ⟨m, rfl⟩
    · rw [decide_eq_false h0]
      have hk : rk (h - 1) < k := by rcases hr with z | z; exact absurd z h0; exact z
      have hh : h - 1 < n := by omega
      have e1 : cuW (cuE n ch x1 (some (.int (h : Nat))) (some (.int (m : Nat))) bs) = some (.nx (cuE n ch x1 (some (.int (ch (h - 1) : Nat))) (some (.int ((m + 1 : Nat) : Int))) bs)) := by
        unfold cuW sPar
        show (((dIx (chD n ch) (.int ((h : Int) - 1))).bind fun d => (some [PyData.int ((m : Int) + 1)]).map (d :: ·))).bind _ = _
        rw [show (h : Int) - 1 = ((h - 1 : Nat) : Int) by omega, chD_ix hh]
        rfl
      have ih := cuLoop F (x1 := x1) (bs := bs) (k - 1) (ch (h - 1)) (m + 1) f (F.le _ hh) (by rcases F.dn _ hh with z | z; exact .inl z; exact .inr (by omega)) (by omega) (by omega)
      obtain ⟨m', ih⟩ := ih
      refine ⟨m', ?_⟩
      show (cuW _).bind _ = _
      rw [e1]
      exact ih
theorem F_comes_up1 (F : Fo n ch rk) (hn : n ≤ 999) : F_comes_up [chD n ch] = some (.bool true) := by
  obtain ⟨ρ', h1, h2⟩ := forL_inv (tg := .one 1) (body := cuB) (fun i ρ => ∃ x1 x2 x3, ρ = cuE n ch x1 x2 x3 false) (ds := (List.range n).map fun i => PyData.int ((1 : Int) + (i : Nat))) (k := 0) (ρ := cuE n ch none none none false) ⟨none, none, none, rfl⟩ (fun i d ρ hd hI => by
    obtain ⟨x1, x2, x3, rfl⟩ := hI
    have hi : i < n := by
      have := (List.getElem?_eq_some_iff.mp hd).1
      rwa [List.length_map, List.length_range] at this
    rw [List.getElem?_map, List.getElem?_range hi] at hd
    have hd := Option.some.inj hd
    subst hd
    let P : PyData := .int ((1 : Int) + (i : Nat))
    obtain ⟨m', h⟩ := cuLoop F (x1 := some P) (bs := false) n (i + 1) 0 1267650600228229401496703205376 (by omega) (.inr (F.rn i hi)) (by omega) (by omega)
    have a1 : sPar 2 3 (sCons (dVar 1) (sCons (dC (.int 0)) sNil)) (cuE n ch (some P) x2 x3 false) = some (.nx (cuE n ch (some P) (some (.int ((i + 1 : Nat) : Int))) (some (.int ((0 : Nat) : Int))) false)) := by
      have : P = .int ((i + 1 : Nat) : Int) := by
        show PyData.int _ = _
        congr 1
        omega
      rw [← this]
      rfl
    have eB : cuB (cuE n ch (some P) x2 x3 false) = some (.nx (cuE n ch (some P) (some (.int 0)) (some (.int (m' : Nat))) false)) := by
      unfold cuB
      rw [sThen_nx a1, sThen_nx h]
      rfl
    exact ⟨_, _, rfl, eB, _, _, _, rfl⟩)
  obtain ⟨x1, x2, x3, rfl⟩ := h2
  refine runD_of (r := .rt (cuE n ch x1 x2 x3 true) (.bool true)) rfl ?_ rfl
  show B_comes_up (cuE n ch none none none true) = _
  rw [B_comes_eq, sThen_nx (sFor_nx rfl (dRng2 (chD_len (n := n) (f := ch) rfl) hn) h1 rfl)]
  rfl
theorem dAll_true {ix : Nat} {it : En → Option (List PyData)} {el : En → Option PyData} {ρ : En} {ds : List PyData} (hi : it ρ = some ds) (h : ∀ d ∈ ds, ∃ ρ1, setE ix d (wipeE [ix] ρ) = some ρ1 ∧ el ρ1 = some (.bool true)) : dAll ix it el ρ = some (.bool true) := by
  unfold dAll
  rw [hi, Option.bind_some, allL_eq (fun _ => true) h]
  show some (PyData.bool (ds.all fun _ => true)) = _
  rw [List.all_eq_true.mpr fun _ _ => rfl]
theorem mem_natD {n : Nat} {f : Nat → Nat} {d : PyData} (h : d ∈ natD n f) : ∃ r, r < n ∧ d = .int (f r : Nat) := by
  unfold natD at h
  obtain ⟨r, h1, h2⟩ := List.mem_map.mp h
  exact ⟨r, List.mem_range.mp h1, h2.symm⟩
theorem F_is_chart1 (F : Fo n ch rk) (h1 : 1 ≤ n) (h6 : n ≤ 6) : F_is_chart [chD n ch] = some (.bool true) := by
  let E : En := ⟨[some (chD n ch), none], none, 0, [], true⟩
  have hl : dFun fLen (dVar 0) E = some (.int (n : Nat)) := chD_len (n := n) (f := ch) rfl
  have t1 : bOf (dChain dLe dLe (dC (.int 1)) (dFun fLen (dVar 0)) (dC (.int 6))) E = some true := by
    unfold bOf dChain
    rw [hl]
    show (if decide ((1 : Int) ≤ (n : Int)) = true then some (PyData.bool (decide ((n : Int) ≤ 6))) else some (.bool false)).bind asB = _
    rw [decide_eq_true (by omega), decide_eq_true (by omega)]
    rfl
  have a1 : sIf (bOr (bNot (bOf (dIsi "tuple" (dVar 0)))) (bNot (bOf (dChain dLe dLe (dC (.int 1)) (dFun fLen (dVar 0)) (dC (.int 6)))))) (sRet (dC (.bool false))) sSkip E = some (.nx E) := by
    unfold sIf bOr
    have : bNot (bOf (dIsi "tuple" (dVar 0))) E = some false := rfl
    rw [this]
    unfold bNot
    rw [t1]
    rfl
  have a2 : dAll 1 (sSeq (dVar 0)) (dCall F_is_in (sCons (dVar 1) (sCons (dC (.int 0)) (sCons (dFun fLen (dVar 0)) sNil)))) E = some (.bool true) := by
    refine dAll_true (ds := natD n ch) rfl fun d hd => ?_
    obtain ⟨r, hr, rfl⟩ := mem_natD hd
    refine ⟨⟨[some (chD n ch), some (.int (ch r : Nat))], none, 0, [], false⟩, rfl, ?_⟩
    have hl : dFun fLen (dVar 0) ⟨[some (chD n ch), some (.int (ch r : Nat))], none, 0, [], false⟩ = some (.int (n : Nat)) := chD_len (n := n) (f := ch) rfl
    unfold dCall
    show (((((dFun fLen (dVar 0) ⟨[some (chD n ch), some (.int (ch r : Nat))], none, 0, [], false⟩).bind fun d => (some ([] : List PyData)).map (d :: ·)).map (PyData.int 0 :: ·)).map (PyData.int (ch r : Nat) :: ·))).bind F_is_in = _
    rw [hl]
    show F_is_in [.int (ch r : Nat), .int 0, .int (n : Nat)] = _
    have := F.le r hr
    rw [F_is_in1, decide_eq_true (by omega), decide_eq_true (by omega)]
    rfl
  refine runD_of (r := .rt E (.bool true)) rfl ?_ rfl
  show B_is_chart E = _
  unfold B_is_chart
  rw [sThen_nx a1]
  unfold sRet vAnd
  rw [a2]
  show (F_comes_up [chD n ch]).map _ = _
  rw [F_comes_up1 F (by omega)]
  rfl
theorem F_need_chart1 (F : Fo n ch rk) (h1 : 1 ≤ n) (h6 : n ≤ 6) : F_need_chart [chD n ch] = some .none := by
  refine runD_of (r := .nx ⟨[some (chD n ch)], none, 0, [], true⟩) rfl ?_ rfl
  show (((F_is_chart [chD n ch]).bind asB).map (!·)).bind _ = _
  rw [F_is_chart1 F h1 h6]
  rfl
theorem F_need_gains1 {gn : Nat → Nat} (F : Fo n ch rk) (h1 : 1 ≤ n) (h6 : n ≤ 6) (hg : ∀ r, r < n → gn r < 9) : F_need_gains [chD n ch, chD n gn] = some .none := by
  let E : En := ⟨[some (chD n ch), some (chD n gn), none], none, 0, [], true⟩
  have a1 : sExp (dCall F_need_chart (sCons (dVar 0) sNil)) E = some (.nx E) := by
    unfold sExp
    show (F_need_chart [chD n ch]).map _ = _
    rw [F_need_chart1 F h1 h6]
    rfl
  have l0 : dFun fLen (dVar 0) E = some (.int (n : Nat)) := chD_len (n := n) (f := ch) rfl
  have l1 : dFun fLen (dVar 1) E = some (.int (n : Nat)) := chD_len (n := n) (f := gn) rfl
  have t1 : bOf (bin2 dNe (dFun fLen (dVar 1)) (dFun fLen (dVar 0))) E = some false := by
    unfold bOf bin2
    rw [l0, l1, Option.bind_some, Option.bind_some, dNe_int, decide_eq_true rfl]
    rfl
  have t2 : bNot (bOf (dAll 2 (sSeq (dVar 1)) (dCall F_is_in (sCons (dVar 2) (sCons (dC (.int 0)) (sCons (dC (.int 1000)) sNil)))))) E = some false := by
    unfold bNot bOf
    rw [dAll_true (ds := natD n gn) rfl fun d hd => ?_]
    · rfl
    · obtain ⟨r, hr, rfl⟩ := mem_natD hd
      refine ⟨_, rfl, ?_⟩
      show F_is_in [.int (gn r : Nat), .int 0, .int 1000] = _
      have := hg r hr
      rw [F_is_in1, decide_eq_true (by omega), decide_eq_true (by omega)]
      rfl
  refine runD_of (r := .nx E) rfl ?_ rfl
  show B_need_gains E = _
  unfold B_need_gains
  rw [sThen_nx a1]
  have t0 : bNot (bOf (dIsi "tuple" (dVar 1))) E = some false := rfl
  unfold sIf
  unfold bOr
  rw [t0, t1, t2]
  rfl
end
end CD
end
section
set_option maxHeartbeats 1000000
namespace CD
open PySem PySem.Spec PyProof.Rows L2 DL
open SX (Gr Prb colA c2 Party amt)
/-! ### the graph of a chart -/
def tied (n : Nat) (ch : Nat → Nat) : List Nat := (List.range n).filter fun r => decide (ch r ≠ 0)
theorem tied_mem {n : Nat} {ch : Nat → Nat} {r : Nat} : r ∈ tied n ch ↔ r < n ∧ ch r ≠ 0 := by
  unfold tied
  rw [List.mem_filter, List.mem_range, decide_eq_true_iff]
theorem tied_len (n : Nat) (ch : Nat → Nat) : (tied n ch).length ≤ n := by
  unfold tied
  exact Nat.le_trans (List.length_filter_le _ _) (by rw [List.length_range]; exact Nat.le_refl _)
theorem map_getD {α β : Type} (f : α → β) (d : α) (l : List α) : l.map f = (List.range l.length).map fun i => f (l.getD i d) := by
  apply List.ext_getElem
  · simp
  · intro i h1 h2
    simp at h1
    simp [h1]
theorem getD_mem {l : List Nat} {i : Nat} (h : i < l.length) : l.getD i 0 ∈ l := by
  have : l.getD i 0 = l[i] := by simp [h]
  rw [this]
  exact List.getElem_mem h
def gr (n : Nat) (ch gn : Nat → Nat) : Gr := ⟨n, (tied n ch).length, fun l => (tied n ch).getD l 0, fun l => ch ((tied n ch).getD l 0) - 1, fun r => (gn r : Int)⟩
/-- the sign: parity of the depth -/
def sgF (ch : Nat → Nat) : Nat → Nat → Int
  | 0, _ => 1
  | f + 1, r => if ch r = 0 then 1 else - sgF ch f (ch r - 1)
section
variable {n : Nat} {ch rk gn : Nat → Nat}
theorem sgF_any (F : Fo n ch rk) : ∀ (f f' r : Nat), r < n → rk r < f → rk r < f' → sgF ch f r = sgF ch f' r
  | 0, _, r, _, h, _ => by omega
  | _, 0, r, _, _, h => by omega
  | f + 1, f' + 1, r, hr, h1, h2 => by
    show (if ch r = 0 then (1 : Int) else - sgF ch f (ch r - 1)) = if ch r = 0 then 1 else - sgF ch f' (ch r - 1)
    by_cases h0 : ch r = 0
    · rw [if_pos h0, if_pos h0]
    · have hk : rk (ch r - 1) < rk r := by rcases F.dn r hr with z | z; exact absurd z h0; exact z
      have := F.le r hr
      rw [if_neg h0, if_neg h0, sgF_any F f f' (ch r - 1) (by omega) (by omega) (by omega)]
theorem sgF_one (ch : Nat → Nat) : ∀ (f r : Nat), sgF ch f r = 1 ∨ sgF ch f r = -1
  | 0, _ => .inl rfl
  | f + 1, r => by
    show (if ch r = 0 then (1 : Int) else - sgF ch f (ch r - 1)) = 1 ∨ (if ch r = 0 then (1 : Int) else - sgF ch f (ch r - 1)) = -1
    by_cases h0 : ch r = 0
    · exact .inl (if_pos h0)
    · rw [if_neg h0]
      rcases sgF_one ch f (ch r - 1) with h | h <;> rw [h]
      · exact .inr rfl
      · exact .inl rfl
theorem gr_td {l : Nat} (h : l < (gr n ch gn).m) : (gr n ch gn).td l < n ∧ ch ((gr n ch gn).td l) ≠ 0 := tied_mem.mp (getD_mem h)
theorem gr_ok (F : Fo n ch rk) : (gr n ch gn).Ok (sgF ch n) where
  tdn := fun l h => (gr_td h).1
  cpn := fun l h => by
    have h1 := gr_td h
    have := F.le _ h1.1
    show ch ((gr n ch gn).td l) - 1 < n
    omega
  ne := fun l h z => by
    have h1 := gr_td h
    rcases F.dn _ h1.1 with e | e
    · exact h1.2 e
    · have z : (gr n ch gn).td l = ch ((gr n ch gn).td l) - 1 := z
      rw [← z] at e
      omega
  sg1 := fun r _ => sgF_one ch n r
  opp := fun l h => by
    have h1 := gr_td h
    have hn := F.rn _ h1.1
    have hk : rk (ch ((gr n ch gn).td l) - 1) < rk ((gr n ch gn).td l) := by rcases F.dn _ h1.1 with z | z; exact absurd z h1.2; exact z
    have := F.le _ h1.1
    show sgF ch n (ch ((gr n ch gn).td l) - 1) = - sgF ch n ((gr n ch gn).td l)
    obtain ⟨m, rfl⟩ : ∃ m, n = m + 1 := ⟨n - 1, by omega⟩
    have e : sgF ch (m + 1) ((gr (m + 1) ch gn).td l) = if ch ((gr (m + 1) ch gn).td l) = 0 then 1 else - sgF ch m (ch ((gr (m + 1) ch gn).td l) - 1) := rfl
    rw [e, if_neg h1.2, Int.neg_neg]
    exact sgF_any F _ _ _ (by omega) (by omega) (by omega)
  g0 := fun r _ => by show (0 : Int) ≤ (gn r : Int); omega
/-! ### with_chiefs -/
def tdD (n : Nat) (ch : Nat → Nat) : PyData := .list ((tied n ch).map fun r => PyData.int ((1 : Int) + (r : Nat)))
theorem F_with_chiefs1 (hn : n ≤ 999) : F_with_chiefs [chD n ch] = some (tdD n ch) := by
  refine runD_of (r := .rt ⟨[some (chD n ch), none], none, 0, [], true⟩ (tdD n ch)) rfl ?_ rfl
  show (dComp [1] _ (.one 1) _ _ ⟨[some (chD n ch), none], none, 0, [], true⟩).map _ = _
  rw [dComp_fm (xs := List.range n) (fun r => decide (ch r ≠ 0)) (fun r => PyData.int ((1 : Int) + (r : Nat))) (fun r => PyData.int ((1 : Int) + (r : Nat))) (dRng2 (chD_len (n := n) (f := ch) rfl) hn) (by rw [List.length_range]; show n ≤ 1000; omega) fun r hr => ?_]
  · rfl
  · have hr := List.mem_range.mp hr
    refine ⟨⟨[some (chD n ch), some (.int ((1 : Int) + (r : Nat)))], none, 0, [], false⟩, rfl, ?_, fun _ => rfl⟩
    show ((dIx (chD n ch) (.int ((1 : Int) + (r : Nat) - 1))).bind fun a => dNe a (.int 0)).bind asB = _
    rw [chD_ix1 hr, Option.bind_some, dNe_int]
    show some (!decide ((ch r : Int) = 0)) = _
    congr 1
    by_cases h : ch r = 0
    · rw [decide_eq_true (by omega), decide_eq_false (fun z => z h)]
      rfl
    · rw [decide_eq_false (by omega), decide_eq_true h]
      rfl
end
end CD
end
section
set_option maxHeartbeats 1000000
namespace CD
open PySem PySem.Spec PyProof.Rows L2 DL
open SX (Gr Prb colA c2 Party amt)
section
variable {n : Nat} {ch rk gn : Nat → Nat}
def tm (n : Nat) (ch : Nat → Nat) : Nat := (tied n ch).length
def ppE (n : Nat) (ch gn : Nat → Nat) (k : Nat) (x6 x7 : Option PyData) (bs : Bool) : En :=
  ⟨[some (chD n ch), some (chD n gn), some (.int (n : Nat)), some (tdD n ch), none, some (.int ((tm n ch + n : Nat) : Int)), x6, x7, none, none, none, none, none, none], none, 0, [(4, (List.range k).map fun r => rowOf (tm n ch + n + n) (colA (gr n ch gn) r))], bs⟩
def pp1 : En → Option PyData := dComp [8] (sSeq (dVar 3)) (.one 8) bYes (dTup (sCons (dIf (bOf (bin2 dIn (dVar 6) (dTup (sCons (dVar 8) (sCons (bin2 dIx (dVar 0) (bin2 dSub (dVar 8) (dC (.int 1)))) sNil))))) (dC (.int 1)) (dC (.int 0))) (sCons (dC (.int 1)) sNil)))
def pp2 : En → Option PyData := dComp [9] (sRng2 (dC (.int 1)) (bin2 dAdd (dVar 2) (dC (.int 1)))) (.one 9) bYes (dTup (sCons (dIf (bOf (bin2 dEq (dVar 9) (dVar 6))) (dC (.int 1)) (dC (.int 0))) (sCons (dC (.int 1)) sNil)))
def pp3 : En → Option PyData := dComp [9] (sRng2 (dC (.int 1)) (bin2 dAdd (dVar 2) (dC (.int 1)))) (.one 9) bYes (dTup (sCons (dIf (bOf (bin2 dEq (dVar 9) (dVar 6))) (dNeg (dC (.int 1))) (dC (.int 0))) (sCons (dC (.int 1)) sNil)))
def ppB : En → Option SR := sThen (sSet 7 pp1) (sThen (sSet 7 (bin2 dAdd (dVar 7) pp2)) (sApp 4 (bin2 dAdd (dVar 7) pp3)))
def pp10 : En → Option PyData := dComp [11] (sRng1 (bin2 dAdd (dVar 5) (dVar 2))) (.one 11) bYes (dTup (sCons (dIf (bOf (bin2 dLt (dVar 11) (dVar 5))) (dNeg (dC (.int 1))) (dC (.int 0))) (sCons (dC (.int 1)) sNil)))
def pp13 : En → Option PyData := dComp [13] (sSeq (dVar 1)) (.one 13) bYes (dTup (sCons (dVar 13) (sCons (dC (.int 1)) sNil)))
def ppEnd : En → Option SR := sRet (dTup (sCons (dFun fTup (dSl (dVar 12) oNo (oSo (dFun fLen (dVar 3))))) (sCons (dFun fTup (dSl (dVar 12) (oSo (dFun fLen (dVar 3))) (oSo (dVar 5)))) sNil)))
theorem B_pp_eq : B_party_paper = sThen (sExp (dCall F_need_gains (sCons (dVar 0) (sCons (dVar 1) sNil)))) (sThen (sPar3 2 3 4 (dFun fLen (dVar 0)) (dCall F_with_chiefs (sCons (dVar 0) sNil))) (sThen (sSet 5 (bin2 dAdd (dFun fLen (dVar 3)) (dVar 2)))
  (sThen (sForM (sRng2 (dC (.int 1)) (bin2 dAdd (dVar 2) (dC (.int 1)))) (.one 6) ppB) (sThen (sSet 10 pp10) (sThen (sRel 4 (sSet 12 (bin2 dIx (dCall F_solved (sCons (dVar 4) (sCons pp13 (sCons (dVar 10) sNil)))) (dC (.int 1))))) ppEnd))))) := rfl
theorem tm_le : tm n ch ≤ n := tied_len n ch
theorem td_eq (f : Nat → PyData) : (tied n ch).map f = (List.range (tm n ch)).map fun l => f ((gr n ch gn).td l) := map_getD f 0 _
theorem dIn2 (a b c : Int) : dIn (.int a) (.tuple [.int b, .int c]) = some (.bool (decide (b = a) || decide (c = a))) := by
  simp [dIn, asInts]
  rfl
/-- a pair's column at row p -/
theorem pp1_eq {k p : Nat} {x7 : Option PyData} (hn : n ≤ 6) : pp1 (ppE n ch gn k (some (.int ((1 : Int) + (p : Nat)))) x7 false) = some (.list ((List.range (tm n ch)).map fun l => rt (colA (gr n ch gn) p l))) := by
  have hm : tm n ch ≤ n := tm_le
  unfold pp1
  rw [dComp_map (xs := tied n ch) (fun r => PyData.int ((1 : Int) + (r : Nat))) (fun r => rt (if p = r ∨ p + 1 = ch r then 1 else 0)) rfl (by show tm n ch ≤ 1000; omega) fun r hr => ⟨_, rfl, rfl, ?_⟩]
  · rw [td_eq (gn := gn)]
    congr 2
    refine List.map_congr_left fun l hl => ?_
    have hl := List.mem_range.mp hl
    have h1 := gr_td (n := n) (ch := ch) (gn := gn) hl
    show rt _ = rt (colA (gr n ch gn) p l)
    congr 1
    unfold colA
    rw [if_pos (show l < (gr n ch gn).m from hl)]
    have h2 : (gr n ch gn).cp l = ch ((gr n ch gn).td l) - 1 := rfl
    rw [h2]
    by_cases e : p = (gr n ch gn).td l ∨ p = ch ((gr n ch gn).td l) - 1
    · rw [if_pos e, if_pos (by omega)]
    · rw [if_neg e, if_neg (by omega)]
  · obtain ⟨hr1, hr2⟩ := tied_mem.mp hr
    show (((((((some (PyData.int ((1 : Int) + (r : Nat)))).bind fun d => (((dIx (chD n ch) (.int ((1 : Int) + (r : Nat) - 1))).bind fun d => (some ([] : List PyData)).map (d :: ·))).map (d :: ·)).bind fun ds => if ds.length ≤ LIM then some (PyData.tuple ds) else none).bind fun b => dIn (.int ((1 : Int) + (p : Nat))) b).bind asB).bind fun c => if c = true then some (PyData.int 1) else some (.int 0)).bind fun d => (some [PyData.int 1]).map (d :: ·)).bind (fun ds => if ds.length ≤ LIM then some (PyData.tuple ds) else none) = _
    rw [chD_ix1 hr1]
    show ((((dIn (.int ((1 : Int) + (p : Nat))) (.tuple [.int ((1 : Int) + (r : Nat)), .int (ch r : Nat)])).bind asB).bind fun c => if c = true then some (PyData.int 1) else some (.int 0)).bind fun d => (some [PyData.int 1]).map (d :: ·)).bind (fun ds => if ds.length ≤ LIM then some (PyData.tuple ds) else none) = _
    rw [dIn2]
    by_cases e : p = r ∨ p + 1 = ch r
    · rw [if_pos e]
      have : (decide ((1 : Int) + (r : Nat) = (1 : Int) + (p : Nat)) || decide (((ch r : Nat) : Int) = (1 : Int) + (p : Nat))) = true := by
        rw [Bool.or_eq_true, decide_eq_true_iff, decide_eq_true_iff]
        omega
      rw [this]
      rfl
    · rw [if_neg e]
      have : (decide ((1 : Int) + (r : Nat) = (1 : Int) + (p : Nat)) || decide (((ch r : Nat) : Int) = (1 : Int) + (p : Nat))) = false := by
        rw [Bool.or_eq_false_iff, decide_eq_false_iff_not, decide_eq_false_iff_not]
        omega
      rw [this]
      rfl
theorem pp2_eq {k p : Nat} {x7 : Option PyData} (hn : n ≤ 6) : pp2 (ppE n ch gn k (some (.int ((1 : Int) + (p : Nat)))) x7 false) = some (.list ((List.range n).map fun x => rt (if p = x then 1 else 0))) := by
  unfold pp2
  refine dComp_map (xs := List.range n) (fun r => PyData.int ((1 : Int) + (r : Nat))) _ (dRng2 rfl (by omega)) (by rw [List.length_range]; show n ≤ 1000; omega) fun r hr => ⟨_, rfl, rfl, ?_⟩
  show ((((dEq (.int ((1 : Int) + (r : Nat))) (.int ((1 : Int) + (p : Nat)))).bind asB).bind fun c => if c = true then some (PyData.int 1) else some (.int 0)).bind fun d => (some [PyData.int 1]).map (d :: ·)).bind (fun ds => if ds.length ≤ LIM then some (PyData.tuple ds) else none) = _
  rw [dEq_int]
  by_cases e : p = r
  · rw [if_pos e, decide_eq_true (by omega)]
    rfl
  · rw [if_neg e, decide_eq_false (by omega)]
    rfl
theorem pp3_eq {k p : Nat} {x7 : Option PyData} (hn : n ≤ 6) : pp3 (ppE n ch gn k (some (.int ((1 : Int) + (p : Nat)))) x7 false) = some (.list ((List.range n).map fun x => rt (if p = x then -1 else 0))) := by
  unfold pp3
  refine dComp_map (xs := List.range n) (fun r => PyData.int ((1 : Int) + (r : Nat))) _ (dRng2 rfl (by omega)) (by rw [List.length_range]; show n ≤ 1000; omega) fun r hr => ⟨_, rfl, rfl, ?_⟩
  show ((((dEq (.int ((1 : Int) + (r : Nat))) (.int ((1 : Int) + (p : Nat)))).bind asB).bind fun c => if c = true then some (PyData.int (-1)) else some (.int 0)).bind fun d => (some [PyData.int 1]).map (d :: ·)).bind (fun ds => if ds.length ≤ LIM then some (PyData.tuple ds) else none) = _
  rw [dEq_int]
  by_cases e : p = r
  · rw [if_pos e, decide_eq_true (by omega)]
    rfl
  · rw [if_neg e, decide_eq_false (by omega)]
    rfl
theorem rowG {p : Nat} : ((List.range (tm n ch)).map fun l => rt (colA (gr n ch gn) p l)) ++ ((List.range n).map fun x => rt (if p = x then 1 else 0)) ++ ((List.range n).map fun x => rt (if p = x then -1 else 0)) = (List.range (tm n ch + n + n)).map fun l => rt (colA (gr n ch gn) p l) := by
  rw [List.range_add, List.range_add, List.map_append, List.map_append, List.map_map, List.map_map]
  congr 1
  · congr 1
    refine List.map_congr_left fun x hx => ?_
    show _ = rt (colA (gr n ch gn) p ((gr n ch gn).m + x))
    rw [SX.colA_one (show x < (gr n ch gn).n from List.mem_range.mp hx)]
  · refine List.map_congr_left fun x hx => ?_
    show _ = rt (colA (gr n ch gn) p ((gr n ch gn).m + (gr n ch gn).n + x))
    rw [SX.colA_slack (show x < (gr n ch gn).n from List.mem_range.mp hx)]
theorem ppB_eq {k : Nat} {x7 : Option PyData} (hn : n ≤ 6) (hk : k < n) : ∃ x7', ppB (ppE n ch gn k (some (.int ((1 : Int) + (k : Nat)))) x7 false) = some (.nx (ppE n ch gn (k + 1) (some (.int ((1 : Int) + (k : Nat)))) x7' false)) := by
  have hm : tm n ch ≤ n := tm_le
  have hL : LIM = 1000 := rfl
  have a1 : sSet 7 pp1 (ppE n ch gn k (some (.int ((1 : Int) + (k : Nat)))) x7 false) = some (.nx (ppE n ch gn k (some (.int ((1 : Int) + (k : Nat)))) (some (.list ((List.range (tm n ch)).map fun l => rt (colA (gr n ch gn) k l)))) false)) := by
    unfold sSet
    rw [pp1_eq hn]
    rfl
  have a2 : sSet 7 (bin2 dAdd (dVar 7) pp2) (ppE n ch gn k (some (.int ((1 : Int) + (k : Nat)))) (some (.list ((List.range (tm n ch)).map fun l => rt (colA (gr n ch gn) k l)))) false) =
      some (.nx (ppE n ch gn k (some (.int ((1 : Int) + (k : Nat)))) (some (.list (((List.range (tm n ch)).map fun l => rt (colA (gr n ch gn) k l)) ++ ((List.range n).map fun x => rt (if k = x then 1 else 0))))) false)) := by
    unfold sSet bin2
    rw [pp2_eq hn]
    show (dAdd (.list _) (.list _)).bind _ = _
    rw [dAdd_list (by rw [List.length_map, List.length_map, List.length_range, List.length_range]; omega)]
    rfl
  refine ⟨some (.list (((List.range (tm n ch)).map fun l => rt (colA (gr n ch gn) k l)) ++ ((List.range n).map fun x => rt (if k = x then 1 else 0)))), ?_⟩
  unfold ppB
  rw [sThen_nx a1, sThen_nx a2]
  unfold sApp bin2
  rw [pp3_eq hn]
  show ((dAdd (.list _) (.list _)).bind fun d => _) = _
  rw [dAdd_list (by rw [List.length_append, List.length_map, List.length_map, List.length_map, List.length_range, List.length_range]; omega), rowG]
  show ((appL (rowOf (tm n ch + n + n) (colA (gr n ch gn) k)) ((List.range k).map fun r => rowOf (tm n ch + n + n) (colA (gr n ch gn) r))).map _).map _ = _
  unfold appL
  rw [if_pos (by rw [List.length_map, List.length_range]; omega)]
  unfold ppE
  rw [List.range_succ, List.map_append]
  rfl
end
end CD
end
section
set_option maxHeartbeats 1000000
namespace CD
open PySem PySem.Spec PyProof.Rows L2 DL
open SX (Gr Prb colA c2 Party amt)
section
variable {n : Nat} {ch rk gn : Nat → Nat}
theorem gs_le (hg : ∀ r, r < n → gn r < 9) : SX.gs (gr n ch gn).prb ≤ 8 * n := by
  have h : (SX.sm n fun r => (gr n ch gn).prb.A r ((gr n ch gn).prb.N + (gr n ch gn).prb.t)) ≤ SX.sm n fun _ => (8 : Int) * 1 := SX.sm_le fun r hr => by
    show colA (gr n ch gn) r ((gr n ch gn).m + (gr n ch gn).n + (gr n ch gn).n + (gr n ch gn).n) ≤ _
    rw [SX.colA_goal]
    have := hg r hr
    show (gn r : Int) ≤ 8 * 1
    omega
  have h2 : ∀ k : Nat, SX.sm k (fun _ => (1 : Int)) = k := fun k => by
    induction k with
    | zero => rfl
    | succ k ih => show SX.sm k (fun _ => (1 : Int)) + 1 = _; rw [ih]; omega
  rw [SX.sm_mul, h2] at h
  show (SX.sm n fun r => (gr n ch gn).prb.A r ((gr n ch gn).prb.N + (gr n ch gn).prb.t)).toNat ≤ _
  omega
theorem fuel_ok (h6 : n ≤ 6) (hg : ∀ r, r < n → gn r < 9) : ((gr n ch gn).prb.t * SX.gs (gr n ch gn).prb + SX.gs (gr n ch gn).prb + 1) * 2 ^ ((gr n ch gn).prb.N + (gr n ch gn).prb.t) ≤ FUEL := by
  have h1 := gs_le (ch := ch) hg
  have hm : tm n ch ≤ n := tm_le
  have h2 : (gr n ch gn).prb.N + (gr n ch gn).prb.t ≤ 24 := by
    show tm n ch + n + n + n ≤ 24
    omega
  have h3 : (gr n ch gn).prb.t * SX.gs (gr n ch gn).prb ≤ 6 * 48 := Nat.mul_le_mul h6 (by omega)
  refine Nat.le_trans (Nat.mul_le_mul (show _ ≤ 6 * 48 + 48 + 1 by omega) (Nat.pow_le_pow_right (by decide) h2)) ?_
  unfold FUEL
  decide
theorem pp_loop (h6 : n ≤ 6) : ∃ x6 x7, sForM (sRng2 (dC (.int 1)) (bin2 dAdd (dVar 2) (dC (.int 1)))) (.one 6) ppB (ppE n ch gn 0 none none true) = some (.nx (ppE n ch gn n x6 x7 true)) := by
  obtain ⟨ρ', h1, h2⟩ := forL_inv (tg := .one 6) (body := ppB) (fun i ρ => i ≤ n ∧ ∃ x6 x7, ρ = ppE n ch gn i x6 x7 false) (ds := (List.range n).map fun i => PyData.int ((1 : Int) + (i : Nat))) (k := 0) (ρ := ppE n ch gn 0 none none false) ⟨Nat.zero_le _, none, none, rfl⟩ (fun i d ρ hd hI => by
    obtain ⟨_, x6, x7, rfl⟩ := hI
    have hi : i < n := by
      have := (List.getElem?_eq_some_iff.mp hd).1
      rwa [List.length_map, List.length_range] at this
    rw [List.getElem?_map, List.getElem?_range hi] at hd
    have hd := Option.some.inj hd
    subst hd
    rw [Nat.zero_add]
    obtain ⟨x7', e⟩ := ppB_eq (ch := ch) (gn := gn) (x7 := x7) h6 hi
    exact ⟨_, _, rfl, e, hi, _, _, rfl⟩)
  rw [Nat.zero_add, List.length_map, List.length_range] at h2
  obtain ⟨_, x6, x7, rfl⟩ := h2
  have hit : sRng2 (dC (.int 1)) (bin2 dAdd (dVar 2) (dC (.int 1))) (ppE n ch gn 0 none none true) = some ((List.range n).map fun i => PyData.int ((1 : Int) + (i : Nat))) := dRng2 rfl (by omega)
  have hr := sForM_nx hit h1 rfl
  exact ⟨x6, x7, hr⟩
theorem cut_take {xs : List PyData} {m : Nat} (h : m ≤ xs.length) : cutP xs none (some (m : Nat)) = xs.take m := by
  unfold cutP
  rw [HT.sIx_none, HT.sIx_nat, List.drop_zero, Nat.sub_zero, Nat.min_eq_left h]
theorem cut_mid {xs : List PyData} {a m : Nat} (h : a + m ≤ xs.length) : cutP xs (some (a : Nat)) (some ((a + m : Nat) : Int)) = (xs.drop a).take m := by
  unfold cutP
  rw [HT.sIx_nat, HT.sIx_nat, Nat.min_eq_left (show a ≤ xs.length by omega), Nat.min_eq_left h, Nat.add_sub_cancel_left]
def ppZ (n : Nat) (ch gn : Nat → Nat) (x6 x7 : Option PyData) (rw : Option PyData) (x12 : Option PyData) (ow : List (Nat × List PyData)) : En :=
  ⟨[some (chD n ch), some (chD n gn), some (.int (n : Nat)), some (tdD n ch), rw, some (.int ((tm n ch + n : Nat) : Int)), x6, x7, none, none, some (rowOf (tm n ch + n + n) (c2 (gr n ch gn))), none, x12, none], none, 0, ow, true⟩
theorem F_party_paper1 (F : Fo n ch rk) (h1 : 1 ≤ n) (h6 : n ≤ 6) (hg : ∀ r, r < n → gn r < 9) : ∃ x y : Nat → Int,
    F_party_paper [chD n ch, chD n gn] = some (.tuple [.tuple ((List.range (tm n ch)).map fun l => rt (x l)), .tuple ((List.range n).map fun r => rt (y r))]) ∧ (∀ l, 0 ≤ x l) ∧ (∀ r, 0 ≤ y r) ∧
    (∀ r, r < n → (gn r : Int) ≤ SX.sm (tm n ch) (fun l => colA (gr n ch gn) r l * x l) + y r) ∧
    (∃ S, Party (gr n ch gn) S ∧ SX.sm n (fun r => S r * (gn r : Int)) = SX.sm (tm n ch) x + SX.sm n y) ∧ ∀ S, Party (gr n ch gn) S → SX.sm n (fun r => S r * (gn r : Int)) ≤ SX.sm (tm n ch) x + SX.sm n y := by
  have hm : tm n ch ≤ n := tm_le
  have hL : LIM = 1000 := rfl
  have O := gr_ok (gn := gn) F
  obtain ⟨s, e, I, Fe, hb, op⟩ := F_solved_eq (P := (gr n ch gn).prb) (c := c2 (gr n ch gn)) (SX.nice O) (fun l => by unfold c2; split <;> omega) (fun l => by unfold c2; split <;> omega) (fun l hl => by
    have hl : (gr n ch gn).m + (gr n ch gn).n + (gr n ch gn).n ≤ l := hl
    exact if_neg (show ¬ l < (gr n ch gn).m + (gr n ch gn).n by omega)) h1 (by show tm n ch + n + n + n + 1 ≤ 1000; omega) (fuel_ok h6 hg)
  obtain ⟨o1, o2, o3, o4⟩ := SX.optimum O I Fe hb op
  have hs : SX.sm ((gr n ch gn).m + (gr n ch gn).n) (amt (gr n ch gn).prb s) = SX.sm (tm n ch) (amt (gr n ch gn).prb s) + SX.sm n (fun r => amt (gr n ch gn).prb s (tm n ch + r)) := SX.sm_split _ _ _
  rw [hs] at o3 o4
  refine ⟨amt (gr n ch gn).prb s, fun r => amt (gr n ch gn).prb s (tm n ch + r), ?_, o1, fun r => o1 _, o2, o3, o4⟩
  have a1 : sExp (dCall F_need_gains (sCons (dVar 0) (sCons (dVar 1) sNil))) (startE 14 none [] [chD n ch, chD n gn]) = some (.nx (startE 14 none [] [chD n ch, chD n gn])) := by
    unfold sExp
    show (F_need_gains [chD n ch, chD n gn]).map _ = _
    rw [F_need_gains1 F h1 h6 hg]
    rfl
  have a2 : sPar3 2 3 4 (dFun fLen (dVar 0)) (dCall F_with_chiefs (sCons (dVar 0) sNil)) (startE 14 none [] [chD n ch, chD n gn]) = some (.nx ⟨[some (chD n ch), some (chD n gn), some (.int (n : Nat)), some (tdD n ch), none, none, none, none, none, none, none, none, none, none], none, 0, [(4, [])], true⟩) := by
    unfold sPar3
    rw [chD_len (n := n) (f := ch) rfl, Option.bind_some]
    show (F_with_chiefs [chD n ch]).bind _ = _
    rw [F_with_chiefs1 (by omega)]
    rfl
  have a3 : sSet 5 (bin2 dAdd (dFun fLen (dVar 3)) (dVar 2)) ⟨[some (chD n ch), some (chD n gn), some (.int (n : Nat)), some (tdD n ch), none, none, none, none, none, none, none, none, none, none], none, 0, [(4, [])], true⟩ = some (.nx (ppE n ch gn 0 none none true)) := by
    unfold sSet
    show (some (PyData.int ((((tied n ch).map fun r => PyData.int ((1 : Int) + (r : Nat))).length : Nat) + (n : Int)))).bind _ = _
    rw [List.length_map]
    rfl
  obtain ⟨x6, x7, a4⟩ := pp_loop (ch := ch) (gn := gn) h6
  have a5 : sSet 10 pp10 (ppE n ch gn n x6 x7 true) = some (.nx (ppZ n ch gn x6 x7 none none [(4, (List.range n).map fun r => rowOf (tm n ch + n + n) (colA (gr n ch gn) r))])) := by
    have : pp10 (ppE n ch gn n x6 x7 true) = some (rowOf (tm n ch + n + n) (c2 (gr n ch gn))) := by
      unfold pp10
      refine dComp_map (xs := List.range (tm n ch + n + n)) (fun i => PyData.int (i : Nat)) (fun l => rt (c2 (gr n ch gn) l)) (dRng1 (n := tm n ch + n + n) rfl (by omega)) (by rw [List.length_range]; omega) fun l hl => ⟨_, rfl, rfl, ?_⟩
      show ((((some (PyData.bool (decide ((l : Int) < ((tm n ch + n : Nat) : Int))))).bind asB).bind fun c => if c = true then some (PyData.int (-1)) else some (.int 0)).bind fun d => (some [PyData.int 1]).map (d :: ·)).bind (fun ds => if ds.length ≤ LIM then some (PyData.tuple ds) else none) = some (rt (if l < tm n ch + n then -1 else 0))
      by_cases h : l < tm n ch + n
      · rw [if_pos h, decide_eq_true (by omega)]
        rfl
      · rw [if_neg h, decide_eq_false (by omega)]
        rfl
    unfold sSet
    rw [this]
    rfl
  have a6 : sRel 4 (sSet 12 (bin2 dIx (dCall F_solved (sCons (dVar 4) (sCons pp13 (sCons (dVar 10) sNil)))) (dC (.int 1)))) (ppZ n ch gn x6 x7 none none [(4, (List.range n).map fun r => rowOf (tm n ch + n + n) (colA (gr n ch gn) r))]) =
      some (.nx (ppZ n ch gn x6 x7 (some (rowsD (gr n ch gn).prb)) (some (rowOf (tm n ch + n + n) (amt (gr n ch gn).prb s))) [])) := by
    show sSet 12 (bin2 dIx (dCall F_solved (sCons (dVar 4) (sCons pp13 (sCons (dVar 10) sNil)))) (dC (.int 1))) (ppZ n ch gn x6 x7 (some (rowsD (gr n ch gn).prb)) none []) = _
    have e13 : pp13 (ppZ n ch gn x6 x7 (some (rowsD (gr n ch gn).prb)) none []) = some (goalsD (gr n ch gn).prb) := by
      unfold pp13
      refine dComp_map (xs := List.range n) (fun r => PyData.int (gn r : Nat)) (fun r => rt ((gr n ch gn).prb.A r ((gr n ch gn).prb.N + (gr n ch gn).prb.t))) rfl (by rw [List.length_range]; omega) fun r _ => ⟨_, rfl, rfl, ?_⟩
      show _ = some (rt (colA (gr n ch gn) r ((gr n ch gn).m + (gr n ch gn).n + (gr n ch gn).n + (gr n ch gn).n)))
      rw [SX.colA_goal]
      rfl
    unfold sSet bin2 dCall
    show (((((pp13 (ppZ n ch gn x6 x7 (some (rowsD (gr n ch gn).prb)) none [])).bind fun d => (some [rowOf (tm n ch + n + n) (c2 (gr n ch gn))]).map (d :: ·)).map (rowsD (gr n ch gn).prb :: ·)).bind F_solved).bind fun a => dIx a (.int 1)).bind _ = _
    rw [e13]
    show ((F_solved [rowsD (gr n ch gn).prb, goalsD (gr n ch gn).prb, rowOf (gr n ch gn).prb.N (c2 (gr n ch gn))]).bind fun a => dIx a (.int 1)).bind _ = _
    rw [e]
    rfl
  have a7 : ppEnd (ppZ n ch gn x6 x7 (some (rowsD (gr n ch gn).prb)) (some (rowOf (tm n ch + n + n) (amt (gr n ch gn).prb s))) []) = some (.rt (ppZ n ch gn x6 x7 (some (rowsD (gr n ch gn).prb)) (some (rowOf (tm n ch + n + n) (amt (gr n ch gn).prb s))) []) (.tuple [.tuple ((List.range (tm n ch)).map fun l => rt (amt (gr n ch gn).prb s l)), .tuple ((List.range n).map fun r => rt (amt (gr n ch gn).prb s (tm n ch + r)))])) := by
    have hl : dFun fLen (dVar 3) (ppZ n ch gn x6 x7 (some (rowsD (gr n ch gn).prb)) (some (rowOf (tm n ch + n + n) (amt (gr n ch gn).prb s))) []) = some (.int (tm n ch : Nat)) := by
      show some (PyData.int ((((tied n ch).map fun r => PyData.int ((1 : Int) + (r : Nat))).length : Nat))) = _
      rw [List.length_map]
      rfl
    let xs : List PyData := (List.range (tm n ch + n + n)).map fun l => rt (amt (gr n ch gn).prb s l)
    have hx : xs.length = tm n ch + n + n := by show ((List.range _).map _).length = _; rw [List.length_map, List.length_range]
    have s1 : dSl (dVar 12) oNo (oSo (dFun fLen (dVar 3))) (ppZ n ch gn x6 x7 (some (rowsD (gr n ch gn).prb)) (some (rowOf (tm n ch + n + n) (amt (gr n ch gn).prb s))) []) = some (.list (xs.take (tm n ch))) := by
      unfold dSl oSo
      rw [hl]
      show some (PyData.list (cutP xs none (some (tm n ch : Nat)))) = _
      rw [cut_take (by omega)]
    have s2 : dSl (dVar 12) (oSo (dFun fLen (dVar 3))) (oSo (dVar 5)) (ppZ n ch gn x6 x7 (some (rowsD (gr n ch gn).prb)) (some (rowOf (tm n ch + n + n) (amt (gr n ch gn).prb s))) []) = some (.list ((xs.drop (tm n ch)).take n)) := by
      unfold dSl oSo
      rw [hl]
      show some (PyData.list (cutP xs (some (tm n ch : Nat)) (some ((tm n ch + n : Nat) : Int)))) = _
      rw [cut_mid (by omega)]
    have t1 : xs.take (tm n ch) = (List.range (tm n ch)).map fun l => rt (amt (gr n ch gn).prb s l) := by
      show ((List.range _).map _).take _ = _
      rw [← List.map_take, List.take_range, Nat.min_eq_left (by omega)]
    have t2 : (xs.drop (tm n ch)).take n = (List.range n).map fun r => rt (amt (gr n ch gn).prb s (tm n ch + r)) := by
      show (((List.range (tm n ch + n + n)).map _).drop _).take _ = _
      rw [← List.map_drop, ← List.map_take, Nat.add_assoc, List.range_add, List.drop_left' (by rw [List.length_range]), ← List.map_take, List.take_range, Nat.min_eq_left (by omega), List.map_map]
      rfl
    unfold ppEnd sRet dTup sCons dFun
    show (((((dSl (dVar 12) oNo (oSo (dFun fLen (dVar 3))) _).bind fTup).bind fun d => ((((dSl (dVar 12) (oSo (dFun fLen (dVar 3))) (oSo (dVar 5)) _).bind fTup)).bind fun d => (some ([] : List PyData)).map (d :: ·)).map (d :: ·))).bind fun ds => if ds.length ≤ LIM then some (PyData.tuple ds) else none).map _ = _
    rw [s1, s2, t1, t2]
    rfl
  refine runD_of (r := .rt (ppZ n ch gn x6 x7 (some (rowsD (gr n ch gn).prb)) (some (rowOf (tm n ch + n + n) (amt (gr n ch gn).prb s))) []) (.tuple [.tuple ((List.range (tm n ch)).map fun l => rt (amt (gr n ch gn).prb s l)), .tuple ((List.range n).map fun r => rt (amt (gr n ch gn).prb s (tm n ch + r)))])) rfl ?_ rfl
  rw [B_pp_eq, sThen_nx a1, sThen_nx a2, sThen_nx a3, sThen_nx a4, sThen_nx a5, sThen_nx a6, a7]
end
end CD
end
section
set_option maxHeartbeats 1000000
namespace CD
open PySem PySem.Spec PyProof.Rows L2 DL
/-! ### half units -/
def hf (h : Int) : PyData := .tuple [.int (if h % 2 = 0 then h / 2 else h), .int (if h % 2 = 0 then 1 else 2)]
theorem rt_hf (v : Int) : rt v = hf (2 * v) := by
  unfold rt hf
  rw [if_pos (by omega), if_pos (by omega), show 2 * v / 2 = v by omega]
/-- lowest terms -/
def low (t : Int) (b : Nat) : PyData := .tuple [.int (t.fdiv ((Nat.gcd t.natAbs b : Nat) : Int)), .int ((b : Int).fdiv ((Nat.gcd t.natAbs b : Nat) : Int))]
theorem gcd_small {t : Int} {b : Nat} (hb : 0 < b) (hb2 : b < 1073741824) : ((Nat.gcd t.natAbs b : Nat) : Int) ≠ 0 ∧ ((Nat.gcd t.natAbs b : Nat) : Int).natAbs < 1073741824 := by
  have h1 := Nat.gcd_pos_of_pos_right t.natAbs hb
  have h2 := Nat.le_of_dvd hb (Nat.gcd_dvd_right t.natAbs b)
  omega
theorem F_ratio_low (t : Int) {b : Nat} (hb : 0 < b) (hb2 : b < 1073741824) : F_ratio [.int t, .int (b : Nat)] = some (low t b) := by
  have hg := gcd_small (t := t) hb hb2
  refine runD_of (r := .rt ⟨[some (.int t), some (.int (b : Nat)), some (.int (Nat.gcd t.natAbs b : Nat))], none, 0, [], true⟩ (low t b)) rfl ?_ rfl
  have a1 : sSet 2 (dIf (bOf (bin2 dGt (dVar 1) (dC (.int 0)))) (bin2 dGcd (dVar 0) (dVar 1)) (bin2 dSub (dC (.int 0)) (bin2 dGcd (dVar 0) (dVar 1)))) (startE 3 none [] [.int t, .int (b : Nat)]) = some (.nx ⟨[some (.int t), some (.int (b : Nat)), some (.int (Nat.gcd t.natAbs b : Nat))], none, 0, [], true⟩) := by
    unfold sSet dIf
    show (((some (decide ((0 : Int) < (b : Int)))).bind fun c => if c = true then _ else _)).bind _ = _
    rw [decide_eq_true (by omega)]
    rfl
  unfold B_ratio
  rw [sThen_nx a1]
  unfold sRet
  show (((((if ((Nat.gcd t.natAbs b : Nat) : Int) ≠ 0 ∧ ((Nat.gcd t.natAbs b : Nat) : Int).natAbs < 1073741824 then some (PyData.int (t.fdiv ((Nat.gcd t.natAbs b : Nat) : Int))) else none)).bind fun d => ((((if ((Nat.gcd t.natAbs b : Nat) : Int) ≠ 0 ∧ ((Nat.gcd t.natAbs b : Nat) : Int).natAbs < 1073741824 then some (PyData.int ((b : Int).fdiv ((Nat.gcd t.natAbs b : Nat) : Int))) else none)).bind fun d => (some ([] : List PyData)).map (d :: ·))).map (d :: ·)).bind fun ds => if ds.length ≤ LIM then some (PyData.tuple ds) else none)).map _ = _
  rw [if_pos hg, if_pos hg]
  rfl
theorem euclid {x0 x1 : Option PyData} {bs : Bool} : ∀ (f a b : Nat), b < f → whileL (bOf (bin2 dNe (dVar 3) (dC (.int 0)))) (sPar 2 3 (sCons (dVar 3) (sCons (bin2 dMod (dFun fInt (dVar 2)) (dVar 3)) sNil))) f ⟨[x0, x1, some (.int (a : Nat)), some (.int (b : Nat))], none, 0, [], bs⟩ = some (.nx ⟨[x0, x1, some (.int (Nat.gcd a b : Nat)), some (.int 0)], none, 0, [], bs⟩)
  | 0, a, b, h => by omega
  | f + 1, a, b, h => by
    show ((dNe (.int (b : Nat)) (.int 0)).bind asB).bind _ = _
    rw [dNe_int]
    by_cases h0 : b = 0
    · subst h0
      show some (SR.nx _) = _
      rw [Nat.gcd_zero_right]
      rfl
    · rw [decide_eq_false (by omega)]
      have e1 : sPar 2 3 (sCons (dVar 3) (sCons (bin2 dMod (dFun fInt (dVar 2)) (dVar 3)) sNil)) ⟨[x0, x1, some (.int (a : Nat)), some (.int (b : Nat))], none, 0, [], bs⟩ = some (.nx ⟨[x0, x1, some (.int (b : Nat)), some (.int ((a % b : Nat) : Int))], none, 0, [], bs⟩) := by
        unfold sPar
        show (((if (b : Int) ≠ 0 then some (PyData.int ((a : Int).fmod (b : Int))) else none).bind fun d => (some ([] : List PyData)).map (d :: ·)).map (PyData.int (b : Nat) :: ·)).bind _ = _
        rw [if_pos (by omega), Int.fmod_eq_emod_of_nonneg _ (by omega), ← Int.natCast_emod]
        rfl
      show (sPar 2 3 _ _).bind _ = _
      rw [e1]
      show whileL _ _ f _ = _
      rw [euclid f b (a % b) (by have := Nat.mod_lt a (Nat.pos_of_ne_zero h0); omega), Nat.gcd_comm a b, Nat.gcd_rec b a, Nat.gcd_comm]
theorem F__law_ratio_low (t : Int) {b : Nat} (hb : 0 < b) (hb2 : b < 1073741824) : F__law_ratio [.int t, .int (b : Nat)] = some (low t b) := by
  have hg := gcd_small (t := t) hb hb2
  let E1 : En := ⟨[some (.int t), some (.int (b : Nat)), some (.int (t.natAbs : Nat)), some (.int (b : Nat))], none, 0, [], true⟩
  let E2 : En := ⟨[some (.int t), some (.int (b : Nat)), some (.int (Nat.gcd t.natAbs b : Nat)), some (.int 0)], none, 0, [], true⟩
  have a1 : sPar 2 3 (sCons (dFun fAbs (dVar 0)) (sCons (dFun fAbs (dVar 1)) sNil)) (startE 4 none [] [.int t, .int (b : Nat)]) = some (.nx E1) := by
    have h1 : (if t < 0 then -t else t) = (t.natAbs : Int) := by split <;> omega
    have h2 : (if (b : Int) < 0 then -(b : Int) else (b : Int)) = (b : Int) := by rw [if_neg (by omega)]
    unfold sPar
    show (some [PyData.int (if t < 0 then -t else t), PyData.int (if (b : Int) < 0 then -(b : Int) else (b : Int))]).bind _ = _
    rw [h1, h2]
    rfl
  have a2 : whileL (bOf (bin2 dNe (dVar 3) (dC (.int 0)))) (sPar 2 3 (sCons (dVar 3) (sCons (bin2 dMod (dFun fInt (dVar 2)) (dVar 3)) sNil))) 1267650600228229401496703205376 E1 = some (.nx E2) := euclid _ _ _ (by omega)
  refine runD_of (r := .rt E2 (low t b)) rfl ?_ rfl
  unfold B__law_ratio
  rw [sThen_nx a1, sThen_nx a2]
  unfold sRet dIf
  show (((some (decide ((0 : Int) < (b : Int)))).bind fun c => if c = true then _ else _)).map _ = _
  rw [decide_eq_true (by omega)]
  show (((((if ((Nat.gcd t.natAbs b : Nat) : Int) ≠ 0 ∧ ((Nat.gcd t.natAbs b : Nat) : Int).natAbs < 1073741824 then some (PyData.int (t.fdiv ((Nat.gcd t.natAbs b : Nat) : Int))) else none)).bind fun d => ((((if ((Nat.gcd t.natAbs b : Nat) : Int) ≠ 0 ∧ ((Nat.gcd t.natAbs b : Nat) : Int).natAbs < 1073741824 then some (PyData.int ((b : Int).fdiv ((Nat.gcd t.natAbs b : Nat) : Int))) else none)).bind fun d => (some ([] : List PyData)).map (d :: ·))).map (d :: ·)).bind fun ds => if ds.length ≤ LIM then some (PyData.tuple ds) else none)).map _ = _
  rw [if_pos hg, if_pos hg]
  rfl
theorem low_of (t : Int) (g b : Nat) (hg : 0 < g) (h : Nat.gcd t.natAbs b = 1) : low (g * t) (g * b) = .tuple [.int t, .int (b : Nat)] := by
  have e : Nat.gcd ((g : Int) * t).natAbs (g * b) = g := by
    rw [Int.natAbs_mul, Int.natAbs_natCast, Nat.gcd_mul_left, h, Nat.mul_one]
  unfold low
  rw [e, Int.natCast_mul, Int.mul_fdiv_cancel_left _ (by omega), Int.mul_fdiv_cancel_left _ (by omega)]
theorem gcd_odd {h : Int} (ho : h % 2 ≠ 0) : Nat.gcd h.natAbs 2 = 1 := by
  rw [Nat.gcd_comm, Nat.gcd_rec, show h.natAbs % 2 = 1 by omega]
  decide
theorem low1 (v : Int) : low v 1 = hf (2 * v) := by
  rw [← rt_hf]
  have := low_of v 1 1 (by decide) (Nat.gcd_one_right _)
  rw [show ((1 : Nat) : Int) * v = v by omega] at this
  exact this
theorem low2 (h : Int) : low h 2 = hf h := by
  unfold hf
  by_cases e : h % 2 = 0
  · rw [if_pos e, if_pos e]
    have := low_of (h / 2) 2 1 (by decide) (Nat.gcd_one_right _)
    rw [show ((2 : Nat) : Int) * (h / 2) = h by omega] at this
    exact this
  · rw [if_neg e, if_neg e]
    have := low_of h 1 2 (by decide) (gcd_odd e)
    rw [show ((1 : Nat) : Int) * h = h by omega] at this
    exact this
theorem low4 (h : Int) : low (2 * h) 4 = hf h := by
  unfold hf
  by_cases e : h % 2 = 0
  · rw [if_pos e, if_pos e]
    have := low_of (h / 2) 4 1 (by decide) (Nat.gcd_one_right _)
    rw [show ((4 : Nat) : Int) * (h / 2) = 2 * h by omega] at this
    exact this
  · rw [if_neg e, if_neg e]
    exact low_of h 2 2 (by decide) (gcd_odd e)
end CD
end
section
set_option maxHeartbeats 1000000
namespace CD
open PySem PySem.Spec PyProof.Rows L2 DL
def hn (h : Int) : Int := if h % 2 = 0 then h / 2 else h
def hd (h : Int) : Nat := if h % 2 = 0 then 1 else 2
theorem hf_eq (h : Int) : hf h = .tuple [.int (hn h), .int (hd h : Nat)] := by
  unfold hf hn hd
  split <;> rfl
theorem hd12 (h : Int) : hd h = 1 ∨ hd h = 2 := by
  unfold hd
  split
  · exact .inl rfl
  · exact .inr rfl
theorem hn_hd (h : Int) : 2 * hn h = h * hd h := by
  unfold hn hd
  split <;> omega
theorem hfx0 (h : Int) : dIx (hf h) (.int 0) = some (.int (hn h)) := by rw [hf_eq]; rfl
theorem hfx1 (h : Int) : dIx (hf h) (.int 1) = some (.int (hd h : Nat)) := by rw [hf_eq]; rfl
theorem sm_hd (h : Int) : sm (hd h : Nat) = true := by rcases hd12 h with e | e <;> rw [e] <;> decide
/-- over the product of the bottoms -/
theorem plus_low (a b : Int) : low (hn a * hd b + hn b * hd a) (hd a * hd b) = hf (a + b) := by
  have h1 := hn_hd a
  have h2 := hn_hd b
  rcases hd12 a with ea | ea <;> rcases hd12 b with eb | eb <;> rw [ea] at h1 ⊢ <;> rw [eb] at h2 ⊢
  · rw [low1]
    congr 1
    omega
  · rw [low2]
    congr 1
    omega
  · rw [low2]
    congr 1
    omega
  · rw [show hn a * ((2 : Nat) : Int) + hn b * ((2 : Nat) : Int) = 2 * (a + b) by omega]
    exact low4 _
theorem mulD (h : Int) (v : Int) : dMul (.int v) (.int (hd h : Nat)) = some (.int (v * hd h)) := mulS2 (sm_hd h)
theorem mulDD (a b : Int) : dMul (.int (hd a : Nat)) (.int (hd b : Nat)) = some (.int ((hd a * hd b : Nat) : Int)) := by
  rw [mulD, Int.natCast_mul]
theorem hd_pos (a b : Int) : 0 < hd a * hd b ∧ hd a * hd b < 1073741824 := by
  rcases hd12 a with ea | ea <;> rcases hd12 b with eb | eb <;> rw [ea, eb] <;> decide
theorem call2 {F : List PyData → Option PyData} {f g : En → Option PyData} {ρ : En} {a b : PyData} (h1 : f ρ = some a) (h2 : g ρ = some b) : dCall F (sCons f (sCons g sNil)) ρ = F [a, b] := by
  unfold dCall sCons sNil
  rw [h1, h2]
  rfl
theorem sRet_of {f : En → Option PyData} {ρ : En} {d : PyData} (h : f ρ = some d) : sRet f ρ = some (.rt ρ d) := by
  unfold sRet
  rw [h]
  rfl
def hfE (a b : Int) : En := ⟨[some (hf a), some (hf b)], none, 0, [], true⟩
theorem hfE_1 (a b : Int) : bin2 dAdd (bin2 dMul (bin2 dIx (dVar 0) (dC (.int 0))) (bin2 dIx (dVar 1) (dC (.int 1)))) (bin2 dMul (bin2 dIx (dVar 1) (dC (.int 0))) (bin2 dIx (dVar 0) (dC (.int 1)))) (hfE a b) = some (.int (hn a * hd b + hn b * hd a)) := by
  unfold hfE
  simp only [bin2, dVar, dC, hfx0, hfx1, mulD, dAdd, List.getElem?_cons_zero, List.getElem?_cons_succ, Option.join_some, Option.bind_some]
theorem bin2_of {F : PyData → PyData → Option PyData} {f g : En → Option PyData} {ρ : En} {a b d : PyData} (h1 : f ρ = some a) (h2 : g ρ = some b) (h : F a b = some d) : bin2 F f g ρ = some d := by
  unfold bin2
  rw [h1, h2]
  exact h
theorem hfE_2 (a b : Int) : bin2 dMul (bin2 dIx (dVar 0) (dC (.int 1))) (bin2 dIx (dVar 1) (dC (.int 1))) (hfE a b) = some (.int ((hd a * hd b : Nat) : Int)) :=
  bin2_of (bin2_of (F := dIx) (a := hf a) rfl rfl (hfx1 a)) (bin2_of (F := dIx) (a := hf b) rfl rfl (hfx1 b)) (mulDD a b)
theorem ratio_pl (a b : Int) : F_ratio [.int (hn a * hd b + hn b * hd a), .int ((hd a * hd b : Nat) : Int)] = some (hf (a + b)) := by
  have h := F_ratio_low (hn a * hd b + hn b * hd a) (hd_pos a b).1 (hd_pos a b).2
  rw [plus_low] at h
  exact h
theorem law_ratio_pl (a b : Int) : F__law_ratio [.int (hn a * hd b + hn b * hd a), .int ((hd a * hd b : Nat) : Int)] = some (hf (a + b)) := by
  have h := F__law_ratio_low (hn a * hd b + hn b * hd a) (hd_pos a b).1 (hd_pos a b).2
  rw [plus_low] at h
  exact h
theorem F_plus_hf (a b : Int) : F_plus [hf a, hf b] = some (hf (a + b)) := by
  have e := sRet_of ((call2 (F := F_ratio) (hfE_1 a b) (hfE_2 a b)).trans (ratio_pl a b))
  exact runD_of (r := .rt (hfE a b) (hf (a + b))) rfl e rfl
theorem F__law_plus_hf (a b : Int) : F__law_plus [hf a, hf b] = some (hf (a + b)) := by
  have e := sRet_of ((call2 (F := F__law_ratio) (hfE_1 a b) (hfE_2 a b)).trans (law_ratio_pl a b))
  exact runD_of (r := .rt (hfE a b) (hf (a + b))) rfl e rfl
theorem less_hf (a b : Int) : decide (hn a * hd b < hn b * hd a) = decide (a < b) := by
  have h1 := hn_hd a
  have h2 := hn_hd b
  rcases hd12 a with ea | ea <;> rcases hd12 b with eb | eb <;> rw [ea] at h1 ⊢ <;> rw [eb] at h2 ⊢ <;> (congr 1; apply propext; omega)
theorem F_less_hf (a b : Int) : F_less [hf a, hf b] = some (.bool (decide (a < b))) := by
  refine runD_of (r := .rt ⟨[some (hf a), some (hf b)], none, 0, [], true⟩ (.bool (decide (a < b)))) rfl ?_ rfl
  unfold B_less
  rw [← less_hf]
  simp [sRet, bin2, dVar, dC, startE, hfx0, hfx1, mulD, dLt]
theorem F__law_less_hf (a b : Int) : F__law_less [hf a, hf b] = some (.bool (decide (a < b))) := by
  refine runD_of (r := .rt ⟨[some (hf a), some (hf b)], none, 0, [], true⟩ (.bool (decide (a < b)))) rfl ?_ rfl
  unfold B__law_less
  rw [← less_hf]
  simp [sRet, bin2, dVar, dC, startE, hfx0, hfx1, mulD, dLt]
theorem hn_inj {a b : Int} (h : hf a = hf b) : a = b := by
  rw [hf_eq, hf_eq] at h
  have h3 : hn a = hn b ∧ ((hd a : Nat) : Int) = hd b := by simpa using h
  have h1 := hn_hd a
  have h2 := hn_hd b
  rcases hd12 a with ea | ea <;> rcases hd12 b with eb | eb <;> rw [ea] at h1 h3 <;> rw [eb] at h2 h3 <;> omega
theorem eqv_hf (a b : Int) : PyData.eqv (hf a) (hf b) = decide (a = b) := by
  have : PyData.eqv (hf a) (hf b) = (decide (hn a = hn b) && decide (((hd a : Nat) : Int) = hd b)) := by
    rw [hf_eq, hf_eq, PyData.eqv, PyData.eqvAll, PyData.eqvAll, PyData.eqvAll, eqv_int, eqv_int, Bool.and_true]
  rw [this]
  have h1 := hn_hd a
  have h2 := hn_hd b
  by_cases e : a = b
  · subst e
    simp
  · rw [decide_eq_false e, Bool.and_eq_false_iff, decide_eq_false_iff_not, decide_eq_false_iff_not]
    rcases hd12 a with ea | ea <;> rcases hd12 b with eb | eb <;> rw [ea] at h1 ⊢ <;> rw [eb] at h2 ⊢ <;> omega
theorem dEq_hf (a b : Int) : dEq (hf a) (hf b) = some (.bool (decide (a = b))) := by
  show (if SeqAt.shaped (hf a) && SeqAt.shaped (hf b) then some (PyData.bool (PyData.eqv (hf a) (hf b))) else none) = _
  rw [if_pos (by rfl), eqv_hf]
theorem sum_hf {np nN : Nat} {FP : List PyData → Option PyData} (hp : ∀ a b, FP [hf a, hf b] = some (hf (a + b))) (vs : List Int) : ∃ x, (sThen (sSet 1 (dTup (sCons (dC (.int 0)) (sCons (dC (.int 1)) sNil)))) (sThen (sFor (sSeq (dVar 0)) (.one 2) (sSet 1 (dCall FP (sCons (dVar 1) (sCons (dVar 2) sNil))))) (sRet (dVar 1)))) (startE 3 none [] [.list (vs.map hf)]) = some (.rt ⟨[some (.list (vs.map hf)), some (hf vs.sum), x], none, 0, [], true⟩ (hf vs.sum)) := by
  obtain ⟨ρ', h1, x, h2⟩ := forL_inv (tg := .one 2) (body := sSet 1 (dCall FP (sCons (dVar 1) (sCons (dVar 2) sNil)))) (fun k ρ => ∃ x, ρ = (⟨[some (.list (vs.map hf)), some (hf (vs.take k).sum), x], none, 0, [], false⟩ : En)) (ds := vs.map hf) (k := 0) (ρ := ⟨[some (.list (vs.map hf)), some (hf 0), none], none, 0, [], false⟩) ⟨none, rfl⟩ (fun i d ρ hd hI => by
      obtain ⟨x, rfl⟩ := hI
      rw [List.getElem?_map] at hd
      obtain ⟨v, hv, rfl⟩ := Option.map_eq_some_iff.mp hd
      rw [Nat.zero_add]
      refine ⟨⟨[some (.list (vs.map hf)), some (hf (vs.take i).sum), some (hf v)], none, 0, [], false⟩, ⟨[some (.list (vs.map hf)), some (hf ((vs.take i).sum + v)), some (hf v)], none, 0, [], false⟩, rfl, ?_, some (hf v), ?_⟩
      · simp [sSet, dCall, sCons, sNil, dVar, hp, setE]
      · rw [List.take_add_one, hv, List.sum_append]
        simp)
  rw [Nat.zero_add, List.length_map, List.take_length] at h2
  subst h2
  refine ⟨x, ?_⟩
  rw [sThen_nx (ρ' := ⟨[some (.list (vs.map hf)), some (hf 0), none], none, 0, [], true⟩) rfl]
  rw [sThen_nx (sFor_nx (ds := vs.map hf) rfl rfl h1 rfl)]
  rfl
theorem F_sum_of_hf (vs : List Int) : F_sum_of [.list (vs.map hf)] = some (hf vs.sum) := by
  obtain ⟨x, h⟩ := sum_hf (np := 1) (nN := 3) F_plus_hf vs
  exact runD_of rfl h rfl
theorem F__law_sum_hf (vs : List Int) : F__law_sum [.list (vs.map hf)] = some (hf vs.sum) := by
  obtain ⟨x, h⟩ := sum_hf (np := 1) (nN := 3) F__law_plus_hf vs
  exact runD_of rfl h rfl
end CD
end
section
set_option maxHeartbeats 1000000
namespace CD
open PySem PySem.Spec PyProof.Rows L2 DL
/-! ### rules by a list of things -/
section
variable {α : Type} {ix : Nat} {el : En → Option PyData} {ρ : En} {it : En → Option (List PyData)}
theorem anyL_map (h : α → PyData) (p : α → Bool) : ∀ {xs : List α}, (∀ x ∈ xs, ∃ ρ1, setE ix (h x) ρ = some ρ1 ∧ el ρ1 = some (.bool (p x))) → anyL ix el ρ (xs.map h) = some (xs.any p)
  | [], _ => rfl
  | x :: xs, hh => by
    obtain ⟨ρ1, h1, h2⟩ := hh x List.mem_cons_self
    have ih := anyL_map h p (xs := xs) fun y hy => hh y (List.mem_cons_of_mem _ hy)
    show ((setE ix (h x) ρ).bind fun ρ1 => ((el ρ1).bind asB).bind fun b => if b = true then some true else anyL ix el ρ (xs.map h)) = _
    rw [h1, Option.bind_some, h2]
    show (if p x = true then some true else anyL ix el ρ (xs.map h)) = some (p x || xs.any p)
    cases p x with
    | true => rfl
    | false => rw [if_neg Bool.false_ne_true, ih]; rfl
theorem allL_map (h : α → PyData) (p : α → Bool) : ∀ {xs : List α}, (∀ x ∈ xs, ∃ ρ1, setE ix (h x) ρ = some ρ1 ∧ el ρ1 = some (.bool (p x))) → allL ix el ρ (xs.map h) = some (xs.all p)
  | [], _ => rfl
  | x :: xs, hh => by
    obtain ⟨ρ1, h1, h2⟩ := hh x List.mem_cons_self
    have ih := allL_map h p (xs := xs) fun y hy => hh y (List.mem_cons_of_mem _ hy)
    show ((setE ix (h x) ρ).bind fun ρ1 => ((el ρ1).bind asB).bind fun b => if b = true then allL ix el ρ (xs.map h) else some false) = _
    rw [h1, Option.bind_some, h2]
    show (if p x = true then allL ix el ρ (xs.map h) else some false) = some (p x && xs.all p)
    cases p x with
    | true => rw [if_pos rfl, ih]; rfl
    | false => rfl
theorem sumL_map (h : α → PyData) (g : α → Int) : ∀ {xs : List α}, (∀ x ∈ xs, ∃ ρ1, setE ix (h x) ρ = some ρ1 ∧ el ρ1 = some (.int (g x)) ∧ g x ≤ 1000000 ∧ -1000000 ≤ g x) → sumL ix el ρ (xs.map h) = some (xs.map g)
  | [], _ => rfl
  | x :: xs, hh => by
    obtain ⟨ρ1, h1, h2, h3⟩ := hh x List.mem_cons_self
    have ih := sumL_map h g (xs := xs) fun y hy => hh y (List.mem_cons_of_mem _ hy)
    show ((setE ix (h x) ρ).bind fun ρ1 => ((el ρ1).bind asInt).bind fun n => if n ≤ 1000000 ∧ -1000000 ≤ n then (sumL ix el ρ (xs.map h)).map (n :: ·) else none) = _
    rw [h1, Option.bind_some, h2]
    show (if g x ≤ 1000000 ∧ -1000000 ≤ g x then (sumL ix el ρ (xs.map h)).map (g x :: ·) else none) = _
    rw [if_pos h3, ih]
    rfl
theorem dAny_map {xs : List α} (h : α → PyData) (p : α → Bool) (hi : it ρ = some (xs.map h)) (hh : ∀ x ∈ xs, ∃ ρ1, setE ix (h x) (wipeE [ix] ρ) = some ρ1 ∧ el ρ1 = some (.bool (p x))) : dAny ix it el ρ = some (.bool (xs.any p)) := by
  unfold dAny
  rw [hi, Option.bind_some, anyL_map h p hh]
  rfl
theorem dAll_map {xs : List α} (h : α → PyData) (p : α → Bool) (hi : it ρ = some (xs.map h)) (hh : ∀ x ∈ xs, ∃ ρ1, setE ix (h x) (wipeE [ix] ρ) = some ρ1 ∧ el ρ1 = some (.bool (p x))) : dAll ix it el ρ = some (.bool (xs.all p)) := by
  unfold dAll
  rw [hi, Option.bind_some, allL_map h p hh]
  rfl
theorem dSumG_map {xs : List α} (h : α → PyData) (g : α → Int) (hi : it ρ = some (xs.map h)) (hl : xs.length ≤ LIM) (hh : ∀ x ∈ xs, ∃ ρ1, setE ix (h x) (wipeE [ix] ρ) = some ρ1 ∧ el ρ1 = some (.int (g x)) ∧ g x ≤ 1000000 ∧ -1000000 ≤ g x) : dSumG ix it el ρ = some (.int (xs.map g).sum) := by
  unfold dSumG
  rw [hi, Option.bind_some, if_pos (by rw [List.length_map]; exact hl), sumL_map h g hh]
  rfl
end
/-! ### lots -/
def lots : Nat → List (List Nat)
  | 0 => [[]]
  | n + 1 => lots n ++ (lots n).map fun l => l ++ [n]
def pD (r : Nat) : PyData := .int ((1 : Int) + (r : Nat))
def lotD (l : List Nat) : PyData := .tuple (l.map pD)
def lotsD (ls : List (List Nat)) : PyData := .list (ls.map lotD)
theorem lots_len : ∀ n, (lots n).length = 2 ^ n
  | 0 => rfl
  | n + 1 => by
    show (lots n ++ (lots n).map fun l => l ++ [n]).length = _
    rw [List.length_append, List.length_map, lots_len n, Nat.pow_succ]
    omega
theorem lots_len6 {n : Nat} (h : n ≤ 6) : (lots n).length ≤ 64 := by
  rw [lots_len]
  exact Nat.pow_le_pow_right (by decide) h
theorem lots_lt : ∀ {n : Nat} {l : List Nat}, l ∈ lots n → ∀ r ∈ l, r < n
  | 0, l, h, r, hr => by
    rw [List.mem_singleton.mp h] at hr
    cases hr
  | n + 1, l, h, r, hr => by
    rcases List.mem_append.mp h with h | h
    · have := lots_lt h r hr
      omega
    · obtain ⟨l', h', rfl⟩ := List.mem_map.mp h
      rcases List.mem_append.mp hr with hr | hr
      · have := lots_lt h' r hr
        omega
      · rw [List.mem_singleton.mp hr]
        omega
theorem lots_sort : ∀ {n : Nat} {l : List Nat}, l ∈ lots n → l.Pairwise (· < ·)
  | 0, l, h => by
    rw [List.mem_singleton.mp h]
    exact List.Pairwise.nil
  | n + 1, l, h => by
    rcases List.mem_append.mp h with h | h
    · exact lots_sort h
    · obtain ⟨l', h', rfl⟩ := List.mem_map.mp h
      refine List.pairwise_append.mpr ⟨lots_sort h', List.pairwise_singleton _ _, fun a ha b hb => ?_⟩
      rw [List.mem_singleton.mp hb]
      exact lots_lt h' a ha
theorem lots_all : ∀ {n : Nat} {l : List Nat}, l.Pairwise (· < ·) → (∀ r ∈ l, r < n) → l ∈ lots n
  | 0, l, _, h => by
    cases l with
    | nil => exact List.mem_singleton.mpr rfl
    | cons r l => exact absurd (h r List.mem_cons_self) (by omega)
  | n + 1, l, hs, h => by
    rcases List.eq_nil_or_concat l with rfl | ⟨l', m, e⟩
    · exact List.mem_append_left _ (lots_all List.Pairwise.nil fun r hr => by cases hr)
    · have e : l = l' ++ [m] := by rw [e]; simp
      subst e
      obtain ⟨h1, _, h2⟩ := List.pairwise_append.mp hs
      have h2 : ∀ r ∈ l', r < m := fun r hr => h2 r hr m (List.mem_singleton.mpr rfl)
      have hm := h m (List.mem_append_right _ (List.mem_singleton.mpr rfl))
      by_cases e : m = n
      · subst e
        exact List.mem_append_right _ (List.mem_map.mpr ⟨l', lots_all h1 h2, rfl⟩)
      · refine List.mem_append_left _ (lots_all hs fun r hr => ?_)
        rcases List.mem_append.mp hr with hr | hr
        · have := h2 r hr
          omega
        · rw [List.mem_singleton.mp hr]
          omega
theorem lots_size : ∀ {n : Nat} {l : List Nat}, l ∈ lots n → l.length ≤ n
  | 0, l, h => by
    rw [List.mem_singleton.mp h]
    exact Nat.le_refl _
  | n + 1, l, h => by
    rcases List.mem_append.mp h with h | h
    · have := lots_size h
      omega
    · obtain ⟨l', h', rfl⟩ := List.mem_map.mp h
      have := lots_size h'
      rw [List.length_append, List.length_singleton]
      omega
theorem lots_filter {n : Nat} (p : Nat → Bool) : (List.range n).filter p ∈ lots n :=
  lots_all (List.Pairwise.sublist List.filter_sublist List.pairwise_lt_range) fun r hr => List.mem_range.mp (List.mem_filter.mp hr).1
theorem lot_sm (g : Nat → Int) : ∀ {n : Nat} {l : List Nat}, l ∈ lots n → SX.sm n (fun r => (if r ∈ l then 1 else 0) * g r) = (l.map g).sum
  | 0, l, h => by
    rw [List.mem_singleton.mp h]
    rfl
  | n + 1, l, h => by
    show SX.sm n (fun r => (if r ∈ l then 1 else 0) * g r) + (if n ∈ l then 1 else 0) * g n = _
    rcases List.mem_append.mp h with h | h
    · rw [if_neg fun hn => absurd (lots_lt h n hn) (by omega), lot_sm g h]
      omega
    · obtain ⟨l', h', rfl⟩ := List.mem_map.mp h
      rw [SX.sm_congr (g := fun r => (if r ∈ l' then 1 else 0) * g r) fun r hr => ?_, lot_sm g h', if_pos (List.mem_append_right _ (List.mem_singleton.mpr rfl)), List.map_append, List.sum_append]
      · show _ = _ + (g n + 0)
        omega
      · have : r ∈ l' ++ [n] ↔ r ∈ l' := by
          rw [List.mem_append, List.mem_singleton]
          exact ⟨fun z => z.elim id fun e => absurd hr (by omega), Or.inl⟩
        by_cases hr : r ∈ l'
        · rw [if_pos hr, if_pos (this.mpr hr)]
        · rw [if_neg hr, if_neg fun z => hr (this.mp z)]
/-! ### the two defs that list all lots -/
theorem lots_run {EL : En → Option PyData} (hEL : ∀ (l : List Nat) (k : Nat) (x0 x1 : Option PyData), l.length ≤ 900 → EL ⟨[x0, x1, some (pD k), some (lotD l)], none, 0, [], false⟩ = some (lotD (l ++ [k]))) {n : Nat} (hn : n ≤ 6) :
    ∃ x2, (sThen (sSet 1 (dLst (sCons (dTup sNil) sNil))) (sThen (sFor (sRng2 (dC (.int 1)) (bin2 dAdd (dVar 0) (dC (.int 1)))) (.one 2) (sSet 1 (bin2 dAdd (dVar 1) (dComp [3] (sSeq (dVar 1)) (.one 3) bYes EL)))) (sRet (dVar 1)))) (startE 4 none [] [.int (n : Nat)])
      = some (.rt ⟨[some (.int (n : Nat)), some (lotsD (lots n)), x2, none], none, 0, [], true⟩ (lotsD (lots n))) := by
  obtain ⟨ρ', h1, h2⟩ := forL_inv (tg := .one 2) (body := sSet 1 (bin2 dAdd (dVar 1) (dComp [3] (sSeq (dVar 1)) (.one 3) bYes EL))) (fun k ρ => ∃ x2, ρ = (⟨[some (.int (n : Nat)), some (lotsD (lots k)), x2, none], none, 0, [], false⟩ : En)) (ds := (List.range n).map fun i => PyData.int ((1 : Int) + (i : Nat))) (k := 0) (ρ := ⟨[some (.int (n : Nat)), some (lotsD (lots 0)), none, none], none, 0, [], false⟩) ⟨none, rfl⟩ (fun i d ρ hd hI => by
    obtain ⟨x2, rfl⟩ := hI
    have hi : i < n := by
      have := (List.getElem?_eq_some_iff.mp hd).1
      rwa [List.length_map, List.length_range] at this
    rw [List.getElem?_map, List.getElem?_range hi] at hd
    have hd := Option.some.inj hd
    subst hd
    rw [Nat.zero_add]
    have hl : (lots i).length ≤ 64 := lots_len6 (by omega)
    refine ⟨⟨[some (.int (n : Nat)), some (lotsD (lots i)), some (pD i), none], none, 0, [], false⟩, ⟨[some (.int (n : Nat)), some (lotsD (lots (i + 1))), some (pD i), none], none, 0, [], false⟩, rfl, ?_, some (pD i), rfl⟩
    have e1 : dComp [3] (sSeq (dVar 1)) (.one 3) bYes EL ⟨[some (.int (n : Nat)), some (lotsD (lots i)), some (pD i), none], none, 0, [], false⟩ = some (.list ((lots i).map fun l => lotD (l ++ [i]))) :=
      dComp_map (xs := lots i) lotD (fun l => lotD (l ++ [i])) rfl (by show (lots i).length ≤ 1000; omega) fun l hl => ⟨_, rfl, rfl, hEL l i _ _ (by have := lots_size hl; omega)⟩
    have e2 : bin2 dAdd (dVar 1) (dComp [3] (sSeq (dVar 1)) (.one 3) bYes EL) ⟨[some (.int (n : Nat)), some (lotsD (lots i)), some (pD i), none], none, 0, [], false⟩ = some (lotsD (lots (i + 1))) := by
      unfold bin2
      rw [e1]
      show (if ((lots i).map lotD).length + ((lots i).map fun l => lotD (l ++ [i])).length ≤ LIM then some (PyData.list ((lots i).map lotD ++ (lots i).map fun l => lotD (l ++ [i]))) else none) = _
      rw [if_pos (by rw [List.length_map, List.length_map]; show _ ≤ 1000; omega)]
      show _ = some (PyData.list ((lots i ++ (lots i).map fun l => l ++ [i]).map lotD))
      rw [List.map_append, List.map_map]
      rfl
    unfold sSet
    rw [e2]
    rfl)
  rw [Nat.zero_add, List.length_map, List.length_range] at h2
  obtain ⟨x2, rfl⟩ := h2
  refine ⟨x2, ?_⟩
  rw [sThen_nx (ρ' := ⟨[some (.int (n : Nat)), some (lotsD (lots 0)), none, none], none, 0, [], true⟩) rfl]
  rw [sThen_nx (sFor_nx rfl (dRng2 rfl (by omega)) h1 rfl)]
  rfl
theorem F_lots_of1 {n : Nat} (hn : n ≤ 6) : F_lots_of [.int (n : Nat)] = some (lotsD (lots n)) := by
  obtain ⟨x2, h⟩ := lots_run (EL := dTup (sStar (dVar 3) (sCons (dVar 2) sNil))) (fun l k x0 x1 hl => by
    show (if (l.map pD ++ [pD k]).length ≤ LIM then some (PyData.tuple (l.map pD ++ [pD k])) else none) = _
    rw [if_pos (by rw [List.length_append, List.length_map, List.length_singleton]; show _ ≤ 1000; omega)]
    unfold lotD
    rw [List.map_append]
    rfl) hn
  exact runD_of rfl h rfl
theorem F__law_lots1 {n : Nat} (hn : n ≤ 6) : F__law_lots [.int (n : Nat)] = some (lotsD (lots n)) := by
  obtain ⟨x2, h⟩ := lots_run (EL := bin2 dAdd (dVar 3) (dTup (sCons (dVar 2) sNil))) (fun l k x0 x1 hl => by
    show (if (l.map pD).length + 1 ≤ LIM then some (PyData.tuple (l.map pD ++ [pD k])) else none) = _
    rw [if_pos (by rw [List.length_map]; show _ ≤ 1000; omega)]
    unfold lotD
    rw [List.map_append]
    rfl) hn
  exact runD_of rfl h rfl
end CD
end
section
set_option maxHeartbeats 1000000
namespace CD
open PySem PySem.Spec PyProof.Rows L2 DL
open PySem.W (alike alikeAll maxD dataLt dataLt_tuple dataLt_all_yes dataLt_all_no dataLt_int)
theorem dFun_of {F : PyData → Option PyData} {f : En → Option PyData} {ρ : En} {a d : PyData} (h : f ρ = some a) (h2 : F a = some d) : dFun F f ρ = some d := by
  unfold dFun
  rw [h]
  exact h2
theorem bOf_of {f : En → Option PyData} {ρ : En} {b : Bool} (h : f ρ = some (.bool b)) : bOf f ρ = some b := by
  unfold bOf
  rw [h]
  rfl
theorem bNot_of {t : En → Option Bool} {ρ : En} {b : Bool} (h : t ρ = some b) : bNot t ρ = some (!b) := by
  unfold bNot
  rw [h]
  rfl
theorem bOr_of {t u : En → Option Bool} {ρ : En} {a b : Bool} (h : t ρ = some a) (h2 : a = false → u ρ = some b) : bOr t u ρ = some (a || b) := by
  unfold bOr
  rw [h]
  cases a with
  | true => rfl
  | false => exact h2 rfl
theorem bAnd_of {t u : En → Option Bool} {ρ : En} {a b : Bool} (h : t ρ = some a) (h2 : a = true → u ρ = some b) : bAnd t u ρ = some (a && b) := by
  unfold bAnd
  rw [h]
  cases a with
  | false => rfl
  | true => exact h2 rfl
theorem call1 {F : List PyData → Option PyData} {f : En → Option PyData} {ρ : En} {a : PyData} (h1 : f ρ = some a) : dCall F (sCons f sNil) ρ = F [a] := by
  unfold dCall sCons sNil
  rw [h1]
  rfl
theorem call3 {F : List PyData → Option PyData} {f g h : En → Option PyData} {ρ : En} {a b c : PyData} (h1 : f ρ = some a) (h2 : g ρ = some b) (h3 : h ρ = some c) : dCall F (sCons f (sCons g (sCons h sNil))) ρ = F [a, b, c] := by
  unfold dCall sCons sNil
  rw [h1, h2, h3]
  rfl
theorem call4 {F : List PyData → Option PyData} {f g h k : En → Option PyData} {ρ : En} {a b c d : PyData} (h1 : f ρ = some a) (h2 : g ρ = some b) (h3 : h ρ = some c) (h4 : k ρ = some d) : dCall F (sCons f (sCons g (sCons h (sCons k sNil)))) ρ = F [a, b, c, d] := by
  unfold dCall sCons sNil
  rw [h1, h2, h3, h4]
  rfl
theorem sSet_of {i : Nat} {f : En → Option PyData} {ρ ρ' : En} {d : PyData} (h : f ρ = some d) (h2 : setE i d ρ = some ρ') : sSet i f ρ = some (.nx ρ') := by
  unfold sSet
  rw [h, Option.bind_some, h2]
  rfl
/-! ### data of lots -/
def tupI (ns : List Int) : PyData := .tuple (ns.map PyData.int)
def lotI (l : List Nat) : List Int := l.map fun r => (1 : Int) + (r : Nat)
theorem lotD_tupI (l : List Nat) : lotD l = tupI (lotI l) := by
  unfold lotD tupI lotI
  rw [List.map_map]
  rfl
theorem lotI_inj : ∀ {l m : List Nat}, lotI l = lotI m → l = m
  | [], [], _ => rfl
  | [], _ :: _, h => by cases h
  | _ :: _, [], h => by cases h
  | a :: l, b :: m, h => by
    have h : ((1 : Int) + (a : Nat)) :: lotI l = ((1 : Int) + (b : Nat)) :: lotI m := h
    obtain ⟨h1, h2⟩ := List.cons.inj h
    rw [lotI_inj h2, show a = b by omega]
theorem asInts_map : ∀ ns : List Int, asInts (ns.map PyData.int) = some ns
  | [] => rfl
  | n :: ns => by
    show (asInts (ns.map PyData.int)).map (n :: ·) = _
    rw [asInts_map ns]
    rfl
theorem asInts_lot (l : List Nat) : asInts (l.map pD) = some (lotI l) := by
  have := asInts_map (lotI l)
  unfold lotI at this
  rw [List.map_map] at this
  exact this
def inL (l : List Nat) (a : Int) : Bool := (lotI l).any fun m => m == a
theorem inL_iff {l : List Nat} {a : Int} : inL l a = true ↔ ∃ r ∈ l, (1 : Int) + (r : Nat) = a := by
  unfold inL lotI
  rw [List.any_map, List.any_eq_true]
  constructor
  · rintro ⟨r, h1, h2⟩
    exact ⟨r, h1, eq_of_beq h2⟩
  · rintro ⟨r, h1, h2⟩
    exact ⟨r, h1, beq_iff_eq.mpr h2⟩
theorem inL_mem {l : List Nat} {r : Nat} : inL l ((1 : Int) + (r : Nat)) = true ↔ r ∈ l := by
  rw [inL_iff]
  constructor
  · rintro ⟨s, h1, h2⟩
    rw [show r = s by omega]
    exact h1
  · exact fun h => ⟨r, h, rfl⟩
theorem dIn_lot (a : Int) (l : List Nat) : dIn (.int a) (lotD l) = some (.bool (inL l a)) := by
  show (asInts (l.map pD)).map (fun ns => PyData.bool (ns.any fun n => n == a)) = _
  rw [asInts_lot]
  rfl
/-! ### shaped data -/
def Sh (k : Nat) (d : PyData) : Prop := d.canLay0 = true ∧ d.depth ≤ k
theorem Sh.int (i : Int) : Sh 0 (.int i) := ⟨by simp [PyData.canLay0], by simp [PyData.depth]⟩
theorem Sh.all {k : Nat} : ∀ {xs : List PyData}, (∀ x ∈ xs, Sh k x) → PyData.canLayAll0 xs = true ∧ PyData.depthAll xs ≤ k
  | [], _ => ⟨by simp [PyData.canLayAll0], by simp [PyData.depthAll]⟩
  | x :: xs, h => by
    have h1 := h x List.mem_cons_self
    have h2 := Sh.all (xs := xs) fun y hy => h y (List.mem_cons_of_mem _ hy)
    refine ⟨?_, ?_⟩
    · rw [PyData.canLayAll0, h1.1, h2.1]
      rfl
    · rw [PyData.depthAll]
      exact Nat.max_le.mpr ⟨h1.2, h2.2⟩
theorem Sh.list {k : Nat} {xs : List PyData} (h : ∀ x ∈ xs, Sh k x) : Sh (k + 1) (.list xs) := by
  have := Sh.all h
  exact ⟨by rw [PyData.canLay0]; exact this.1, by rw [PyData.depth]; omega⟩
theorem Sh.tup {k : Nat} {xs : List PyData} (h : ∀ x ∈ xs, Sh k x) : Sh (k + 1) (.tuple xs) := by
  have := Sh.all h
  exact ⟨by rw [PyData.canLay0]; exact this.1, by rw [PyData.depth]; omega⟩
theorem Sh.ok {k : Nat} {d : PyData} (h : Sh k d) (hk : k ≤ 64 := by decide) : SeqAt.shaped d = true := by
  unfold SeqAt.shaped
  rw [h.1, decide_eq_true (Nat.le_trans h.2 hk)]
  rfl
theorem Sh.ints (ns : List Int) : ∀ x ∈ ns.map PyData.int, Sh 0 x := fun x hx => by
  obtain ⟨i, _, rfl⟩ := List.mem_map.mp hx
  exact .int i
theorem Sh.tupI (ns : List Int) : Sh 1 (tupI ns) := .tup (.ints ns)
theorem Sh.lotsD (ls : List (List Nat)) : Sh 2 (lotsD ls) := .list fun x hx => by
  obtain ⟨l, _, rfl⟩ := List.mem_map.mp hx
  rw [lotD_tupI]
  exact .tupI _
theorem dEq_sh {k : Nat} {a b : PyData} (ha : Sh k a) (hb : Sh k b) (hk : k ≤ 64 := by decide) : dEq a b = some (.bool (PyData.eqv a b)) := by
  unfold dEq
  rw [ha.ok hk, hb.ok hk]
  rfl
theorem dNe_sh {k : Nat} {a b : PyData} (ha : Sh k a) (hb : Sh k b) (hk : k ≤ 64 := by decide) : dNe a b = some (.bool (!PyData.eqv a b)) := by
  unfold dNe
  rw [ha.ok hk, hb.ok hk]
  rfl
theorem Sh.up {k j : Nat} {d : PyData} (h : Sh k d) (hk : k ≤ j) : Sh j d := ⟨h.1, Nat.le_trans h.2 hk⟩
theorem eqvAll_ints : ∀ ns ms : List Int, PyData.eqvAll (ns.map PyData.int) (ms.map PyData.int) = decide (ns = ms)
  | [], [] => by simp [PyData.eqvAll]
  | [], _ :: _ => by simp [PyData.eqvAll]
  | _ :: _, [] => by simp [PyData.eqvAll]
  | n :: ns, m :: ms => by
    rw [List.map_cons, List.map_cons, PyData.eqvAll, eqv_int, eqvAll_ints ns ms]
    by_cases h : n = m <;> by_cases h2 : ns = ms <;> simp [h, h2]
theorem eqv_tupI (ns ms : List Int) : PyData.eqv (tupI ns) (tupI ms) = decide (ns = ms) := by
  unfold tupI
  rw [PyData.eqv]
  exact eqvAll_ints ns ms
theorem eqv_nil : ∀ xs : List PyData, PyData.eqv (.list xs) (.list []) = xs.isEmpty
  | [] => by simp [PyData.eqv, PyData.eqvAll]
  | _ :: _ => by simp [PyData.eqv, PyData.eqvAll]
/-- equal to the empty list -/
theorem dEq_nil {k : Nat} {xs : List PyData} (h : ∀ x ∈ xs, Sh k x) (hk : k + 1 ≤ 64 := by decide) : dEq (.list xs) (.list []) = some (.bool xs.isEmpty) := by
  rw [dEq_sh (k := k + 1) (.list h) (.list fun x hx => by cases hx) hk, eqv_nil]
theorem dNe_nil {k : Nat} {xs : List PyData} (h : ∀ x ∈ xs, Sh k x) (hk : k + 1 ≤ 64 := by decide) : dNe (.list xs) (.list []) = some (.bool (!xs.isEmpty)) := by
  rw [dNe_sh (k := k + 1) (.list h) (.list fun x hx => by cases hx) hk, eqv_nil]
theorem dIn_lots (ns : List Int) (ls : List (List Nat)) : dIn (tupI ns) (lotsD ls) = some (.bool (ls.any fun l => decide (lotI l = ns))) := by
  show (if SeqAt.shaped (tupI ns) && SeqAt.shaped (lotsD ls) then some (PyData.bool ((ls.map lotD).any fun z => PyData.eqv z (tupI ns))) else none) = _
  rw [(Sh.tupI ns).ok, (Sh.lotsD ls).ok, List.any_map]
  show some (PyData.bool (ls.any fun l => PyData.eqv (lotD l) (tupI ns))) = _
  have : (fun l => PyData.eqv (lotD l) (tupI ns)) = fun l => decide (lotI l = ns) := funext fun l => by rw [lotD_tupI, eqv_tupI]
  rw [this]
theorem findJ_lots (l : List Nat) : ∀ (j : Nat) (ls : List (List Nat)), l ∈ ls → ∃ i, findJ (lotD l) j (ls.map lotD) = some (j + i) ∧ ls[i]? = some l
  | j, [], h => by cases h
  | j, m :: ls, h => by
    show ∃ i, (if PyData.eqv (lotD m) (lotD l) = true then some j else findJ (lotD l) (j + 1) (ls.map lotD)) = some (j + i) ∧ (m :: ls)[i]? = some l
    rw [lotD_tupI m, lotD_tupI l, eqv_tupI]
    by_cases e : lotI m = lotI l
    · rw [decide_eq_true e, if_pos rfl]
      exact ⟨0, rfl, by rw [lotI_inj e]; rfl⟩
    · rw [decide_eq_false e, if_neg Bool.false_ne_true]
      rcases List.mem_cons.mp h with rfl | h
      · exact absurd rfl e
      · obtain ⟨i, h1, h2⟩ := findJ_lots l (j + 1) ls h
        refine ⟨i + 1, ?_, h2⟩
        rw [← lotD_tupI, h1]
        congr 1
        omega
theorem dIdx_lots {l : List Nat} {ls : List (List Nat)} (h : l ∈ ls) : ∃ i : Nat, dIdx (lotsD ls) (lotD l) = some (.int (i : Nat)) ∧ ls[i]? = some l := by
  obtain ⟨i, h1, h2⟩ := findJ_lots l 0 ls h
  refine ⟨i, ?_, h2⟩
  show (if SeqAt.shaped (lotsD ls) && SeqAt.shaped (lotD l) then (findJ (lotD l) 0 (ls.map lotD)).map fun j => PyData.int (j : Nat) else none) = _
  rw [(Sh.lotsD ls).ok, show SeqAt.shaped (lotD l) = true by rw [lotD_tupI]; exact (Sh.tupI _).ok, h1, Nat.zero_add]
  rfl
/-! ### parties and gains -/
def isP (ch : Nat → Nat) (l : List Nat) : Bool := !l.any fun r => inL l (ch r : Nat)
def gnOf (gn : Nat → Nat) (l : List Nat) : Int := (l.map fun r => (gn r : Int)).sum
def good (n : Nat) (ch : Nat → Nat) : List (List Nat) := (lots n).filter (isP ch)
section
variable {n : Nat} {ch rk gn : Nat → Nat}
theorem F_is_party1 {l : List Nat} (hl : ∀ r ∈ l, r < n) : F_is_party [chD n ch, lotD l] = some (.bool (isP ch l)) := by
  let E : En := ⟨[some (chD n ch), some (lotD l), none], none, 0, [], true⟩
  refine runD_of (r := .rt E (.bool (isP ch l))) rfl ?_ rfl
  have e : dAny 2 (sSeq (dVar 1)) (bin2 dIn (bin2 dIx (dVar 0) (bin2 dSub (dVar 2) (dC (.int 1)))) (dVar 1)) E = some (.bool (l.any fun r => inL l (ch r : Nat))) := by
    refine dAny_map (xs := l) pD (fun r => inL l (ch r : Nat)) rfl fun r hr => ⟨⟨[some (chD n ch), some (lotD l), some (pD r)], none, 0, [], false⟩, rfl, ?_⟩
    show (dIx (chD n ch) (.int ((1 : Int) + (r : Nat) - 1))).bind (fun a => dIn a (lotD l)) = _
    rw [chD_ix1 (hl r hr)]
    exact dIn_lot _ _
  show (vNot (dAny 2 (sSeq (dVar 1)) (bin2 dIn (bin2 dIx (dVar 0) (bin2 dSub (dVar 2) (dC (.int 1)))) (dVar 1))) E).map _ = _
  unfold vNot
  rw [e]
  rfl
theorem F_gain_of1 {l : List Nat} (hl : ∀ r ∈ l, r < n) (h9 : l.length ≤ LIM) (hg : ∀ r, r < n → gn r < 9) : F_gain_of [chD n gn, lotD l] = some (.int (gnOf gn l)) := by
  let E : En := ⟨[some (chD n gn), some (lotD l), none], none, 0, [], true⟩
  refine runD_of (r := .rt E (.int (gnOf gn l))) rfl ?_ rfl
  have e : dSumG 2 (sSeq (dVar 1)) (bin2 dIx (dVar 0) (bin2 dSub (dVar 2) (dC (.int 1)))) E = some (.int (gnOf gn l)) := by
    refine dSumG_map (xs := l) pD (fun r => (gn r : Int)) rfl h9 fun r hr => ⟨⟨[some (chD n gn), some (lotD l), some (pD r)], none, 0, [], false⟩, rfl, ?_, ?_, ?_⟩
    · exact chD_ix1 (hl r hr)
    · have := hg r (hl r hr)
      omega
    · omega
  show (dSumG 2 (sSeq (dVar 1)) (bin2 dIx (dVar 0) (bin2 dSub (dVar 2) (dC (.int 1)))) E).map _ = _
  rw [e]
  rfl
def prD (gn : Nat → Nat) (l : List Nat) : PyData := .tuple [.int (gnOf gn l), lotD l]
theorem aPair_prD (l : List Nat) : aPair (prD gn l) = true := by
  show (asInts (l.map pD)).isSome = true
  rw [asInts_lot]
  rfl
theorem prD_lt {l m : List Nat} (h : gnOf gn l ≠ gnOf gn m) : dataLt (prD gn l) (prD gn m) = decide (gnOf gn l < gnOf gn m) := by
  unfold prD
  rw [dataLt_tuple, dataLt_all_no (by simp [alike]) (by rw [eqv_int, decide_eq_false h]), dataLt_int]
theorem maxP (l : List Nat) : ∀ ls : List (List Nat), ∃ m ∈ l :: ls, maxD (prD gn l) (ls.map (prD gn)) = prD gn m ∧ ∀ k ∈ l :: ls, gnOf gn k ≤ gnOf gn m := by
  intro ls
  induction ls generalizing l with
  | nil => exact ⟨l, List.mem_cons_self, rfl, fun k hk => by rw [List.mem_singleton.mp hk]; exact Int.le_refl _⟩
  | cons y ls ih =>
    have hs : ∃ z, (z = l ∨ z = y) ∧ (if dataLt (prD gn l) (prD gn y) = true then prD gn y else prD gn l) = prD gn z ∧ gnOf gn l ≤ gnOf gn z ∧ gnOf gn y ≤ gnOf gn z := by
      by_cases e : gnOf gn l = gnOf gn y
      · cases dataLt (prD gn l) (prD gn y) with
        | true => exact ⟨y, .inr rfl, rfl, by omega, by omega⟩
        | false => exact ⟨l, .inl rfl, rfl, by omega, by omega⟩
      · rw [prD_lt e]
        by_cases h : gnOf gn l < gnOf gn y
        · rw [decide_eq_true h]
          exact ⟨y, .inr rfl, rfl, by omega, by omega⟩
        · rw [decide_eq_false h]
          exact ⟨l, .inl rfl, rfl, by omega, by omega⟩
    obtain ⟨z, hz, hz2, hz3, hz4⟩ := hs
    obtain ⟨m, h1, h2, h3⟩ := ih z
    refine ⟨m, ?_, ?_, fun k hk => ?_⟩
    · rcases List.mem_cons.mp h1 with rfl | h
      · rcases hz with rfl | rfl
        · exact List.mem_cons_self
        · exact List.mem_cons_of_mem _ List.mem_cons_self
      · exact List.mem_cons_of_mem _ (List.mem_cons_of_mem _ h)
    · unfold maxD at h2 ⊢
      rw [List.map_cons, List.foldl_cons, hz2]
      exact h2
    · have hmz := h3 z List.mem_cons_self
      rcases List.mem_cons.mp hk with rfl | hk
      · omega
      · rcases List.mem_cons.mp hk with rfl | hk
        · omega
        · exact h3 k (List.mem_cons_of_mem _ hk)
theorem good_lots {l : List Nat} (h : l ∈ good n ch) : l ∈ lots n := (List.mem_filter.mp h).1
theorem nil_good : [] ∈ good n ch := List.mem_filter.mpr ⟨lots_all List.Pairwise.nil (fun r hr => by cases hr), rfl⟩
theorem good_len {n : Nat} {ch : Nat → Nat} (h : n ≤ 6) : (good n ch).length ≤ 64 := Nat.le_trans (List.length_filter_le _ _) (lots_len6 h)
/-- the best: its gain and a party -/
structure Best (n : Nat) (ch gn : Nat → Nat) (l : List Nat) : Prop where
  mem : l ∈ good n ch
  top : ∀ m ∈ good n ch, gnOf gn m ≤ gnOf gn l
theorem F_best_of1 (h6 : n ≤ 6) (hg : ∀ r, r < n → gn r < 9) : ∃ l, Best n ch gn l ∧ F_best_of [chD n ch, chD n gn] = some (prD gn l) := by
  let E : En := ⟨[some (chD n ch), some (chD n gn), none], none, 0, [], true⟩
  have hi : sSeq (dCall F_lots_of (sCons (dFun fLen (dVar 0)) sNil)) E = some ((lots n).map lotD) := by
    unfold sSeq dCall sCons
    rw [chD_len (n := n) (f := ch) rfl]
    show (F_lots_of [.int (n : Nat)]).bind items = _
    rw [F_lots_of1 h6]
    rfl
  have e : dComp [2] (sSeq (dCall F_lots_of (sCons (dFun fLen (dVar 0)) sNil))) (.one 2) (bOf (dCall F_is_party (sCons (dVar 0) (sCons (dVar 2) sNil)))) (dTup (sCons (dCall F_gain_of (sCons (dVar 1) (sCons (dVar 2) sNil))) (sCons (dVar 2) sNil))) E = some (.list ((good n ch).map (prD gn))) := by
    have hL : (lots n).length ≤ 64 := lots_len6 h6
    refine dComp_fm (xs := lots n) (isP ch) lotD (prD gn) hi (by show _ ≤ 1000; omega) fun l hl => ⟨⟨[some (chD n ch), some (chD n gn), some (lotD l)], none, 0, [], false⟩, rfl, ?_, fun _ => ?_⟩
    · show (F_is_party [chD n ch, lotD l]).bind asB = _
      rw [F_is_party1 (lots_lt hl)]
      rfl
    · show ((((F_gain_of [chD n gn, lotD l])).bind fun d => (some [lotD l]).map (d :: ·)).bind fun ds => if ds.length ≤ LIM then some (PyData.tuple ds) else none) = _
      have := lots_size hl
      rw [F_gain_of1 (lots_lt hl) (by show _ ≤ 1000; omega) hg]
      rfl
  cases hgd : good n ch with
  | nil =>
    have := nil_good (n := n) (ch := ch)
    rw [hgd] at this
    cases this
  | cons x xs =>
    obtain ⟨m, h1, h2, h3⟩ := maxP (gn := gn) x xs
    refine ⟨m, ⟨by rw [hgd]; exact h1, fun k hk => h3 k (by rw [hgd] at hk; exact hk)⟩, ?_⟩
    refine runD_of (r := .rt E (prD gn m)) rfl ?_ rfl
    show (dFun fMaxP (dComp [2] (sSeq (dCall F_lots_of (sCons (dFun fLen (dVar 0)) sNil))) (.one 2) (bOf (dCall F_is_party (sCons (dVar 0) (sCons (dVar 2) sNil)))) (dTup (sCons (dCall F_gain_of (sCons (dVar 1) (sCons (dVar 2) sNil))) (sCons (dVar 2) sNil)))) E).map _ = _
    have e2 : fMaxP (.list ((good n ch).map (prD gn))) = some (prD gn m) := by
      rw [hgd]
      show (if ((x :: xs).map (prD gn)).all aPair = true then some (maxD (prD gn x) (xs.map (prD gn))) else none) = _
      rw [if_pos (by rw [List.all_map]; exact List.all_eq_true.mpr fun l _ => aPair_prD l), h2]
    rw [dFun_of e e2]
    rfl
theorem F_best_party1 (F : Fo n ch rk) (h1 : 1 ≤ n) (h6 : n ≤ 6) (hg : ∀ r, r < n → gn r < 9) : ∃ l, Best n ch gn l ∧ F_best_party [chD n ch, chD n gn] = some (prD gn l) := by
  obtain ⟨l, hb, e⟩ := F_best_of1 (ch := ch) h6 hg
  refine ⟨l, hb, ?_⟩
  let E : En := ⟨[some (chD n ch), some (chD n gn)], none, 0, [], true⟩
  refine runD_of (r := .rt E (prD gn l)) rfl ?_ rfl
  have a1 : sExp (dCall F_need_gains (sCons (dVar 0) (sCons (dVar 1) sNil))) E = some (.nx E) := by
    unfold sExp
    show (F_need_gains [chD n ch, chD n gn]).map _ = _
    rw [F_need_gains1 F h1 h6 hg]
    rfl
  show B_best_party E = _
  unfold B_best_party
  rw [sThen_nx a1]
  show (F_best_of [chD n ch, chD n gn]).map _ = _
  rw [e]
  rfl
theorem F_party_count1 (F : Fo n ch rk) (h1 : 1 ≤ n) (h6 : n ≤ 6) : F_party_count [chD n ch] = some (.int ((good n ch).length : Nat)) := by
  let E : En := ⟨[some (chD n ch), none], none, 0, [], true⟩
  refine runD_of (r := .rt E (.int ((good n ch).length : Nat))) rfl ?_ rfl
  have a1 : sExp (dCall F_need_chart (sCons (dVar 0) sNil)) E = some (.nx E) := by
    unfold sExp
    show (F_need_chart [chD n ch]).map _ = _
    rw [F_need_chart1 F h1 h6]
    rfl
  have hi : sSeq (dCall F_lots_of (sCons (dFun fLen (dVar 0)) sNil)) E = some ((lots n).map lotD) := by
    unfold sSeq dCall sCons
    rw [chD_len (n := n) (f := ch) rfl]
    show (F_lots_of [.int (n : Nat)]).bind items = _
    rw [F_lots_of1 h6]
    rfl
  have hL : (lots n).length ≤ 64 := lots_len6 h6
  have e : dComp [1] (sSeq (dCall F_lots_of (sCons (dFun fLen (dVar 0)) sNil))) (.one 1) (bOf (dCall F_is_party (sCons (dVar 0) (sCons (dVar 1) sNil)))) (dC (.int 1)) E = some (.list ((good n ch).map fun _ => .int 1)) := by
    refine dComp_fm (xs := lots n) (isP ch) lotD (fun _ => .int 1) hi (by show _ ≤ 1000; omega) fun l hl => ⟨⟨[some (chD n ch), some (lotD l)], none, 0, [], false⟩, rfl, ?_, fun _ => rfl⟩
    show (F_is_party [chD n ch, lotD l]).bind asB = _
    rw [F_is_party1 (lots_lt hl)]
    rfl
  show B_party_count E = _
  unfold B_party_count
  rw [sThen_nx a1]
  refine sRet_of (dFun_of e ?_)
  show some (PyData.int (((good n ch).map fun _ => PyData.int 1).length : Nat)) = _
  rw [List.length_map]
end
end CD
end
section
set_option maxHeartbeats 1000000
namespace CD
open PySem PySem.Spec PyProof.Rows L2 DL
/-! ### loops that return at the first that fails -/
theorem forL_all {α : Type} {tg : Tgt} {body : En → Option SR} (I : En → Prop) (h : α → PyData) (p : α → Bool) (r : PyData) : ∀ {xs : List α} {ρ : En}, I ρ → (∀ x ∈ xs, ∀ ρ, I ρ → ∃ ρ1 ρ2, setT tg (h x) ρ = some ρ1 ∧ body ρ1 = some (if p x = true then .nx ρ2 else .rt ρ2 r) ∧ I ρ2) →
    ∃ ρ', forL tg body (xs.map h) ρ = some (if xs.all p = true then .nx ρ' else .rt ρ' r) ∧ I ρ'
  | [], ρ, h0, _ => ⟨ρ, rfl, h0⟩
  | x :: xs, ρ, h0, hh => by
    obtain ⟨ρ1, ρ2, h1, h2, h3⟩ := hh x List.mem_cons_self ρ h0
    have e : forL tg body ((x :: xs).map h) ρ = (setT tg (h x) ρ).bind fun ρ1 => (body ρ1).bind fun r => thenE r (forL tg body (xs.map h)) := rfl
    rw [e, h1, Option.bind_some, h2, Option.bind_some, List.all_cons]
    cases hp : p x with
    | false => exact ⟨ρ2, rfl, h3⟩
    | true =>
      obtain ⟨ρ', h4, h5⟩ := forL_all I h p r (xs := xs) (ρ := ρ2) h3 fun y hy => hh y (List.mem_cons_of_mem _ hy)
      exact ⟨ρ', h4, h5⟩
theorem sFor_all {α : Type} {it : En → Option (List PyData)} {tg : Tgt} {body : En → Option SR} {ρ : En} {xs : List α} (I : En → Prop) (h : α → PyData) (p : α → Bool) (r : PyData) (ho : ρ.ow = []) (hi : it (hideE ρ) = some (xs.map h)) (h0 : I (hideE ρ)) (hI : ∀ ρ', I ρ' → sameE ρ ρ' = true)
    (hh : ∀ x ∈ xs, ∀ ρ, I ρ → ∃ ρ1 ρ2, setT tg (h x) ρ = some ρ1 ∧ body ρ1 = some (if p x = true then .nx ρ2 else .rt ρ2 r) ∧ I ρ2) :
    ∃ ρ', I ρ' ∧ sFor it tg body ρ = some (if xs.all p = true then .nx ⟨ρ'.sl, ρ.me, ρ.mi, [], ρ.base⟩ else .rt ⟨ρ'.sl, ρ.me, ρ.mi, [], ρ.base⟩ r) := by
  obtain ⟨ρ', h1, h2⟩ := forL_all (tg := tg) (body := body) I h p r h0 hh
  refine ⟨ρ', h2, ?_⟩
  cases hp : xs.all p with
  | true =>
    rw [hp] at h1
    exact sFor_nx ho hi h1 (hI _ h2)
  | false =>
    rw [hp] at h1
    exact sFor_rt ho hi h1 (hI _ h2)
/-! ### are_people -/
def ascP (n : Nat) (ns : List Int) : Bool := (ns.all fun i => decide (1 ≤ i) && decide (i ≤ (n : Int))) && (List.range (ns.length - 1)).all fun k => decide (ns.getD k 0 < ns.getD (k + 1) 0)
theorem tupI_at {ns : List Int} {k : Nat} (h : k < ns.length) : atI (ns.map PyData.int) (k : Int) = some (.int (ns.getD k 0)) := by
  rw [DL.atI_nat, List.getElem?_map]
  simp [h]
theorem F_are_people1 {n : Nat} {ns : List Int} (hl : ns.length ≤ 900) : F_are_people [.int (n : Nat), tupI ns] = some (.bool (ascP n ns)) := by
  let E : En := ⟨[some (.int (n : Nat)), some (tupI ns), none, none], none, 0, [], true⟩
  refine runD_of (r := .rt E (.bool (ascP n ns))) rfl ?_ rfl
  have t2 : dAll 2 (sSeq (dVar 1)) (dCall F_is_in (sCons (dVar 2) (sCons (dC (.int 1)) (sCons (dVar 0) sNil)))) E = some (.bool (ns.all fun i => decide (1 ≤ i) && decide (i ≤ (n : Int)))) :=
    dAll_map (xs := ns) PyData.int (fun i => decide (1 ≤ i) && decide (i ≤ (n : Int))) rfl fun i hi => ⟨⟨[some (.int (n : Nat)), some (tupI ns), some (.int i), none], none, 0, [], false⟩, rfl, F_is_in1 i 1 n⟩
  have hi : sRng1 (bin2 dSub (dFun fLen (dVar 1)) (dC (.int 1))) E = some ((List.range (ns.length - 1)).map fun k => PyData.int ((0 : Int) + (k : Nat))) := by
    show (if (((ns.map PyData.int).length : Nat) : Int) - 1 ≤ 1000 ∧ -1000 ≤ (((ns.map PyData.int).length : Nat) : Int) - 1 then some (rangeL 0 ((((ns.map PyData.int).length : Nat) : Int) - 1).toNat) else none) = _
    rw [List.length_map, if_pos ⟨by omega, by omega⟩, show ((ns.length : Int) - 1).toNat = ns.length - 1 by omega]
    rfl
  have t3 : dAll 3 (sRng1 (bin2 dSub (dFun fLen (dVar 1)) (dC (.int 1)))) (bin2 dLt (bin2 dIx (dVar 1) (dVar 3)) (bin2 dIx (dVar 1) (bin2 dAdd (dVar 3) (dC (.int 1))))) E = some (.bool ((List.range (ns.length - 1)).all fun k => decide (ns.getD k 0 < ns.getD (k + 1) 0))) := by
    refine dAll_map (xs := List.range (ns.length - 1)) (fun k => PyData.int ((0 : Int) + (k : Nat))) (fun k => decide (ns.getD k 0 < ns.getD (k + 1) 0)) hi fun k hk => ⟨⟨[some (.int (n : Nat)), some (tupI ns), none, some (.int ((0 : Int) + (k : Nat)))], none, 0, [], false⟩, rfl, ?_⟩
    have hk := List.mem_range.mp hk
    show (atI (ns.map PyData.int) ((0 : Int) + (k : Nat))).bind (fun a => (atI (ns.map PyData.int) ((0 : Int) + (k : Nat) + 1)).bind fun b => dLt a b) = _
    rw [show (0 : Int) + (k : Nat) = ((k : Nat) : Int) by omega, show ((k : Nat) : Int) + 1 = ((k + 1 : Nat) : Int) by omega, tupI_at (by omega), tupI_at (by omega)]
    rfl
  show B_are_people E = _
  unfold B_are_people
  have a1 : sIf (bOr (bNot (bOf (dIsi "tuple" (dVar 1)))) (bNot (bOf (dAll 2 (sSeq (dVar 1)) (dCall F_is_in (sCons (dVar 2) (sCons (dC (.int 1)) (sCons (dVar 0) sNil)))))))) (sRet (dC (.bool false))) sSkip E = some (if (ns.all fun i => decide (1 ≤ i) && decide (i ≤ (n : Int))) = true then .nx E else .rt E (.bool false)) := by
    have t0 : bNot (bOf (dIsi "tuple" (dVar 1))) E = some false := rfl
    unfold sIf bOr
    rw [t0]
    unfold bNot bOf
    rw [t2]
    cases (ns.all fun i => decide (1 ≤ i) && decide (i ≤ (n : Int))) <;> rfl
  unfold ascP
  cases h1 : ns.all fun i => decide (1 ≤ i) && decide (i ≤ (n : Int)) with
  | false =>
    rw [h1] at a1
    rw [sThen_rt a1]
    rfl
  | true =>
    rw [h1] at a1
    rw [sThen_nx a1]
    unfold sRet
    rw [t3]
    rfl
theorem asc_lots {n : Nat} {l : List Nat} (h : l ∈ lots n) : ascP n (lotI l) = true := by
  unfold ascP
  rw [Bool.and_eq_true, List.all_eq_true, List.all_eq_true]
  refine ⟨fun i hi => ?_, fun k hk => ?_⟩
  · obtain ⟨r, hr, rfl⟩ := List.mem_map.mp hi
    have := lots_lt h r hr
    rw [Bool.and_eq_true, decide_eq_true_iff, decide_eq_true_iff]
    omega
  · have hk := List.mem_range.mp hk
    rw [decide_eq_true_iff]
    have hl : (lotI l).length = l.length := List.length_map ..
    have := List.pairwise_iff_getElem.mp (lots_sort h) k (k + 1) (by omega) (by omega) (by omega)
    have e1 : (lotI l).getD k 0 = 1 + ((l[k]'(by omega) : Nat) : Int) := by
      unfold lotI
      simp [show k < l.length by omega]
    have e2 : (lotI l).getD (k + 1) 0 = 1 + ((l[k + 1]'(by omega) : Nat) : Int) := by
      unfold lotI
      simp [show k + 1 < l.length by omega]
    rw [e1, e2]
    omega
theorem asc_of {n : Nat} {ns : List Int} (h : ascP n ns = true) : ∃ l ∈ lots n, lotI l = ns := by
  unfold ascP at h
  rw [Bool.and_eq_true, List.all_eq_true, List.all_eq_true] at h
  obtain ⟨h1, h2⟩ := h
  have h1 : ∀ i ∈ ns, 1 ≤ i ∧ i ≤ (n : Int) := fun i hi => by
    have := h1 i hi
    rw [Bool.and_eq_true, decide_eq_true_iff, decide_eq_true_iff] at this
    exact this
  have h2 : ∀ k, k + 1 < ns.length → ns.getD k 0 < ns.getD (k + 1) 0 := fun k hk => of_decide_eq_true (h2 k (List.mem_range.mpr (by omega)))
  have h3 : ∀ i j : Nat, i < j → j < ns.length → ns.getD i 0 < ns.getD j 0 := fun i j => by
    induction j with
    | zero => intro h; omega
    | succ j ih =>
      intro hij hj
      have := h2 j hj
      by_cases e : i = j
      · rw [e]
        exact this
      · have := ih (by omega) (by omega)
        omega
  have e : ∀ i ∈ ns, (1 : Int) + (((i - 1).toNat : Nat) : Int) = i := fun i hi => by
    have := h1 i hi
    omega
  refine ⟨ns.map fun i => (i - 1).toNat, lots_all ?_ fun r hr => ?_, ?_⟩
  · rw [List.pairwise_iff_getElem]
    intro i j hi hj hij
    rw [List.length_map] at hi hj
    have h4 := h3 i j hij hj
    have e1 : ns.getD i 0 = ns[i] := by simp [hi]
    have e2 : ns.getD j 0 = ns[j] := by simp [hj]
    have := h1 ns[i] (List.getElem_mem hi)
    rw [List.getElem_map, List.getElem_map]
    omega
  · obtain ⟨i, hi, rfl⟩ := List.mem_map.mp hr
    have := h1 i hi
    omega
  · unfold lotI
    rw [List.map_map]
    exact (List.map_congr_left e).trans (List.map_id _)
theorem F_are_people_not {d w : PyData} (h : isTy "tuple" w = false) : F_are_people [d, w] = some (.bool false) := by
  let E : En := ⟨[some d, some w, none, none], none, 0, [], true⟩
  refine runD_of (r := .rt E (.bool false)) rfl ?_ rfl
  have t0 : bNot (bOf (dIsi "tuple" (dVar 1))) E = some true := by
    show some (!isTy "tuple" w) = _
    rw [h]
    rfl
  have a1 : sIf (bOr (bNot (bOf (dIsi "tuple" (dVar 1)))) (bNot (bOf (dAll 2 (sSeq (dVar 1)) (dCall F_is_in (sCons (dVar 2) (sCons (dC (.int 1)) (sCons (dVar 0) sNil)))))))) (sRet (dC (.bool false))) sSkip E = some (.rt E (.bool false)) := by
    unfold sIf bOr
    rw [t0]
    rfl
  show B_are_people E = _
  unfold B_are_people
  rw [sThen_rt a1]
/-! ### shows_best_party -/
section
variable {n : Nat} {ch rk gn : Nat → Nat}
def sbT1 : En → Option Bool := bOr (bNot (bOf (dIsi "tuple" (dVar 2)))) (bOr (bOf (bin2 dNe (dFun fLen (dVar 2)) (dC (.int 2)))) (bNot (bOf (dCall F_is_in (sCons (bin2 dIx (dVar 2) (dC (.int 0))) (sCons (dVar 3) (sCons (dVar 3) sNil)))))))
def sbT2 : En → Option Bool := bOr (bNot (bOf (dCall F_are_people (sCons (dFun fLen (dVar 0)) (sCons (bin2 dIx (dVar 2) (dC (.int 1))) sNil))))) (bNot (bOf (dCall F_is_party (sCons (dVar 0) (sCons (bin2 dIx (dVar 2) (dC (.int 1))) sNil)))))
def sbR : En → Option PyData := bin2 dEq (dCall F_gain_of (sCons (dVar 1) (sCons (bin2 dIx (dVar 2) (dC (.int 1))) sNil))) (dVar 3)
def sbE (n : Nat) (ch gn : Nat → Nat) (v : PyData) (b : Int) : En := ⟨[some (chD n ch), some (chD n gn), some v, some (.int b)], none, 0, [], true⟩
theorem Best.eq {l m : List Nat} (h1 : Best n ch gn l) (h2 : Best n ch gn m) : gnOf gn l = gnOf gn m := by
  have a := h1.top m h2.mem
  have b := h2.top l h1.mem
  omega
theorem sb_head (F : Fo n ch rk) (h1 : 1 ≤ n) (h6 : n ≤ 6) (hg : ∀ r, r < n → gn r < 9) {l0 : List Nat} (hb : Best n ch gn l0) {v d : PyData} {r : SR} (h : sThen (sIf sbT1 (sRet (dC (.bool false))) sSkip) (sThen (sIf sbT2 (sRet (dC (.bool false))) sSkip) (sRet sbR)) (sbE n ch gn v (gnOf gn l0)) = some r) (hr : resD r = some d) : F_shows_best_party [chD n ch, chD n gn, v] = some d := by
  let E : En := ⟨[some (chD n ch), some (chD n gn), some v, none], none, 0, [], true⟩
  refine runD_of (r := r) rfl ?_ hr
  have a1 : sExp (dCall F_need_gains (sCons (dVar 0) (sCons (dVar 1) sNil))) E = some (.nx E) := by
    unfold sExp
    show (F_need_gains [chD n ch, chD n gn]).map _ = _
    rw [F_need_gains1 F h1 h6 hg]
    rfl
  have a2 : sSet 3 (bin2 dIx (dCall F_best_of (sCons (dVar 0) (sCons (dVar 1) sNil))) (dC (.int 0))) E = some (.nx (sbE n ch gn v (gnOf gn l0))) := by
    obtain ⟨l, hl, e⟩ := F_best_of1 (ch := ch) h6 hg
    unfold sSet bin2
    show (((F_best_of [chD n ch, chD n gn]).bind fun a => (some (PyData.int 0)).bind fun b => dIx a b).bind fun d => (setE 3 d E).map SR.nx) = _
    rw [e, hb.eq hl]
    rfl
  show B_shows_best_party E = _
  unfold B_shows_best_party
  rw [sThen_nx a1, sThen_nx a2]
  exact h
theorem sb_false1 (F : Fo n ch rk) (h1 : 1 ≤ n) (h6 : n ≤ 6) (hg : ∀ r, r < n → gn r < 9) {l0 : List Nat} (hb : Best n ch gn l0) {v : PyData} (h : sbT1 (sbE n ch gn v (gnOf gn l0)) = some true) : F_shows_best_party [chD n ch, chD n gn, v] = some (.bool false) := by
  have a : sIf sbT1 (sRet (dC (.bool false))) sSkip (sbE n ch gn v (gnOf gn l0)) = some (.rt (sbE n ch gn v (gnOf gn l0)) (.bool false)) := by
    unfold sIf
    rw [h]
    rfl
  exact sb_head F h1 h6 hg hb (sThen_rt a) rfl
theorem sb_false2 (F : Fo n ch rk) (h1 : 1 ≤ n) (h6 : n ≤ 6) (hg : ∀ r, r < n → gn r < 9) {l0 : List Nat} (hb : Best n ch gn l0) {v : PyData} (h : sbT1 (sbE n ch gn v (gnOf gn l0)) = some false) (h2 : sbT2 (sbE n ch gn v (gnOf gn l0)) = some true) : F_shows_best_party [chD n ch, chD n gn, v] = some (.bool false) := by
  have a : sIf sbT1 (sRet (dC (.bool false))) sSkip (sbE n ch gn v (gnOf gn l0)) = some (.nx (sbE n ch gn v (gnOf gn l0))) := by
    unfold sIf
    rw [h]
    rfl
  have a2 : sIf sbT2 (sRet (dC (.bool false))) sSkip (sbE n ch gn v (gnOf gn l0)) = some (.rt (sbE n ch gn v (gnOf gn l0)) (.bool false)) := by
    unfold sIf
    rw [h2]
    rfl
  exact sb_head F h1 h6 hg hb ((sThen_nx a).trans (sThen_rt a2)) rfl
theorem sb_val (F : Fo n ch rk) (h1 : 1 ≤ n) (h6 : n ≤ 6) (hg : ∀ r, r < n → gn r < 9) {l0 : List Nat} (hb : Best n ch gn l0) {v d : PyData} (h : sbT1 (sbE n ch gn v (gnOf gn l0)) = some false) (h2 : sbT2 (sbE n ch gn v (gnOf gn l0)) = some false) (h3 : sbR (sbE n ch gn v (gnOf gn l0)) = some d) : F_shows_best_party [chD n ch, chD n gn, v] = some d := by
  have a : sIf sbT1 (sRet (dC (.bool false))) sSkip (sbE n ch gn v (gnOf gn l0)) = some (.nx (sbE n ch gn v (gnOf gn l0))) := by
    unfold sIf
    rw [h]
    rfl
  have a2 : sIf sbT2 (sRet (dC (.bool false))) sSkip (sbE n ch gn v (gnOf gn l0)) = some (.nx (sbE n ch gn v (gnOf gn l0))) := by
    unfold sIf
    rw [h2]
    rfl
  refine sb_head F h1 h6 hg hb (r := .rt (sbE n ch gn v (gnOf gn l0)) d) ?_ rfl
  rw [sThen_nx a, sThen_nx a2]
  unfold sRet
  rw [h3]
  rfl
theorem sbT1_tup {v1 w : PyData} {i b : Int} (hv : v1 = .int i) : sbT1 (sbE n ch gn (.tuple [v1, w]) b) = some (!(decide (b ≤ i) && decide (i ≤ b))) := by
  subst hv
  have t0 : bNot (bOf (dIsi "tuple" (dVar 2))) (sbE n ch gn (.tuple [.int i, w]) b) = some false := rfl
  have t1 : bOf (bin2 dNe (dFun fLen (dVar 2)) (dC (.int 2))) (sbE n ch gn (.tuple [.int i, w]) b) = some false := by
    show (dNe (.int 2) (.int 2)).bind asB = _
    rw [dNe_int]
    rfl
  unfold sbT1 bOr
  rw [t0, t1]
  show ((F_is_in [.int i, .int b, .int b]).bind asB).map (!·) = _
  rw [F_is_in1]
  rfl
/-! ### the law's word -/
def sumsD (n : Nat) (ch gn : Nat → Nat) : PyData := .list ((good n ch).map fun l => PyData.int (gnOf gn l))
def due1 : En → Option PyData := vAnd (dIsi "tuple" (dVar 14)) (vAnd (bin2 dEq (dFun fLen (dVar 14)) (dC (.int 2))) (vAnd (bin2 dEq (bin2 dIx (dVar 14) (dC (.int 0))) (dVar 10)) (dIsi "tuple" (bin2 dIx (dVar 14) (dC (.int 1))))))
def due2 : En → Option PyData := vAnd (dVar 15) (vAnd (bin2 dIn (bin2 dIx (dVar 14) (dC (.int 1))) (dVar 7)) (bin2 dEq (bin2 dIx (dVar 9) (bin2 dIdx (dVar 7) (bin2 dIx (dVar 14) (dC (.int 1))))) (dVar 10)))
structure VOK (n : Nat) (ch gn : Nat → Nat) (best : Int) (v : PyData) : Prop where
  ex : ∃ b1 b : Bool, (∀ ρ, dVar 14 ρ = some v → dVar 10 ρ = some (.int best) → due1 ρ = some (.bool b1)) ∧
    (∀ ρ, dVar 14 ρ = some v → dVar 10 ρ = some (.int best) → dVar 7 ρ = some (lotsD (good n ch)) → dVar 9 ρ = some (sumsD n ch gn) → dVar 15 ρ = some (.bool b1) → due2 ρ = some (.bool b)) ∧
    F_shows_best_party [chD n ch, chD n gn, v] = some (.bool b)
theorem due2_no {ρ : En} (h : dVar 15 ρ = some (.bool false)) : due2 ρ = some (.bool false) := by
  unfold due2 vAnd
  rw [h]
  rfl
theorem vok_not (F : Fo n ch rk) (h1 : 1 ≤ n) (h6 : n ≤ 6) (hg : ∀ r, r < n → gn r < 9) {l0 : List Nat} (hb : Best n ch gn l0) {v : PyData} (h : isTy "tuple" v = false) : VOK n ch gn (gnOf gn l0) v := by
  refine ⟨false, false, fun ρ hv _ => ?_, fun ρ _ _ _ _ h => due2_no h, sb_false1 F h1 h6 hg hb ?_⟩
  · unfold due1 vAnd dIsi
    rw [hv]
    show (if isTy "tuple" v = true then _ else _) = _
    rw [h]
    rfl
  · unfold sbT1 bOr
    show (some (!isTy "tuple" v)).bind _ = _
    rw [h]
    rfl
theorem vAnd_of {f g : En → Option PyData} {ρ : En} {a b : Bool} (h : f ρ = some (.bool a)) (h2 : a = true → g ρ = some (.bool b)) : vAnd f g ρ = some (.bool (a && b)) := by
  unfold vAnd
  rw [h]
  cases a with
  | false => rfl
  | true => exact h2 rfl
theorem dIsi_of {t : String} {f : En → Option PyData} {ρ : En} {d : PyData} (h : f ρ = some d) : dIsi t f ρ = some (.bool (isTy t d)) := by
  unfold dIsi
  rw [h]
  rfl
theorem due1_tup {ρ : En} {w : PyData} {i best : Int} (hv : dVar 14 ρ = some (.tuple [.int i, w])) (hb : dVar 10 ρ = some (.int best)) : due1 ρ = some (.bool (decide (i = best) && isTy "tuple" w)) := by
  have e := vAnd_of (dIsi_of (t := "tuple") hv) fun _ => vAnd_of (bin2_of (dFun_of (F := fLen) hv (d := .int 2) rfl) (g := dC (.int 2)) rfl (dEq_int 2 2)) fun _ =>
    vAnd_of (bin2_of (bin2_of (F := dIx) hv (g := dC (.int 0)) rfl (d := .int i) rfl) hb (dEq_int i best)) fun _ => dIsi_of (t := "tuple") (bin2_of (F := dIx) hv (g := dC (.int 1)) rfl (d := w) rfl)
  exact e
theorem vok_other (F : Fo n ch rk) (h1 : 1 ≤ n) (h6 : n ≤ 6) (hg : ∀ r, r < n → gn r < 9) {l0 : List Nat} (hb : Best n ch gn l0) {w : PyData} {i : Int} (h : i ≠ gnOf gn l0) : VOK n ch gn (gnOf gn l0) (.tuple [.int i, w]) := by
  refine ⟨false, false, fun ρ hv h10 => ?_, fun ρ _ _ _ _ h => due2_no h, sb_false1 F h1 h6 hg hb ?_⟩
  · rw [due1_tup hv h10, decide_eq_false h]
    rfl
  · rw [sbT1_tup rfl]
    congr 1
    rw [Bool.not_eq_true', Bool.and_eq_false_iff, decide_eq_false_iff_not, decide_eq_false_iff_not]
    omega
theorem sbT1_same {w : PyData} {b : Int} : sbT1 (sbE n ch gn (.tuple [.int b, w]) b) = some false := by
  rw [sbT1_tup rfl, decide_eq_true (Int.le_refl _)]
  rfl
theorem sbT2_eq {w : PyData} {i b : Int} : sbT2 (sbE n ch gn (.tuple [.int i, w]) b) = ((F_are_people [.int (n : Nat), w]).bind asB).bind fun c => if (!c) = true then some true else ((F_is_party [chD n ch, w]).bind asB).map (!·) := by
  have hl : dFun fLen (dVar 0) (sbE n ch gn (.tuple [.int i, w]) b) = some (.int (n : Nat)) := chD_len (n := n) (f := ch) rfl
  unfold sbT2 bOr bNot bOf dCall sCons
  rw [hl]
  show (((F_are_people [.int (n : Nat), w]).bind asB).map (!·)).bind _ = _
  cases (F_are_people [.int (n : Nat), w]).bind asB <;> rfl
theorem vok_untup (F : Fo n ch rk) (h1 : 1 ≤ n) (h6 : n ≤ 6) (hg : ∀ r, r < n → gn r < 9) {l0 : List Nat} (hb : Best n ch gn l0) {w : PyData} (h : isTy "tuple" w = false) : VOK n ch gn (gnOf gn l0) (.tuple [.int (gnOf gn l0), w]) := by
  refine ⟨false, false, fun ρ hv h10 => ?_, fun ρ _ _ _ _ h => due2_no h, sb_false2 F h1 h6 hg hb sbT1_same ?_⟩
  · rw [due1_tup hv h10, h, Bool.and_false]
  · rw [sbT2_eq, F_are_people_not h]
    rfl
theorem sums_at {i : Nat} {l : List Nat} (h : (good n ch)[i]? = some l) : dIx (sumsD n ch gn) (.int (i : Nat)) = some (.int (gnOf gn l)) := by
  show atI ((good n ch).map fun l => PyData.int (gnOf gn l)) (i : Int) = _
  rw [DL.atI_nat, List.getElem?_map, h]
  rfl
theorem vok_ints (F : Fo n ch rk) (h1 : 1 ≤ n) (h6 : n ≤ 6) (hg : ∀ r, r < n → gn r < 9) {l0 : List Nat} (hb : Best n ch gn l0) {ns : List Int} (hl : ns.length ≤ 900) : VOK n ch gn (gnOf gn l0) (.tuple [.int (gnOf gn l0), tupI ns]) := by
  have d1 : ∀ ρ, dVar 14 ρ = some (.tuple [.int (gnOf gn l0), tupI ns]) → dVar 10 ρ = some (.int (gnOf gn l0)) → due1 ρ = some (.bool true) := fun ρ hv h10 => by
    rw [due1_tup hv h10, decide_eq_true rfl]
    rfl
  have d2 : ∀ ρ, dVar 14 ρ = some (.tuple [.int (gnOf gn l0), tupI ns]) → dVar 10 ρ = some (.int (gnOf gn l0)) → dVar 7 ρ = some (lotsD (good n ch)) → dVar 9 ρ = some (sumsD n ch gn) → dVar 15 ρ = some (.bool true) →
      due2 ρ = if ((good n ch).any fun l => decide (lotI l = ns)) = true then (((dIdx (lotsD (good n ch)) (tupI ns)).bind fun j => dIx (sumsD n ch gn) j).bind fun a => dEq a (.int (gnOf gn l0))) else some (.bool false) := fun ρ hv h10 h7 h9 h15 => by
    unfold due2 vAnd bin2
    rw [hv, h10, h7, h9, h15]
    show (((dIn (tupI ns) (lotsD (good n ch))).bind asB).bind fun c => if c = true then _ else _) = _
    rw [dIn_lots]
    rfl
  cases ha : ascP n ns with
  | false =>
    refine ⟨true, false, d1, fun ρ hv h10 h7 h9 h15 => ?_, sb_false2 F h1 h6 hg hb sbT1_same ?_⟩
    · rw [d2 ρ hv h10 h7 h9 h15, if_neg]
      rw [List.any_eq_true]
      rintro ⟨l, hl, e⟩
      have e := of_decide_eq_true e
      rw [← e, asc_lots (good_lots hl)] at ha
      cases ha
    · rw [sbT2_eq, F_are_people1 hl, ha]
      rfl
  | true =>
    obtain ⟨l, hl2, rfl⟩ := asc_of ha
    have e2 : F_are_people [.int (n : Nat), tupI (lotI l)] = some (.bool true) := by rw [F_are_people1 hl, ha]
    have e3 : sbT2 (sbE n ch gn (.tuple [.int (gnOf gn l0), tupI (lotI l)]) (gnOf gn l0)) = some (!isP ch l) := by
      rw [sbT2_eq, e2, ← lotD_tupI, F_is_party1 (lots_lt hl2)]
      rfl
    cases hp : isP ch l with
    | false =>
      refine ⟨true, false, d1, fun ρ hv h10 h7 h9 h15 => ?_, sb_false2 F h1 h6 hg hb sbT1_same ?_⟩
      · rw [d2 ρ hv h10 h7 h9 h15, if_neg]
        rw [List.any_eq_true]
        rintro ⟨m, hm, e⟩
        rw [lotI_inj (of_decide_eq_true e)] at hm
        rw [(List.mem_filter.mp hm).2] at hp
        cases hp
      · rw [e3, hp]
        rfl
    | true =>
      have hgd : l ∈ good n ch := List.mem_filter.mpr ⟨hl2, hp⟩
      refine ⟨true, decide (gnOf gn l = gnOf gn l0), d1, fun ρ hv h10 h7 h9 h15 => ?_, sb_val F h1 h6 hg hb sbT1_same (by rw [e3, hp]; rfl) ?_⟩
      · rw [d2 ρ hv h10 h7 h9 h15, if_pos]
        · obtain ⟨i, i1, i2⟩ := dIdx_lots hgd
          rw [← lotD_tupI, i1, Option.bind_some, sums_at i2, Option.bind_some, dEq_int]
        · rw [List.any_eq_true]
          exact ⟨l, hgd, decide_eq_true rfl⟩
      · have hs := lots_size hl2
        show ((F_gain_of [chD n gn, tupI (lotI l)]).bind fun a => dEq a (.int (gnOf gn l0))) = _
        rw [← lotD_tupI, F_gain_of1 (lots_lt hl2) (by show _ ≤ 1000; omega) hg, Option.bind_some, dEq_int]
end
end CD
end
section
set_option maxHeartbeats 1000000
namespace CD
open PySem PySem.Spec PyProof.Rows L2 DL
/-! ### papers -/
def numsD (m : Nat) (f : Nat → Int) : PyData := .tuple ((List.range m).map fun l => hf (f l))
def td (n : Nat) (ch : Nat → Nat) (l : Nat) : Nat := (tied n ch).getD l 0
def inc (n : Nat) (ch : Nat → Nat) (r l : Nat) : Bool := decide (r = td n ch l) || decide (r + 1 = ch (td n ch l))
def held (n : Nat) (ch : Nat → Nat) (p : Nat → Int) (r : Nat) : List Int := ((List.range (tm n ch)).filter (inc n ch r)).map p
def nonneg (m : Nat) (f : Nat → Int) : Bool := (List.range m).all fun l => decide (0 ≤ f l)
def covers (n : Nat) (ch gn : Nat → Nat) (p q : Nat → Int) (r : Nat) : Bool := !decide ((held n ch p r).sum + q r < 2 * (gn r : Int))
def papSum (n : Nat) (ch : Nat → Nat) (p q : Nat → Int) : Int := ((List.range (tm n ch)).map p).sum + ((List.range n).map q).sum
def papOK (n : Nat) (ch gn : Nat → Nat) (best : Int) (p q : Nat → Int) : Bool := ((List.range n).all (covers n ch gn p q)) && decide (papSum n ch p q = 2 * best)
theorem hn_nonneg (a : Int) : decide (0 ≤ hn a) = decide (0 ≤ a) := by
  have h := hn_hd a
  congr 1
  apply propext
  rcases hd12 a with e | e <;> rw [e] at h <;> omega
theorem hn_neg (a : Int) : decide (hn a < 0) = !decide (0 ≤ a) := by
  have h := hn_hd a
  rw [← decide_not]
  congr 1
  apply propext
  rcases hd12 a with e | e <;> rw [e] at h <;> omega
theorem hd_gcd (a : Int) : Nat.gcd (hn a).natAbs (hd a) = 1 := by
  unfold hn hd
  by_cases e : a % 2 = 0
  · rw [if_pos e, if_pos e]
    exact Nat.gcd_one_right _
  · rw [if_neg e, if_neg e]
    exact gcd_odd e
theorem low_hf (a : Int) : low (hn a) (hd a) = hf a := by
  have := low_of (hn a) 1 (hd a) (by decide) (hd_gcd a)
  rw [show ((1 : Nat) : Int) * hn a = hn a by omega, Nat.one_mul] at this
  rw [this, hf_eq]
theorem hd_sm (a : Int) : 0 < hd a ∧ hd a < 1073741824 := by
  rcases hd12 a with e | e <;> rw [e] <;> decide
def hfE1 (a : Int) (x1 : Option PyData) (bs : Bool) : En := ⟨[some (hf a), x1], none, 0, [], bs⟩
theorem hfE1_len {a : Int} {x1 : Option PyData} {bs : Bool} : bOf (bin2 dNe (dFun fLen (dVar 0)) (dC (.int 2))) (hfE1 a x1 bs) = some false :=
  bOf_of (bin2_of (dFun_of (F := fLen) (a := hf a) rfl (d := .int 2) rfl) (g := dC (.int 2)) rfl (dNe_int 2 2))
theorem hfE1_seq {a : Int} {x1 : Option PyData} {bs : Bool} : sSeq (dVar 0) (hfE1 a x1 bs) = some ([hn a, ((hd a : Nat) : Int)].map PyData.int) := by
  show items (hf a) = _
  rw [hf_eq]
  rfl
theorem hfE1_0 {a : Int} {x1 : Option PyData} {bs : Bool} : bin2 dIx (dVar 0) (dC (.int 0)) (hfE1 a x1 bs) = some (.int (hn a)) := bin2_of (F := dIx) (a := hf a) rfl rfl (hfx0 a)
theorem hfE1_1 {a : Int} {x1 : Option PyData} {bs : Bool} : bin2 dIx (dVar 0) (dC (.int 1)) (hfE1 a x1 bs) = some (.int (hd a : Nat)) := bin2_of (F := dIx) (a := hf a) rfl rfl (hfx1 a)
theorem hfE1_pos {a : Int} {x1 : Option PyData} {bs : Bool} : bin2 dGt (bin2 dIx (dVar 0) (dC (.int 1))) (dC (.int 0)) (hfE1 a x1 bs) = some (.bool true) :=
  bin2_of (F := dGt) hfE1_1 (g := dC (.int 0)) rfl (by
    show some (PyData.bool (decide ((0 : Int) < (hd a : Nat)))) = _
    rw [decide_eq_true (by have := (hd_sm a).1; omega)])
theorem F_is_ratio_hf (a : Int) : F_is_ratio [hf a] = some (.bool true) := by
  refine runD_of (r := .rt (hfE1 a none true) (.bool true)) rfl ?_ rfl
  have a1 : sIf (bOr (bNot (bOf (dIsi "tuple" (dVar 0)))) (bOf (bin2 dNe (dFun fLen (dVar 0)) (dC (.int 2))))) (sRet (dC (.bool false))) sSkip (hfE1 a none true) = some (.nx (hfE1 a none true)) := by
    have t := bOr_of (t := bNot (bOf (dIsi "tuple" (dVar 0)))) (a := false) (show _ = _ from rfl) fun _ => hfE1_len (a := a) (x1 := none) (bs := true)
    unfold sIf
    rw [t]
    rfl
  have a2 : sIf (bNot (bOf (dAll 1 (sSeq (dVar 0)) (vAnd (dIsi "int" (dVar 1)) (vNot (dIsi "bool" (dVar 1))))))) (sRet (dC (.bool false))) sSkip (hfE1 a none true) = some (.nx (hfE1 a none true)) := by
    have t := bNot_of (bOf_of (dAll_map (ix := 1) (it := sSeq (dVar 0)) (el := vAnd (dIsi "int" (dVar 1)) (vNot (dIsi "bool" (dVar 1)))) (ρ := hfE1 a none true) (xs := [hn a, ((hd a : Nat) : Int)]) PyData.int (fun _ => true) hfE1_seq fun i _ => ⟨hfE1 a (some (.int i)) false, rfl, rfl⟩))
    unfold sIf
    rw [t]
    rfl
  have e2 : bin2 dEq (bin2 dGcd (bin2 dIx (dVar 0) (dC (.int 0))) (bin2 dIx (dVar 0) (dC (.int 1)))) (dC (.int 1)) (hfE1 a none true) = some (.bool true) :=
    bin2_of (bin2_of (F := dGcd) hfE1_0 hfE1_1 (d := .int 1) (by
      show some (PyData.int ((Nat.gcd (hn a).natAbs ((hd a : Nat) : Int).natAbs : Nat) : Int)) = _
      rw [Int.natAbs_natCast, hd_gcd]
      rfl)) (g := dC (.int 1)) rfl (dEq_int 1 1)
  show B_is_ratio (hfE1 a none true) = _
  unfold B_is_ratio
  rw [sThen_nx a1, sThen_nx a2]
  exact sRet_of (vAnd_of hfE1_pos fun _ => e2)
theorem F__law_is_ratio_hf (a : Int) : F__law_is_ratio [hf a] = some (.bool true) := by
  refine runD_of (r := .rt (hfE1 a none true) (.bool true)) rfl ?_ rfl
  have c : dComp [1] (sSeq (dVar 0)) (.one 1) (bOr (bNot (bOf (dIsi "int" (dVar 1)))) (bOf (dIsi "bool" (dVar 1)))) (dVar 1) (hfE1 a none true) = some (.list (([hn a, ((hd a : Nat) : Int)].filter fun _ => false).map PyData.int)) :=
    dComp_fm (xs := [hn a, ((hd a : Nat) : Int)]) (fun _ => false) PyData.int PyData.int hfE1_seq (by show 2 ≤ 1000; decide) fun i _ => ⟨hfE1 a (some (.int i)) false, rfl, rfl, fun h => by cases h⟩
  have t2 : bOf (bin2 dNe (dComp [1] (sSeq (dVar 0)) (.one 1) (bOr (bNot (bOf (dIsi "int" (dVar 1)))) (bOf (dIsi "bool" (dVar 1)))) (dVar 1)) (dLst sNil)) (hfE1 a none true) = some false :=
    bOf_of (bin2_of (F := dNe) c (b := .list []) rfl (by
      show dNe (.list []) (.list []) = _
      rw [dNe_nil (k := 0) fun x hx => by cases hx]
      rfl))
  have a1 : sIf (bOr (bNot (bOf (dIsi "tuple" (dVar 0)))) (bOr (bOf (bin2 dNe (dFun fLen (dVar 0)) (dC (.int 2)))) (bOf (bin2 dNe (dComp [1] (sSeq (dVar 0)) (.one 1) (bOr (bNot (bOf (dIsi "int" (dVar 1)))) (bOf (dIsi "bool" (dVar 1)))) (dVar 1)) (dLst sNil))))) (sRet (dC (.bool false))) sSkip (hfE1 a none true) = some (.nx (hfE1 a none true)) := by
    have t := bOr_of (t := bNot (bOf (dIsi "tuple" (dVar 0)))) (ρ := hfE1 a none true) (a := false) (show _ = _ from rfl) fun _ => bOr_of hfE1_len fun _ => t2
    unfold sIf
    rw [t]
    rfl
  have e3 : dCall F__law_ratio (sCons (bin2 dIx (dVar 0) (dC (.int 0))) (sCons (bin2 dIx (dVar 0) (dC (.int 1))) sNil)) (hfE1 a none true) = some (hf a) := by
    have h := F__law_ratio_low (hn a) (hd_sm a).1 (hd_sm a).2
    rw [low_hf] at h
    exact (call2 hfE1_0 hfE1_1).trans h
  have e2 : bin2 dEq (dCall F__law_ratio (sCons (bin2 dIx (dVar 0) (dC (.int 0))) (sCons (bin2 dIx (dVar 0) (dC (.int 1))) sNil))) (dVar 0) (hfE1 a none true) = some (.bool true) :=
    bin2_of (F := dEq) e3 (b := hf a) rfl (by rw [dEq_hf, decide_eq_true rfl])
  show B__law_is_ratio (hfE1 a none true) = _
  unfold B__law_is_ratio
  rw [sThen_nx a1]
  exact sRet_of (vAnd_of hfE1_pos fun _ => e2)
theorem F_are_numbers1 (k m : Nat) (f : Nat → Int) : F_are_numbers [.int (k : Nat), numsD m f] = some (.bool (decide (m = k) && nonneg m f)) := by
  let E : En := ⟨[some (.int (k : Nat)), some (numsD m f), none], none, 0, [], true⟩
  refine runD_of (r := .rt E (.bool (decide (m = k) && nonneg m f))) rfl ?_ rfl
  have e1 : bin2 dEq (dFun fLen (dVar 1)) (dVar 0) E = some (.bool (decide (m = k))) := by
    show dEq (.int (((List.range m).map fun l => hf (f l)).length : Nat)) (.int (k : Nat)) = _
    rw [List.length_map, List.length_range, dEq_int]
    congr 2
    apply decide_eq_decide.mpr
    omega
  have e2 : dAll 2 (sSeq (dVar 1)) (vAnd (dCall F_is_ratio (sCons (dVar 2) sNil)) (bin2 dGe (bin2 dIx (dVar 2) (dC (.int 0))) (dC (.int 0)))) E = some (.bool (nonneg m f)) := by
    refine dAll_map (xs := List.range m) (fun l => hf (f l)) (fun l => decide (0 ≤ f l)) rfl fun l _ => ⟨⟨[some (.int (k : Nat)), some (numsD m f), some (hf (f l))], none, 0, [], false⟩, rfl, ?_⟩
    unfold vAnd
    show (((F_is_ratio [hf (f l)]).bind asB).bind fun c => if c = true then some (PyData.bool (decide (0 ≤ hn (f l)))) else some (.bool false)) = _
    rw [F_is_ratio_hf, hn_nonneg]
    rfl
  show (vAnd _ (vAnd (bin2 dEq (dFun fLen (dVar 1)) (dVar 0)) (dAll 2 (sSeq (dVar 1)) (vAnd (dCall F_is_ratio (sCons (dVar 2) sNil)) (bin2 dGe (bin2 dIx (dVar 2) (dC (.int 0))) (dC (.int 0)))))) E).map _ = _
  have e3 : vAnd (dIsi "tuple" (dVar 1)) (vAnd (bin2 dEq (dFun fLen (dVar 1)) (dVar 0)) (dAll 2 (sSeq (dVar 1)) (vAnd (dCall F_is_ratio (sCons (dVar 2) sNil)) (bin2 dGe (bin2 dIx (dVar 2) (dC (.int 0))) (dC (.int 0)))))) E = some (.bool (decide (m = k) && nonneg m f)) := by
    show vAnd (bin2 dEq (dFun fLen (dVar 1)) (dVar 0)) (dAll 2 (sSeq (dVar 1)) (vAnd (dCall F_is_ratio (sCons (dVar 2) sNil)) (bin2 dGe (bin2 dIx (dVar 2) (dC (.int 0))) (dC (.int 0))))) E = _
    unfold vAnd at e2 ⊢
    rw [e1, e2]
    cases decide (m = k) <;> rfl
  rw [e3]
  rfl
theorem F_are_numbers_not {d w : PyData} (h : isTy "tuple" w = false) : F_are_numbers [d, w] = some (.bool false) := by
  let E : En := ⟨[some d, some w, none], none, 0, [], true⟩
  refine runD_of (r := .rt E (.bool false)) rfl ?_ rfl
  show (if isTy "tuple" w = true then _ else some (PyData.bool false)).map _ = _
  rw [h]
  rfl
/-! ### a part of a paper, for both -/
def lpE (n : Nat) (ch gn : Nat → Nat) (best : Int) (v : PyData) (x5 x6 x7 x8 x9 x10 : Option PyData) (bs : Bool) : En := ⟨[some (chD n ch), some (chD n gn), some (.int best), some v, some (tdD n ch), x5, x6, x7, x8, x9, x10], none, 0, [], bs⟩
def lpT : En → Option Bool := bOr (bNot (bOf (dIsi "tuple" (dVar 6)))) (bOr (bOf (bin2 dNe (dFun fLen (dVar 6)) (dVar 7))) (bOf (bin2 dNe (dComp [8] (sSeq (dVar 6)) (.one 8) (bOr (bNot (bOf (dCall F__law_is_ratio (sCons (dVar 8) sNil)))) (bOf (bin2 dLt (bin2 dIx (dVar 8) (dC (.int 0))) (dC (.int 0))))) (dVar 8)) (dLst sNil))))
structure Part (n : Nat) (ch gn : Nat → Nat) (best : Int) (w : PyData) (k : Nat) (b : Bool) : Prop where
  law : ∀ v, lpT (lpE n ch gn best v none (some w) (some (.int (k : Nat))) none none none false) = some (!b)
  prog : F_are_numbers [.int (k : Nat), w] = some (.bool b)
theorem Sh.hf (a : Int) : Sh 1 (CD.hf a) := by
  rw [hf_eq]
  exact .tup fun x hx => by
    rcases List.mem_cons.mp hx with rfl | hx
    · exact .int _
    · rw [List.mem_singleton.mp hx]
      exact .int _
theorem Part.not {n : Nat} {ch gn : Nat → Nat} {best : Int} {w : PyData} {k : Nat} (h : isTy "tuple" w = false) : Part n ch gn best w k false where
  law := fun v => by
    unfold lpT bOr
    show (some (!isTy "tuple" w)).bind _ = _
    rw [h]
    rfl
  prog := F_are_numbers_not h
theorem filter_empty {α : Type} (p : α → Bool) (f : α → PyData) : ∀ xs : List α, ((xs.filter fun x => !p x).map f).isEmpty = xs.all p
  | [] => rfl
  | x :: xs => by
    rw [List.filter_cons, List.all_cons]
    cases p x with
    | true => exact filter_empty p f xs
    | false => rfl
theorem Part.nums {n : Nat} {ch gn : Nat → Nat} {best : Int} {m k : Nat} {f : Nat → Int} (hm : m ≤ LIM) : Part n ch gn best (numsD m f) k (decide (m = k) && nonneg m f) where
  law := fun v => by
    have t0 : bNot (bOf (dIsi "tuple" (dVar 6))) (lpE n ch gn best v none (some (numsD m f)) (some (.int (k : Nat))) none none none false) = some false := rfl
    have t1 : bOf (bin2 dNe (dFun fLen (dVar 6)) (dVar 7)) (lpE n ch gn best v none (some (numsD m f)) (some (.int (k : Nat))) none none none false) = some (!decide (m = k)) := by
      show (dNe (.int (((List.range m).map fun l => CD.hf (f l)).length : Nat)) (.int (k : Nat))).bind asB = _
      rw [List.length_map, List.length_range, dNe_int]
      show some (!decide ((m : Int) = (k : Int))) = _
      congr 2
      apply decide_eq_decide.mpr
      omega
    have c : dComp [8] (sSeq (dVar 6)) (.one 8) (bOr (bNot (bOf (dCall F__law_is_ratio (sCons (dVar 8) sNil)))) (bOf (bin2 dLt (bin2 dIx (dVar 8) (dC (.int 0))) (dC (.int 0))))) (dVar 8) (lpE n ch gn best v none (some (numsD m f)) (some (.int (k : Nat))) none none none false) = some (.list (((List.range m).filter fun l => !decide (0 ≤ f l)).map fun l => CD.hf (f l))) := by
      refine dComp_fm (xs := List.range m) (fun l => !decide (0 ≤ f l)) (fun l => CD.hf (f l)) (fun l => CD.hf (f l)) rfl (by rw [List.length_range]; exact hm) fun l _ => ⟨lpE n ch gn best v none (some (numsD m f)) (some (.int (k : Nat))) (some (CD.hf (f l))) none none false, rfl, ?_, fun _ => rfl⟩
      unfold bOr
      show (((F__law_is_ratio [CD.hf (f l)]).bind asB).map (!·)).bind (fun c => if c = true then some true else some (decide (hn (f l) < 0))) = _
      rw [F__law_is_ratio_hf, hn_neg]
      rfl
    have t2 : bOf (bin2 dNe (dComp [8] (sSeq (dVar 6)) (.one 8) (bOr (bNot (bOf (dCall F__law_is_ratio (sCons (dVar 8) sNil)))) (bOf (bin2 dLt (bin2 dIx (dVar 8) (dC (.int 0))) (dC (.int 0))))) (dVar 8)) (dLst sNil)) (lpE n ch gn best v none (some (numsD m f)) (some (.int (k : Nat))) none none none false) = some (!nonneg m f) := by
      unfold bOf bin2 at c ⊢
      rw [c]
      show (dNe (.list (((List.range m).filter fun l => !decide (0 ≤ f l)).map fun l => CD.hf (f l))) (.list [])).bind asB = _
      rw [dNe_nil (k := 1) fun x hx => by
        obtain ⟨l, _, rfl⟩ := List.mem_map.mp hx
        exact Sh.hf _]
      rw [filter_empty (fun l => decide (0 ≤ f l))]
      rfl
    unfold lpT
    have o : ∀ (t u : En → Option Bool) (ρ : En) (a b : Bool), t ρ = some a → u ρ = some b → bOr t u ρ = some (a || b) := fun t u ρ a b h1 h2 => by
      unfold bOr
      rw [h1, h2]
      cases a <;> rfl
    rw [o _ _ _ _ _ t0 (o _ _ _ _ _ t1 t2), Bool.false_or, Bool.not_and]
  prog := F_are_numbers1 k m f
end CD
end
section
set_option maxHeartbeats 1000000
namespace CD
open PySem PySem.Spec PyProof.Rows L2 DL
section
variable {n : Nat} {ch rk gn : Nat → Nat}
theorem td_lt {l : Nat} (h : l < tm n ch) : td n ch l < n := (tied_mem.mp (getD_mem h)).1
theorem tdD_eq : tdD n ch = .list ((List.range (tm n ch)).map fun l => pD (td n ch l)) := by
  unfold tdD
  rw [td_eq (gn := fun _ => 0)]
  rfl
theorem tdD_at {l : Nat} (h : l < tm n ch) : dIx (tdD n ch) (.int (l : Nat)) = some (pD (td n ch l)) := by
  rw [tdD_eq]
  show atI ((List.range (tm n ch)).map fun l => pD (td n ch l)) (l : Int) = _
  rw [DL.atI_nat, List.getElem?_map, List.getElem?_range h]
  rfl
theorem tdD_len {ρ : En} {i : Nat} (h : dVar i ρ = some (tdD n ch)) : dFun fLen (dVar i) ρ = some (.int (tm n ch : Nat)) := by
  unfold dFun
  rw [h, tdD_eq]
  show some (PyData.int (((List.range (tm n ch)).map fun l => pD (td n ch l)).length : Nat)) = _
  rw [List.length_map, List.length_range]
theorem numsD_at {m l : Nat} {f : Nat → Int} (h : l < m) : dIx (numsD m f) (.int (l : Nat)) = some (hf (f l)) := by
  show atI ((List.range m).map fun l => hf (f l)) (l : Int) = _
  rw [DL.atI_nat, List.getElem?_map, List.getElem?_range h]
  rfl
theorem numsD_at1 {m r : Nat} {f : Nat → Int} (h : r < m) : dIx (numsD m f) (.int ((1 : Int) + (r : Nat) - 1)) = some (hf (f r)) := by
  rw [show (1 : Int) + (r : Nat) - 1 = (r : Int) by omega]
  exact numsD_at h
theorem inc_eq (r l : Nat) : (decide ((1 : Int) + (td n ch l : Nat) = (1 : Int) + (r : Nat)) || decide (((ch (td n ch l) : Nat) : Int) = (1 : Int) + (r : Nat))) = inc n ch r l := by
  unfold inc
  congr 1
  · apply decide_eq_decide.mpr
    omega
  · apply decide_eq_decide.mpr
    omega
theorem heldD_len {p : Nat → Int} {r : Nat} : (held n ch p r).length ≤ n := by
  unfold held
  rw [List.length_map]
  have h1 := List.length_filter_le (inc n ch r) (List.range (tm n ch))
  rw [List.length_range] at h1
  exact Nat.le_trans h1 tm_le
theorem heldD_eq {p : Nat → Int} {r : Nat} : ((List.range (tm n ch)).filter (inc n ch r)).map (fun l => hf (p l)) = (held n ch p r).map hf := by
  unfold held
  rw [List.map_map]
  rfl
def pairD (a b : PyData) : PyData := .tuple [a, b]
theorem gain1 {r : Nat} : PyData.tuple [.int (gn r : Nat), .int 1] = hf (2 * (gn r : Int)) := by
  rw [← rt_hf]
  rfl
/-! ### shows_party_paper -/
def shE (n : Nat) (ch gn : Nat → Nat) (v : PyData) (x4 x5 : Option PyData) (bs : Bool) : En := ⟨[some (chD n ch), some (chD n gn), some v, some (tdD n ch), x4, x5, none, none], none, 0, [], bs⟩
def shT1 : En → Option Bool := bOr (bNot (bOf (dIsi "tuple" (dVar 2)))) (bOf (bin2 dNe (dFun fLen (dVar 2)) (dC (.int 2))))
def shT2 : En → Option Bool := bOr (bNot (bOf (dCall F_are_numbers (sCons (dFun fLen (dVar 3)) (sCons (bin2 dIx (dVar 2) (dC (.int 0))) sNil))))) (bNot (bOf (dCall F_are_numbers (sCons (dFun fLen (dVar 0)) (sCons (bin2 dIx (dVar 2) (dC (.int 1))) sNil)))))
def shHeld : En → Option PyData := dComp [6, 7] (sZipM (bin2 dIx (dVar 2) (dC (.int 0))) (dVar 3)) (.two 6 7) (bOf (bin2 dIn (dVar 4) (dTup (sCons (dVar 7) (sCons (bin2 dIx (dVar 0) (bin2 dSub (dVar 7) (dC (.int 1)))) sNil))))) (dVar 6)
def shLess : En → Option PyData := dCall F_less (sCons (dCall F_sum_of (sCons (dLst (sCons (bin2 dIx (bin2 dIx (dVar 2) (dC (.int 1))) (bin2 dSub (dVar 4) (dC (.int 1)))) (sStar (dVar 5) sNil))) sNil)) (sCons (dTup (sCons (bin2 dIx (dVar 1) (bin2 dSub (dVar 4) (dC (.int 1)))) (sCons (dC (.int 1)) sNil))) sNil))
def shB : En → Option SR := sThen (sSet 5 shHeld) (sIf (bOf shLess) (sRet (dC (.bool false))) sSkip)
def shSum : En → Option PyData := dCall F_sum_of (sCons (dLst (sStar (bin2 dIx (dVar 2) (dC (.int 0))) (sStar (bin2 dIx (dVar 2) (dC (.int 1))) sNil))) sNil)
def shEnd : En → Option PyData := bin2 dEq shSum (dTup (sCons (bin2 dIx (dCall F_best_of (sCons (dVar 0) (sCons (dVar 1) sNil))) (dC (.int 0))) (sCons (dC (.int 1)) sNil)))
def shTail : En → Option SR := sThen (sIf shT1 (sRet (dC (.bool false))) sSkip) (sThen (sIf shT2 (sRet (dC (.bool false))) sSkip) (sThen (sFor (sRng2 (dC (.int 1)) (bin2 dAdd (dFun fLen (dVar 0)) (dC (.int 1)))) (.one 4) shB) (sRet shEnd)))
theorem B_shows_pp_eq : B_shows_party_paper = sThen (sExp (dCall F_need_gains (sCons (dVar 0) (sCons (dVar 1) sNil)))) (sThen (sSet 3 (dCall F_with_chiefs (sCons (dVar 0) sNil))) shTail) := rfl
theorem sh_head (F : Fo n ch rk) (h1 : 1 ≤ n) (h6 : n ≤ 6) (hg : ∀ r, r < n → gn r < 9) {v d : PyData} {r : SR} (h : shTail (shE n ch gn v none none true) = some r) (hr : resD r = some d) : F_shows_party_paper [chD n ch, chD n gn, v] = some d := by
  let E : En := ⟨[some (chD n ch), some (chD n gn), some v, none, none, none, none, none], none, 0, [], true⟩
  refine runD_of (r := r) rfl ?_ hr
  have a1 : sExp (dCall F_need_gains (sCons (dVar 0) (sCons (dVar 1) sNil))) E = some (.nx E) := by
    unfold sExp
    show (F_need_gains [chD n ch, chD n gn]).map _ = _
    rw [F_need_gains1 F h1 h6 hg]
    rfl
  have a2 : sSet 3 (dCall F_with_chiefs (sCons (dVar 0) sNil)) E = some (.nx (shE n ch gn v none none true)) := by
    unfold sSet
    show (F_with_chiefs [chD n ch]).bind _ = _
    rw [F_with_chiefs1 (by omega)]
    rfl
  show B_shows_party_paper E = _
  rw [B_shows_pp_eq, sThen_nx a1, sThen_nx a2]
  exact h
theorem sIf_rt {t : En → Option Bool} {ρ : En} (h : t ρ = some true) : sIf t (sRet (dC (.bool false))) sSkip ρ = some (.rt ρ (.bool false)) := by
  unfold sIf
  rw [h]
  rfl
theorem sIf_nx {t : En → Option Bool} {ρ : En} (h : t ρ = some false) : sIf t (sRet (dC (.bool false))) sSkip ρ = some (.nx ρ) := by
  unfold sIf
  rw [h]
  rfl
theorem sh_T1 (F : Fo n ch rk) (h1 : 1 ≤ n) (h6 : n ≤ 6) (hg : ∀ r, r < n → gn r < 9) {v : PyData} (h : shT1 (shE n ch gn v none none true) = some true) : F_shows_party_paper [chD n ch, chD n gn, v] = some (.bool false) :=
  sh_head F h1 h6 hg (sThen_rt (sIf_rt h)) rfl
theorem shT1_pair {a b : PyData} {x4 x5 : Option PyData} {bs : Bool} : shT1 (shE n ch gn (pairD a b) x4 x5 bs) = some false := by
  have t0 : bNot (bOf (dIsi "tuple" (dVar 2))) (shE n ch gn (pairD a b) x4 x5 bs) = some false := rfl
  have t1 : bOf (bin2 dNe (dFun fLen (dVar 2)) (dC (.int 2))) (shE n ch gn (pairD a b) x4 x5 bs) = some false := by
    show (dNe (.int 2) (.int 2)).bind asB = _
    rw [dNe_int]
    rfl
  unfold shT1 bOr
  rw [t0, t1]
  rfl
theorem shT2_pair {a b : PyData} {best : Int} {ba bb : Bool} (ha : Part n ch gn best a (tm n ch) ba) (hb : Part n ch gn best b n bb) : shT2 (shE n ch gn (pairD a b) none none true) = some (!(ba && bb)) := by
  have t0 : bNot (bOf (dCall F_are_numbers (sCons (dFun fLen (dVar 3)) (sCons (bin2 dIx (dVar 2) (dC (.int 0))) sNil)))) (shE n ch gn (pairD a b) none none true) = some (!ba) := by
    unfold bNot bOf dCall sCons
    rw [tdD_len (n := n) (ch := ch) rfl]
    show ((F_are_numbers [.int (tm n ch : Nat), a]).bind asB).map _ = _
    rw [ha.prog]
    rfl
  have t1 : bNot (bOf (dCall F_are_numbers (sCons (dFun fLen (dVar 0)) (sCons (bin2 dIx (dVar 2) (dC (.int 1))) sNil)))) (shE n ch gn (pairD a b) none none true) = some (!bb) := by
    unfold bNot bOf dCall sCons
    rw [chD_len (n := n) (f := ch) rfl]
    show ((F_are_numbers [.int (n : Nat), b]).bind asB).map _ = _
    rw [hb.prog]
    rfl
  unfold shT2 bOr
  rw [t0, t1]
  cases ba <;> rfl
theorem shHeld_eq (h6 : n ≤ 6) {p q : Nat → Int} {r : Nat} {x5 : Option PyData} : shHeld (shE n ch gn (pairD (numsD (tm n ch) p) (numsD n q)) (some (pD r)) x5 false) = some (.list ((held n ch p r).map hf)) := by
  have hm : tm n ch ≤ n := tm_le
  unfold shHeld
  rw [dComp_fm (xs := List.range (tm n ch)) (inc n ch r) (fun l => .tuple [hf (p l), pD (td n ch l)]) (fun l => hf (p l)) ?_ (by rw [List.length_range]; show _ ≤ 1000; omega) fun l hl => ?_, heldD_eq]
  · unfold sZipM
    show (some (tdD n ch)).bind (fun y => match numsD (tm n ch) p, y with
      | .tuple ds, .list es => some (zipL ds es)
      | _, _ => none) = _
    rw [tdD_eq]
    show some (zipL ((List.range (tm n ch)).map fun l => hf (p l)) ((List.range (tm n ch)).map fun l => pD (td n ch l))) = _
    unfold zipL
    rw [List.zipWith_map, List.zipWith_self]
  · have hl := List.mem_range.mp hl
    refine ⟨⟨[some (chD n ch), some (chD n gn), some (pairD (numsD (tm n ch) p) (numsD n q)), some (tdD n ch), some (pD r), x5, some (hf (p l)), some (pD (td n ch l))], none, 0, [], false⟩, rfl, ?_, fun _ => rfl⟩
    show (((((dIx (chD n ch) (.int ((1 : Int) + (td n ch l : Nat) - 1))).bind fun d => (some ([] : List PyData)).map (d :: ·)).map (pD (td n ch l) :: ·)).bind fun ds => if ds.length ≤ LIM then some (PyData.tuple ds) else none).bind fun b => dIn (pD r) b).bind asB = _
    rw [chD_ix1 (td_lt hl)]
    show (dIn (.int ((1 : Int) + (r : Nat))) (.tuple [.int ((1 : Int) + (td n ch l : Nat)), .int (ch (td n ch l) : Nat)])).bind asB = _
    rw [dIn2, inc_eq]
    rfl
theorem shLess_eq (h6 : n ≤ 6) {p q : Nat → Int} {r : Nat} (hr : r < n) : bOf shLess (shE n ch gn (pairD (numsD (tm n ch) p) (numsD n q)) (some (pD r)) (some (.list ((held n ch p r).map hf))) false) = some (!covers n ch gn p q r) := by
  have hl := heldD_len (n := n) (ch := ch) (p := p) (r := r)
  have e1 : dLst (sCons (bin2 dIx (bin2 dIx (dVar 2) (dC (.int 1))) (bin2 dSub (dVar 4) (dC (.int 1)))) (sStar (dVar 5) sNil)) (shE n ch gn (pairD (numsD (tm n ch) p) (numsD n q)) (some (pD r)) (some (.list ((held n ch p r).map hf))) false) = some (.list ((q r :: held n ch p r).map hf)) := by
    show (((dIx (numsD n q) (.int ((1 : Int) + (r : Nat) - 1))).bind fun d => (some ((held n ch p r).map hf ++ [])).map (d :: ·)).bind fun ds => if ds.length ≤ LIM then some (PyData.list ds) else none) = _
    rw [numsD_at1 hr, List.append_nil]
    show (if (hf (q r) :: (held n ch p r).map hf).length ≤ LIM then some (PyData.list (hf (q r) :: (held n ch p r).map hf)) else none) = _
    rw [if_pos (by rw [List.length_cons, List.length_map]; show _ ≤ 1000; omega)]
    rfl
  have e2 : dTup (sCons (bin2 dIx (dVar 1) (bin2 dSub (dVar 4) (dC (.int 1)))) (sCons (dC (.int 1)) sNil)) (shE n ch gn (pairD (numsD (tm n ch) p) (numsD n q)) (some (pD r)) (some (.list ((held n ch p r).map hf))) false) = some (hf (2 * (gn r : Int))) := by
    show (((dIx (chD n gn) (.int ((1 : Int) + (r : Nat) - 1))).bind fun d => (some [PyData.int 1]).map (d :: ·)).bind fun ds => if ds.length ≤ LIM then some (PyData.tuple ds) else none) = _
    rw [chD_ix1 hr]
    show some (PyData.tuple [.int (gn r : Nat), .int 1]) = _
    rw [gain1]
  have e3 := (call1 (F := F_sum_of) e1).trans (F_sum_of_hf _)
  have e4 := bOf_of ((call2 (F := F_less) e3 e2).trans (F_less_hf _ _))
  rw [List.sum_cons, Int.add_comm] at e4
  unfold covers
  rw [Bool.not_not]
  exact e4
theorem sum_parts {p q : Nat → Int} : ((List.range (tm n ch)).map p ++ (List.range n).map q).sum = papSum n ch p q := by
  rw [List.sum_append]
  rfl
theorem best1 (b : Int) : PyData.tuple [.int b, .int 1] = hf (2 * b) := by
  rw [← rt_hf]
  rfl
theorem shEnd_eq (h6 : n ≤ 6) (hg : ∀ r, r < n → gn r < 9) {l0 : List Nat} (hb : Best n ch gn l0) {p q : Nat → Int} {x4 x5 : Option PyData} : shEnd (shE n ch gn (pairD (numsD (tm n ch) p) (numsD n q)) x4 x5 true) = some (.bool (decide (papSum n ch p q = 2 * gnOf gn l0))) := by
  have hm : tm n ch ≤ n := tm_le
  have e1 : shSum (shE n ch gn (pairD (numsD (tm n ch) p) (numsD n q)) x4 x5 true) = some (hf (papSum n ch p q)) := by
    unfold shSum dCall sCons dLst
    show (((if ((List.range (tm n ch)).map (fun l => hf (p l)) ++ ((List.range n).map (fun l => hf (q l)) ++ [])).length ≤ LIM then some (PyData.list ((List.range (tm n ch)).map (fun l => hf (p l)) ++ ((List.range n).map (fun l => hf (q l)) ++ []))) else none).bind fun d => (some ([] : List PyData)).map (d :: ·))).bind F_sum_of = _
    rw [List.append_nil, if_pos (by simp; show _ ≤ 1000; omega)]
    show F_sum_of [.list ((List.range (tm n ch)).map (fun l => hf (p l)) ++ (List.range n).map (fun l => hf (q l)))] = _
    have : (List.range (tm n ch)).map (fun l => hf (p l)) ++ (List.range n).map (fun l => hf (q l)) = ((List.range (tm n ch)).map p ++ (List.range n).map q).map hf := by
      rw [List.map_append, List.map_map, List.map_map]
      rfl
    rw [this, F_sum_of_hf, sum_parts]
  obtain ⟨l, hl, e⟩ := F_best_of1 (ch := ch) h6 hg
  have e2 : dTup (sCons (bin2 dIx (dCall F_best_of (sCons (dVar 0) (sCons (dVar 1) sNil))) (dC (.int 0))) (sCons (dC (.int 1)) sNil)) (shE n ch gn (pairD (numsD (tm n ch) p) (numsD n q)) x4 x5 true) = some (hf (2 * gnOf gn l0)) := by
    show ((((F_best_of [chD n ch, chD n gn]).bind fun a => (some (PyData.int 0)).bind fun b => dIx a b).bind fun d => (some [PyData.int 1]).map (d :: ·)).bind fun ds => if ds.length ≤ LIM then some (PyData.tuple ds) else none) = _
    rw [e]
    show some (PyData.tuple [.int (gnOf gn l), .int 1]) = _
    rw [best1, hb.eq hl]
  unfold shEnd bin2 at e2 ⊢
  rw [e1, e2]
  exact dEq_hf _ _
theorem sh_pair_no (F : Fo n ch rk) (h1 : 1 ≤ n) (h6 : n ≤ 6) (hg : ∀ r, r < n → gn r < 9) {a b : PyData} {best : Int} {ba bb : Bool} (ha : Part n ch gn best a (tm n ch) ba) (hb : Part n ch gn best b n bb) (h : (ba && bb) = false) : F_shows_party_paper [chD n ch, chD n gn, pairD a b] = some (.bool false) := by
  refine sh_head F h1 h6 hg (r := .rt (shE n ch gn (pairD a b) none none true) (.bool false)) ?_ rfl
  unfold shTail
  rw [sThen_nx (sIf_nx shT1_pair), sThen_rt (sIf_rt (by rw [shT2_pair ha hb, h]; rfl))]
theorem sh_pair (F : Fo n ch rk) (h1 : 1 ≤ n) (h6 : n ≤ 6) (hg : ∀ r, r < n → gn r < 9) {l0 : List Nat} (hb : Best n ch gn l0) {p q : Nat → Int} (hp : nonneg (tm n ch) p = true) (hq : nonneg n q = true) : F_shows_party_paper [chD n ch, chD n gn, pairD (numsD (tm n ch) p) (numsD n q)] = some (.bool (papOK n ch gn (gnOf gn l0) p q)) := by
  have hm : tm n ch ≤ n := tm_le
  have pa : Part n ch gn (gnOf gn l0) (numsD (tm n ch) p) (tm n ch) true := by
    have := Part.nums (n := n) (ch := ch) (gn := gn) (best := gnOf gn l0) (m := tm n ch) (k := tm n ch) (f := p) (by show _ ≤ 1000; omega)
    rw [decide_eq_true rfl, hp] at this
    exact this
  have pb : Part n ch gn (gnOf gn l0) (numsD n q) n true := by
    have := Part.nums (n := n) (ch := ch) (gn := gn) (best := gnOf gn l0) (m := n) (k := n) (f := q) (by show _ ≤ 1000; omega)
    rw [decide_eq_true rfl, hq] at this
    exact this
  obtain ⟨ρ', ⟨x4, x5, rfl⟩, hf'⟩ := sFor_all (it := sRng2 (dC (.int 1)) (bin2 dAdd (dFun fLen (dVar 0)) (dC (.int 1)))) (tg := .one 4) (body := shB) (ρ := shE n ch gn (pairD (numsD (tm n ch) p) (numsD n q)) none none true) (xs := List.range n)
    (fun ρ => ∃ x4 x5, ρ = shE n ch gn (pairD (numsD (tm n ch) p) (numsD n q)) x4 x5 false) (fun r => PyData.int ((1 : Int) + (r : Nat))) (covers n ch gn p q) (.bool false) rfl (dRng2 (chD_len (n := n) (f := ch) rfl) (by omega)) ⟨none, none, rfl⟩ (by rintro _ ⟨x4, x5, rfl⟩; rfl) (by
      rintro r hr _ ⟨x4, x5, rfl⟩
      have hr := List.mem_range.mp hr
      refine ⟨shE n ch gn (pairD (numsD (tm n ch) p) (numsD n q)) (some (pD r)) x5 false, shE n ch gn (pairD (numsD (tm n ch) p) (numsD n q)) (some (pD r)) (some (.list ((held n ch p r).map hf))) false, rfl, ?_, _, _, rfl⟩
      have b1 : sSet 5 shHeld (shE n ch gn (pairD (numsD (tm n ch) p) (numsD n q)) (some (pD r)) x5 false) = some (.nx (shE n ch gn (pairD (numsD (tm n ch) p) (numsD n q)) (some (pD r)) (some (.list ((held n ch p r).map hf))) false)) := by
        unfold sSet
        rw [shHeld_eq h6]
        rfl
      unfold shB
      rw [sThen_nx b1]
      have b2 := shLess_eq (gn := gn) (ch := ch) (p := p) (q := q) h6 hr
      cases hc : covers n ch gn p q r with
      | true =>
        rw [hc] at b2
        rw [sIf_nx b2]
        rfl
      | false =>
        rw [hc] at b2
        rw [sIf_rt b2]
        rfl)
  have t : shTail (shE n ch gn (pairD (numsD (tm n ch) p) (numsD n q)) none none true) = some (.rt (shE n ch gn (pairD (numsD (tm n ch) p) (numsD n q)) x4 x5 true) (.bool (papOK n ch gn (gnOf gn l0) p q))) := by
    unfold shTail
    rw [sThen_nx (sIf_nx shT1_pair), sThen_nx (sIf_nx (by rw [shT2_pair pa pb]; rfl))]
    unfold papOK
    cases hc : (List.range n).all (covers n ch gn p q) with
    | true =>
      rw [hc] at hf'
      rw [sThen_nx hf']
      show sRet shEnd (shE n ch gn (pairD (numsD (tm n ch) p) (numsD n q)) x4 x5 true) = _
      unfold sRet
      rw [shEnd_eq h6 hg hb]
      rfl
    | false =>
      rw [hc] at hf'
      rw [sThen_rt hf']
      rfl
  exact sh_head F h1 h6 hg t rfl
end
end CD
end
section
set_option maxHeartbeats 1000000
namespace CD
open PySem PySem.Spec PyProof.Rows L2 DL
section
variable {n : Nat} {ch rk gn : Nat → Nat}
/-! ### _law_is_paper -/
def lpTied : En → Option PyData := dComp [5] (sRng1 (dFun fLen (dVar 0))) (.one 5) (bOf (bin2 dGt (bin2 dIx (dVar 0) (dVar 5)) (dC (.int 0)))) (bin2 dAdd (dVar 5) (dC (.int 1)))
def lpT1 : En → Option Bool := bOr (bNot (bOf (dIsi "tuple" (dVar 3)))) (bOf (bin2 dNe (dFun fLen (dVar 3)) (dC (.int 2))))
def lpParts : En → Option (List PyData) := sSeq (dLst (sCons (dTup (sCons (bin2 dIx (dVar 3) (dC (.int 0))) (sCons (dFun fLen (dVar 4)) sNil))) (sCons (dTup (sCons (bin2 dIx (dVar 3) (dC (.int 1))) (sCons (dFun fLen (dVar 0)) sNil))) sNil)))
def lpHeld : En → Option PyData := dComp [5] (sRng1 (dFun fLen (dVar 4))) (.one 5) (bOf (bin2 dIn (dVar 9) (dLst (sCons (bin2 dIx (dVar 4) (dVar 5)) (sCons (bin2 dIx (dVar 0) (bin2 dSub (bin2 dIx (dVar 4) (dVar 5)) (dC (.int 1)))) sNil))))) (bin2 dIx (bin2 dIx (dVar 3) (dC (.int 0))) (dVar 5))
def lpLess : En → Option PyData := dCall F__law_less (sCons (dCall F__law_sum (sCons (bin2 dAdd (dVar 10) (dLst (sCons (bin2 dIx (bin2 dIx (dVar 3) (dC (.int 1))) (bin2 dSub (dVar 9) (dC (.int 1)))) sNil))) sNil)) (sCons (dTup (sCons (bin2 dIx (dVar 1) (bin2 dSub (dVar 9) (dC (.int 1)))) (sCons (dC (.int 1)) sNil))) sNil))
def lpB : En → Option SR := sThen (sSet 10 lpHeld) (sIf (bOf lpLess) (sRet (dC (.bool false))) sSkip)
def lpEnd : En → Option PyData := bin2 dEq (dCall F__law_sum (sCons (dFun fList (bin2 dAdd (bin2 dIx (dVar 3) (dC (.int 0))) (bin2 dIx (dVar 3) (dC (.int 1))))) sNil)) (dTup (sCons (dVar 2) (sCons (dC (.int 1)) sNil)))
def lpTail : En → Option SR := sThen (sIf lpT1 (sRet (dC (.bool false))) sSkip) (sThen (sFor lpParts (.two 6 7) (sIf lpT (sRet (dC (.bool false))) sSkip)) (sThen (sFor (sRng2 (dC (.int 1)) (bin2 dAdd (dFun fLen (dVar 0)) (dC (.int 1)))) (.one 9) lpB) (sRet lpEnd)))
theorem B_law_pp_eq : B__law_is_paper = sThen (sSet 4 lpTied) lpTail := rfl
theorem rng1 {ρ : En} {f : En → Option PyData} {m : Nat} (h : f ρ = some (.int (m : Nat))) (hm : m ≤ 1000) : sRng1 f ρ = some ((List.range m).map fun k => PyData.int ((0 : Int) + (k : Nat))) := by
  unfold sRng1
  rw [h]
  show (if (m : Int) ≤ 1000 ∧ -1000 ≤ (m : Int) then some (rangeL 0 (m : Int).toNat) else none) = _
  rw [if_pos ⟨by omega, by omega⟩, Int.toNat_natCast]
  rfl
theorem lpTied_eq (h6 : n ≤ 6) {best : Int} {v : PyData} : lpTied ⟨[some (chD n ch), some (chD n gn), some (.int best), some v, none, none, none, none, none, none, none], none, 0, [], true⟩ = some (tdD n ch) := by
  unfold lpTied
  rw [dComp_fm (xs := List.range n) (fun r => decide (ch r ≠ 0)) (fun r => PyData.int ((0 : Int) + (r : Nat))) (fun r => PyData.int ((1 : Int) + (r : Nat))) (rng1 (chD_len (n := n) (f := ch) rfl) (by omega)) (by rw [List.length_range]; show n ≤ 1000; omega) fun r hr => ?_]
  · rfl
  · have hr := List.mem_range.mp hr
    refine ⟨⟨[some (chD n ch), some (chD n gn), some (.int best), some v, none, some (.int ((0 : Int) + (r : Nat))), none, none, none, none, none], none, 0, [], false⟩, rfl, ?_, fun _ => ?_⟩
    · show ((dIx (chD n ch) (.int ((0 : Int) + (r : Nat)))).bind fun a => dGt a (.int 0)).bind asB = _
      rw [Int.zero_add, chD_ix hr]
      show some (decide ((0 : Int) < (ch r : Int))) = _
      congr 1
      apply decide_eq_decide.mpr
      omega
    · show some (PyData.int ((0 : Int) + (r : Nat) + 1)) = _
      congr 2
      omega
theorem lp_head (h6 : n ≤ 6) {best : Int} {v d : PyData} {r : SR} (h : lpTail (lpE n ch gn best v none none none none none none true) = some r) (hr : resD r = some d) : F__law_is_paper [chD n ch, chD n gn, .int best, v] = some d := by
  let E : En := ⟨[some (chD n ch), some (chD n gn), some (.int best), some v, none, none, none, none, none, none, none], none, 0, [], true⟩
  refine runD_of (r := r) rfl ?_ hr
  have a2 : sSet 4 lpTied E = some (.nx (lpE n ch gn best v none none none none none none true)) := by
    unfold sSet
    rw [show lpTied E = some (tdD n ch) from lpTied_eq h6]
    rfl
  show B__law_is_paper E = _
  rw [B_law_pp_eq, sThen_nx a2]
  exact h
theorem lp_T1 (h6 : n ≤ 6) {best : Int} {v : PyData} (h : lpT1 (lpE n ch gn best v none none none none none none true) = some true) : F__law_is_paper [chD n ch, chD n gn, .int best, v] = some (.bool false) :=
  lp_head h6 (sThen_rt (sIf_rt h)) rfl
theorem lpT1_pair {best : Int} {a b : PyData} : lpT1 (lpE n ch gn best (pairD a b) none none none none none none true) = some false := by
  have t0 : bNot (bOf (dIsi "tuple" (dVar 3))) (lpE n ch gn best (pairD a b) none none none none none none true) = some false := rfl
  have t1 : bOf (bin2 dNe (dFun fLen (dVar 3)) (dC (.int 2))) (lpE n ch gn best (pairD a b) none none none none none none true) = some false := by
    show (dNe (.int 2) (.int 2)).bind asB = _
    rw [dNe_int]
    rfl
  unfold lpT1 bOr
  rw [t0, t1]
  rfl
theorem lp_parts {best : Int} {a b : PyData} {ba bb : Bool} (ha : Part n ch gn best a (tm n ch) ba) (hb : Part n ch gn best b n bb) :
    ∃ x6 x7, sFor lpParts (.two 6 7) (sIf lpT (sRet (dC (.bool false))) sSkip) (lpE n ch gn best (pairD a b) none none none none none none true) = some (if (ba && bb) = true then .nx (lpE n ch gn best (pairD a b) none x6 x7 none none none true) else .rt (lpE n ch gn best (pairD a b) none x6 x7 none none none true) (.bool false)) := by
  obtain ⟨ρ', ⟨x6, x7, rfl⟩, h⟩ := sFor_all (it := lpParts) (tg := .two 6 7) (body := sIf lpT (sRet (dC (.bool false))) sSkip) (ρ := lpE n ch gn best (pairD a b) none none none none none none true) (xs := [(a, tm n ch, ba), (b, n, bb)])
    (fun ρ => ∃ x6 x7, ρ = lpE n ch gn best (pairD a b) none x6 x7 none none none false) (fun x : PyData × Nat × Bool => pairD x.1 (.int (x.2.1 : Nat))) (fun x => x.2.2) (.bool false) rfl (by
      unfold lpParts sSeq dLst
      have e1 : dTup (sCons (bin2 dIx (dVar 3) (dC (.int 0))) (sCons (dFun fLen (dVar 4)) sNil)) (hideE (lpE n ch gn best (pairD a b) none none none none none none true)) = some (pairD a (.int (tm n ch : Nat))) := by
        unfold dTup sCons
        rw [tdD_len (n := n) (ch := ch) rfl]
        rfl
      have e2 : dTup (sCons (bin2 dIx (dVar 3) (dC (.int 1))) (sCons (dFun fLen (dVar 0)) sNil)) (hideE (lpE n ch gn best (pairD a b) none none none none none none true)) = some (pairD b (.int (n : Nat))) := by
        unfold dTup sCons
        rw [chD_len (n := n) (f := ch) rfl]
        rfl
      unfold sCons at e1 e2 ⊢
      rw [e1, e2]
      rfl) ⟨none, none, rfl⟩ (by rintro _ ⟨x6, x7, rfl⟩; rfl) (by
      rintro x hx _ ⟨x6, x7, rfl⟩
      have key : ∀ (w : PyData) (k : Nat) (c : Bool), Part n ch gn best w k c → ∃ ρ1 ρ2, setT (.two 6 7) (pairD w (.int (k : Nat))) (lpE n ch gn best (pairD a b) none x6 x7 none none none false) = some ρ1 ∧ sIf lpT (sRet (dC (.bool false))) sSkip ρ1 = some (if c = true then .nx ρ2 else .rt ρ2 (.bool false)) ∧ ∃ x6 x7, ρ2 = lpE n ch gn best (pairD a b) none x6 x7 none none none false := fun w k c hp => by
        refine ⟨lpE n ch gn best (pairD a b) none (some w) (some (.int (k : Nat))) none none none false, lpE n ch gn best (pairD a b) none (some w) (some (.int (k : Nat))) none none none false, rfl, ?_, _, _, rfl⟩
        have := hp.law (pairD a b)
        cases c with
        | true => exact sIf_nx this
        | false => exact sIf_rt this
      rcases List.mem_cons.mp hx with rfl | hx
      · exact key _ _ _ ha
      · rw [List.mem_singleton.mp hx]
        exact key _ _ _ hb)
  refine ⟨x6, x7, ?_⟩
  rw [h]
  show some (if (ba && (bb && true)) = true then _ else _) = _
  rw [Bool.and_true]
  cases ba && bb <;> rfl
theorem lp_pair_no (h6 : n ≤ 6) {a b : PyData} {best : Int} {ba bb : Bool} (ha : Part n ch gn best a (tm n ch) ba) (hb : Part n ch gn best b n bb) (h : (ba && bb) = false) : F__law_is_paper [chD n ch, chD n gn, .int best, pairD a b] = some (.bool false) := by
  obtain ⟨x6, x7, e⟩ := lp_parts ha hb
  rw [h] at e
  refine lp_head h6 (r := .rt (lpE n ch gn best (pairD a b) none x6 x7 none none none true) (.bool false)) ?_ rfl
  unfold lpTail
  rw [sThen_nx (sIf_nx lpT1_pair), sThen_rt e]
theorem lpHeld_eq (h6 : n ≤ 6) {best : Int} {p q : Nat → Int} {r : Nat} {x6 x7 x10 : Option PyData} : lpHeld (lpE n ch gn best (pairD (numsD (tm n ch) p) (numsD n q)) none x6 x7 none (some (pD r)) x10 false) = some (.list ((held n ch p r).map hf)) := by
  have hm : tm n ch ≤ n := tm_le
  unfold lpHeld
  rw [dComp_fm (xs := List.range (tm n ch)) (inc n ch r) (fun l => PyData.int ((0 : Int) + (l : Nat))) (fun l => hf (p l)) (rng1 (tdD_len (n := n) (ch := ch) rfl) (by omega)) (by rw [List.length_range]; show _ ≤ 1000; omega) fun l hl => ?_, heldD_eq]
  have hl := List.mem_range.mp hl
  refine ⟨lpE n ch gn best (pairD (numsD (tm n ch) p) (numsD n q)) (some (.int ((0 : Int) + (l : Nat)))) x6 x7 none (some (pD r)) x10 false, rfl, ?_, fun _ => ?_⟩
  · show ((((dIx (tdD n ch) (.int ((0 : Int) + (l : Nat)))).bind fun d => ((((dIx (tdD n ch) (.int ((0 : Int) + (l : Nat)))).bind fun a => dSub a (.int 1)).bind fun b => dIx (chD n ch) b).bind fun d => (some ([] : List PyData)).map (d :: ·)).map (d :: ·)).bind fun ds => if ds.length ≤ LIM then some (PyData.list ds) else none).bind fun b => dIn (pD r) b).bind asB = _
    rw [Int.zero_add, tdD_at hl]
    show (((((dIx (chD n ch) (.int ((1 : Int) + (td n ch l : Nat) - 1))).bind fun d => (some ([] : List PyData)).map (d :: ·)).map (pD (td n ch l) :: ·)).bind fun ds => if ds.length ≤ LIM then some (PyData.list ds) else none).bind fun b => dIn (pD r) b).bind asB = _
    rw [chD_ix1 (td_lt hl)]
    show (dIn (.int ((1 : Int) + (r : Nat))) (.tuple [.int ((1 : Int) + (td n ch l : Nat)), .int (ch (td n ch l) : Nat)])).bind asB = _
    rw [dIn2, inc_eq]
    rfl
  · show dIx (numsD (tm n ch) p) (.int ((0 : Int) + (l : Nat))) = _
    rw [Int.zero_add]
    exact numsD_at hl
theorem lpLess_eq (h6 : n ≤ 6) {best : Int} {p q : Nat → Int} {r : Nat} {x6 x7 : Option PyData} (hr : r < n) : bOf lpLess (lpE n ch gn best (pairD (numsD (tm n ch) p) (numsD n q)) none x6 x7 none (some (pD r)) (some (.list ((held n ch p r).map hf))) false) = some (!covers n ch gn p q r) := by
  have hl := heldD_len (n := n) (ch := ch) (p := p) (r := r)
  have e1 : bin2 dAdd (dVar 10) (dLst (sCons (bin2 dIx (bin2 dIx (dVar 3) (dC (.int 1))) (bin2 dSub (dVar 9) (dC (.int 1)))) sNil)) (lpE n ch gn best (pairD (numsD (tm n ch) p) (numsD n q)) none x6 x7 none (some (pD r)) (some (.list ((held n ch p r).map hf))) false) = some (.list ((held n ch p r ++ [q r]).map hf)) := by
    show (((dIx (numsD n q) (.int ((1 : Int) + (r : Nat) - 1))).bind fun d => (some ([] : List PyData)).map (d :: ·)).bind fun ds => if ds.length ≤ LIM then some (PyData.list ds) else none).bind (fun b => dAdd (.list ((held n ch p r).map hf)) b) = _
    rw [numsD_at1 hr]
    show (if ((held n ch p r).map hf).length + 1 ≤ LIM then some (PyData.list ((held n ch p r).map hf ++ [hf (q r)])) else none) = _
    rw [if_pos (by rw [List.length_map]; show _ ≤ 1000; omega), List.map_append]
    rfl
  have e2 : dTup (sCons (bin2 dIx (dVar 1) (bin2 dSub (dVar 9) (dC (.int 1)))) (sCons (dC (.int 1)) sNil)) (lpE n ch gn best (pairD (numsD (tm n ch) p) (numsD n q)) none x6 x7 none (some (pD r)) (some (.list ((held n ch p r).map hf))) false) = some (hf (2 * (gn r : Int))) := by
    show (((dIx (chD n gn) (.int ((1 : Int) + (r : Nat) - 1))).bind fun d => (some [PyData.int 1]).map (d :: ·)).bind fun ds => if ds.length ≤ LIM then some (PyData.tuple ds) else none) = _
    rw [chD_ix1 hr]
    show some (PyData.tuple [.int (gn r : Nat), .int 1]) = _
    rw [gain1]
  have e3 := (call1 (F := F__law_sum) e1).trans (F__law_sum_hf _)
  have e4 := bOf_of ((call2 (F := F__law_less) e3 e2).trans (F__law_less_hf _ _))
  rw [List.sum_append, show ([q r] : List Int).sum = q r by simp] at e4
  unfold covers
  rw [Bool.not_not]
  exact e4
theorem lpEnd_eq (h6 : n ≤ 6) {best : Int} {p q : Nat → Int} {x6 x7 x9 x10 : Option PyData} : lpEnd (lpE n ch gn best (pairD (numsD (tm n ch) p) (numsD n q)) none x6 x7 none x9 x10 true) = some (.bool (decide (papSum n ch p q = 2 * best))) := by
  have hm : tm n ch ≤ n := tm_le
  have e1 : dCall F__law_sum (sCons (dFun fList (bin2 dAdd (bin2 dIx (dVar 3) (dC (.int 0))) (bin2 dIx (dVar 3) (dC (.int 1))))) sNil) (lpE n ch gn best (pairD (numsD (tm n ch) p) (numsD n q)) none x6 x7 none x9 x10 true) = some (hf (papSum n ch p q)) := by
    unfold dCall sCons
    show ((((if ((List.range (tm n ch)).map (fun l => hf (p l))).length + ((List.range n).map (fun l => hf (q l))).length ≤ LIM then some (PyData.tuple ((List.range (tm n ch)).map (fun l => hf (p l)) ++ (List.range n).map (fun l => hf (q l)))) else none).bind fList).bind fun d => (some ([] : List PyData)).map (d :: ·))).bind F__law_sum = _
    rw [if_pos (by simp; show _ ≤ 1000; omega)]
    show F__law_sum [.list ((List.range (tm n ch)).map (fun l => hf (p l)) ++ (List.range n).map (fun l => hf (q l)))] = _
    have : (List.range (tm n ch)).map (fun l => hf (p l)) ++ (List.range n).map (fun l => hf (q l)) = ((List.range (tm n ch)).map p ++ (List.range n).map q).map hf := by
      rw [List.map_append, List.map_map, List.map_map]
      rfl
    rw [this, F__law_sum_hf, sum_parts]
  have e2 : dTup (sCons (dVar 2) (sCons (dC (.int 1)) sNil)) (lpE n ch gn best (pairD (numsD (tm n ch) p) (numsD n q)) none x6 x7 none x9 x10 true) = some (hf (2 * best)) := by
    show some (PyData.tuple [.int best, .int 1]) = _
    rw [best1]
  unfold lpEnd bin2 at e1 ⊢
  rw [e1, e2]
  exact dEq_hf _ _
theorem lp_pair (h6 : n ≤ 6) {best : Int} {p q : Nat → Int} (hp : nonneg (tm n ch) p = true) (hq : nonneg n q = true) : F__law_is_paper [chD n ch, chD n gn, .int best, pairD (numsD (tm n ch) p) (numsD n q)] = some (.bool (papOK n ch gn best p q)) := by
  have hm : tm n ch ≤ n := tm_le
  have pa : Part n ch gn best (numsD (tm n ch) p) (tm n ch) true := by
    have := Part.nums (n := n) (ch := ch) (gn := gn) (best := best) (m := tm n ch) (k := tm n ch) (f := p) (by show _ ≤ 1000; omega)
    rw [decide_eq_true rfl, hp] at this
    exact this
  have pb : Part n ch gn best (numsD n q) n true := by
    have := Part.nums (n := n) (ch := ch) (gn := gn) (best := best) (m := n) (k := n) (f := q) (by show _ ≤ 1000; omega)
    rw [decide_eq_true rfl, hq] at this
    exact this
  obtain ⟨x6, x7, e⟩ := lp_parts pa pb
  obtain ⟨ρ', ⟨x9, x10, rfl⟩, hf'⟩ := sFor_all (it := sRng2 (dC (.int 1)) (bin2 dAdd (dFun fLen (dVar 0)) (dC (.int 1)))) (tg := .one 9) (body := lpB) (ρ := lpE n ch gn best (pairD (numsD (tm n ch) p) (numsD n q)) none x6 x7 none none none true) (xs := List.range n)
    (fun ρ => ∃ x9 x10, ρ = lpE n ch gn best (pairD (numsD (tm n ch) p) (numsD n q)) none x6 x7 none x9 x10 false) (fun r => PyData.int ((1 : Int) + (r : Nat))) (covers n ch gn p q) (.bool false) rfl (dRng2 (chD_len (n := n) (f := ch) rfl) (by omega)) ⟨none, none, rfl⟩ (by rintro _ ⟨x4, x5, rfl⟩; rfl) (by
      rintro r hr _ ⟨x9, x10, rfl⟩
      have hr := List.mem_range.mp hr
      refine ⟨lpE n ch gn best (pairD (numsD (tm n ch) p) (numsD n q)) none x6 x7 none (some (pD r)) x10 false, lpE n ch gn best (pairD (numsD (tm n ch) p) (numsD n q)) none x6 x7 none (some (pD r)) (some (.list ((held n ch p r).map hf))) false, rfl, ?_, _, _, rfl⟩
      have b1 : sSet 10 lpHeld (lpE n ch gn best (pairD (numsD (tm n ch) p) (numsD n q)) none x6 x7 none (some (pD r)) x10 false) = some (.nx (lpE n ch gn best (pairD (numsD (tm n ch) p) (numsD n q)) none x6 x7 none (some (pD r)) (some (.list ((held n ch p r).map hf))) false)) := by
        unfold sSet
        rw [lpHeld_eq h6]
        rfl
      unfold lpB
      rw [sThen_nx b1]
      have b2 := lpLess_eq (gn := gn) (ch := ch) (p := p) (q := q) (best := best) (x6 := x6) (x7 := x7) h6 hr
      cases hc : covers n ch gn p q r with
      | true =>
        rw [hc] at b2
        rw [sIf_nx b2]
        rfl
      | false =>
        rw [hc] at b2
        rw [sIf_rt b2]
        rfl)
  have t : lpTail (lpE n ch gn best (pairD (numsD (tm n ch) p) (numsD n q)) none none none none none none true) = some (.rt (lpE n ch gn best (pairD (numsD (tm n ch) p) (numsD n q)) none x6 x7 none x9 x10 true) (.bool (papOK n ch gn best p q))) := by
    unfold lpTail
    rw [sThen_nx (sIf_nx lpT1_pair), sThen_nx e]
    unfold papOK
    cases hc : (List.range n).all (covers n ch gn p q) with
    | true =>
      rw [hc] at hf'
      rw [sThen_nx hf']
      show sRet lpEnd (lpE n ch gn best (pairD (numsD (tm n ch) p) (numsD n q)) none x6 x7 none x9 x10 true) = _
      unfold sRet
      rw [lpEnd_eq h6]
      rfl
    | false =>
      rw [hc] at hf'
      rw [sThen_rt hf']
      rfl
  exact lp_head h6 t rfl
/-! ### both say the same -/
def PV (n : Nat) (ch gn : Nat → Nat) (best : Int) (d : PyData) : Prop := ∃ b : Bool, F_shows_party_paper [chD n ch, chD n gn, d] = some (.bool b) ∧ F__law_is_paper [chD n ch, chD n gn, .int best, d] = some (.bool b)
theorem pv_not (F : Fo n ch rk) (h1 : 1 ≤ n) (h6 : n ≤ 6) (hg : ∀ r, r < n → gn r < 9) {best : Int} {d : PyData} (h : isTy "tuple" d = false) : PV n ch gn best d := by
  refine ⟨false, sh_T1 F h1 h6 hg ?_, lp_T1 h6 ?_⟩
  · unfold shT1 bOr
    show (some (!isTy "tuple" d)).bind _ = _
    rw [h]
    rfl
  · unfold lpT1 bOr
    show (some (!isTy "tuple" d)).bind _ = _
    rw [h]
    rfl
theorem pv_len (F : Fo n ch rk) (h1 : 1 ≤ n) (h6 : n ≤ 6) (hg : ∀ r, r < n → gn r < 9) {best : Int} {ds : List PyData} (h : ds.length ≠ 2) : PV n ch gn best (.tuple ds) := by
  have e : (dNe (.int (ds.length : Nat)) (.int 2)).bind asB = some true := by
    rw [dNe_int, decide_eq_false (by omega)]
    rfl
  refine ⟨false, sh_T1 F h1 h6 hg ?_, lp_T1 h6 ?_⟩
  · unfold shT1 bOr
    show (dNe (.int (ds.length : Nat)) (.int 2)).bind asB = _
    exact e
  · unfold lpT1 bOr
    show (dNe (.int (ds.length : Nat)) (.int 2)).bind asB = _
    exact e
theorem pv_untup (F : Fo n ch rk) (h1 : 1 ≤ n) (h6 : n ≤ 6) (hg : ∀ r, r < n → gn r < 9) {best : Int} {w : PyData} {m : Nat} {q : Nat → Int} (h : isTy "tuple" w = false) (hm : m ≤ LIM) : PV n ch gn best (pairD w (numsD m q)) :=
  ⟨false, sh_pair_no F h1 h6 hg (best := best) (Part.not h) (Part.nums hm) rfl, lp_pair_no h6 (Part.not h) (Part.nums hm) rfl⟩
theorem pv_nums (F : Fo n ch rk) (h1 : 1 ≤ n) (h6 : n ≤ 6) (hg : ∀ r, r < n → gn r < 9) {l0 : List Nat} (hb : Best n ch gn l0) {a b : Nat} {p q : Nat → Int} (ha : a ≤ LIM) (hbl : b ≤ LIM) : PV n ch gn (gnOf gn l0) (pairD (numsD a p) (numsD b q)) := by
  cases hc : (decide (a = tm n ch) && nonneg a p) && (decide (b = n) && nonneg b q) with
  | false => exact ⟨false, sh_pair_no F h1 h6 hg (best := gnOf gn l0) (Part.nums ha) (Part.nums hbl) hc, lp_pair_no h6 (Part.nums ha) (Part.nums hbl) hc⟩
  | true =>
    rw [Bool.and_eq_true, Bool.and_eq_true, Bool.and_eq_true, decide_eq_true_iff, decide_eq_true_iff] at hc
    obtain ⟨⟨rfl, hp⟩, rfl, hq⟩ := hc
    exact ⟨_, sh_pair F h1 h6 hg hb hp hq, lp_pair h6 hp hq⟩
end
end CD
end
section
set_option maxHeartbeats 1000000
namespace CD
open PySem PySem.Spec PyProof.Rows L2 DL
open SX (Gr Prb colA Party)
/-! ### sums -/
theorem filt_sm (b : Nat → Bool) (f : Nat → Int) : ∀ m, (((List.range m).filter b).map f).sum = SX.sm m fun l => if b l = true then f l else 0
  | 0 => rfl
  | m + 1 => by
    show _ = SX.sm m (fun l => if b l = true then f l else 0) + if b m = true then f m else 0
    rw [List.range_succ, List.filter_append, List.map_append, List.sum_append, filt_sm b f m]
    cases h : b m with
    | true => rw [List.filter_cons_of_pos h, if_pos rfl]; simp
    | false => rw [List.filter_cons_of_neg (by rw [h]; exact Bool.false_ne_true), if_neg Bool.false_ne_true]; simp
theorem range_sm (f : Nat → Int) : ∀ m, ((List.range m).map f).sum = SX.sm m f
  | 0 => rfl
  | m + 1 => by
    show _ = SX.sm m f + f m
    rw [List.range_succ, List.map_append, List.sum_append, range_sm f m]
    simp
theorem sm_two (f : Nat → Int) : ∀ m, SX.sm m (fun l => 2 * f l) = 2 * SX.sm m f
  | 0 => rfl
  | m + 1 => by
    show SX.sm m (fun l => 2 * f l) + 2 * f m = 2 * (SX.sm m f + f m)
    rw [sm_two f m]
    omega
section
variable {n : Nat} {ch rk gn : Nat → Nat}
theorem held_sm {x : Nat → Int} {r : Nat} : (held n ch (fun l => 2 * x l) r).sum = 2 * SX.sm (tm n ch) (fun l => colA (gr n ch gn) r l * x l) := by
  unfold held
  rw [filt_sm, ← sm_two]
  refine SX.sm_congr fun l hl => ?_
  have h1 := gr_td (n := n) (ch := ch) (gn := gn) hl
  have e : colA (gr n ch gn) r l = if inc n ch r l = true then 1 else 0 := by
    unfold colA
    rw [if_pos (show l < (gr n ch gn).m from hl)]
    have h2 : (gr n ch gn).cp l = ch (td n ch l) - 1 := rfl
    have h3 : (gr n ch gn).td l = td n ch l := rfl
    rw [h3] at h1
    rw [h2, h3]
    unfold inc
    by_cases e : r = td n ch l ∨ r = ch (td n ch l) - 1
    · rw [if_pos e, if_pos]
      rw [Bool.or_eq_true, decide_eq_true_iff, decide_eq_true_iff]
      omega
    · rw [if_neg e, if_neg]
      rw [Bool.or_eq_true, decide_eq_true_iff, decide_eq_true_iff]
      omega
  rw [e]
  cases inc n ch r l with
  | true => rw [if_pos rfl, if_pos rfl]; omega
  | false => rw [if_neg Bool.false_ne_true, if_neg Bool.false_ne_true]; omega
theorem isP_iff {l : List Nat} : isP ch l = true ↔ ∀ r ∈ l, ∀ s ∈ l, ch r ≠ s + 1 := by
  unfold isP
  rw [Bool.not_eq_true', List.any_eq_false]
  constructor
  · intro h r hr s hs e
    refine h r hr (inL_iff.mpr ⟨s, hs, ?_⟩)
    omega
  · intro h r hr e
    obtain ⟨s, hs, e⟩ := inL_iff.mp e
    exact h r hr s hs (by omega)
theorem td_of {r : Nat} (hr : r < n) (hc : ch r ≠ 0) : ∃ j, j < tm n ch ∧ td n ch j = r := by
  obtain ⟨j, hj, e⟩ := List.mem_iff_getElem.mp (tied_mem.mpr ⟨hr, hc⟩)
  refine ⟨j, hj, ?_⟩
  unfold td
  simp [hj, e]
theorem party_lot {S : Nat → Int} (h : Party (gr n ch gn) S) : (List.range n).filter (fun r => decide (S r = 1)) ∈ good n ch := by
  refine List.mem_filter.mpr ⟨lots_filter _, isP_iff.mpr fun r hr s hs e => ?_⟩
  obtain ⟨hr1, hr2⟩ := List.mem_filter.mp hr
  obtain ⟨hs1, hs2⟩ := List.mem_filter.mp hs
  have hr1 := List.mem_range.mp hr1
  have hr2 := of_decide_eq_true hr2
  have hs2 := of_decide_eq_true hs2
  obtain ⟨j, hj, ej⟩ := td_of (ch := ch) hr1 (by omega)
  have := h.2 j hj
  have e1 : (gr n ch gn).td j = r := ej
  have e2 : (gr n ch gn).cp j = s := by
    show ch (td n ch j) - 1 = s
    rw [ej, e]
    rfl
  rw [e1, e2, hr2, hs2] at this
  omega
theorem party_gain {S : Nat → Int} (h : Party (gr n ch gn) S) : gnOf gn ((List.range n).filter fun r => decide (S r = 1)) = SX.sm n fun r => S r * (gn r : Int) := by
  have := lot_sm (fun r => (gn r : Int)) (lots_filter (n := n) fun r => decide (S r = 1))
  unfold gnOf
  rw [← this]
  refine SX.sm_congr fun r hr => ?_
  have e : r ∈ (List.range n).filter (fun r => decide (S r = 1)) ↔ S r = 1 := by
    rw [List.mem_filter, List.mem_range, decide_eq_true_iff]
    exact ⟨fun z => z.2, fun z => ⟨hr, z⟩⟩
  rcases h.1 r hr with z | z
  · rw [if_neg fun y => by have := e.mp y; omega, z]
  · rw [if_pos (e.mpr z), z]
theorem lot_party {l : List Nat} (h : l ∈ good n ch) : Party (gr n ch gn) fun r => if r ∈ l then 1 else 0 := by
  refine ⟨fun r _ => ?_, fun j hj => ?_⟩
  · by_cases e : r ∈ l
    · exact .inr (if_pos e)
    · exact .inl (if_neg e)
  · have h1 := gr_td (n := n) (ch := ch) (gn := gn) hj
    have h2 := isP_iff.mp (List.mem_filter.mp h).2
    have h3 : (gr n ch gn).cp j = ch ((gr n ch gn).td j) - 1 := rfl
    dsimp only
    by_cases e1 : (gr n ch gn).td j ∈ l
    · by_cases e2 : (gr n ch gn).cp j ∈ l
      · exact absurd (show ch ((gr n ch gn).td j) = (gr n ch gn).cp j + 1 by omega) (h2 _ e1 _ e2)
      · rw [if_pos e1, if_neg e2]
        omega
    · rw [if_neg e1]
      split <;> omega
theorem best_total {l0 : List Nat} (hb : Best n ch gn l0) {t : Int} (h1 : ∃ S, Party (gr n ch gn) S ∧ SX.sm n (fun r => S r * (gn r : Int)) = t) (h2 : ∀ S, Party (gr n ch gn) S → SX.sm n (fun r => S r * (gn r : Int)) ≤ t) : gnOf gn l0 = t := by
  obtain ⟨S, hS, e⟩ := h1
  have a := hb.top _ (party_lot hS)
  rw [party_gain hS, e] at a
  have b := h2 _ (lot_party hb.mem)
  rw [lot_sm _ (good_lots hb.mem)] at b
  have b : gnOf gn l0 ≤ t := b
  omega
/-- the paper that the program gives -/
theorem paper_ok (F : Fo n ch rk) (h1 : 1 ≤ n) (h6 : n ≤ 6) (hg : ∀ r, r < n → gn r < 9) {l0 : List Nat} (hb : Best n ch gn l0) : ∃ p q : Nat → Int, F_party_paper [chD n ch, chD n gn] = some (pairD (numsD (tm n ch) fun l => 2 * p l) (numsD n fun r => 2 * q r)) ∧
    F__law_is_paper [chD n ch, chD n gn, .int (gnOf gn l0), pairD (numsD (tm n ch) fun l => 2 * p l) (numsD n fun r => 2 * q r)] = some (.bool true) := by
  obtain ⟨x, y, e, x0, y0, cv, b1, b2⟩ := F_party_paper1 F h1 h6 hg
  refine ⟨x, y, ?_, ?_⟩
  · rw [e]
    unfold pairD numsD
    rw [show (fun l => rt (x l)) = fun l => hf (2 * x l) from funext fun l => rt_hf _, show (fun r => rt (y r)) = fun r => hf (2 * y r) from funext fun r => rt_hf _]
  · have ok : papOK n ch gn (gnOf gn l0) (fun l => 2 * x l) (fun r => 2 * y r) = true := by
      unfold papOK
      rw [Bool.and_eq_true, List.all_eq_true, decide_eq_true_iff]
      refine ⟨fun r hr => ?_, ?_⟩
      · unfold covers
        rw [Bool.not_eq_true', decide_eq_false_iff_not, held_sm (gn := gn)]
        have := cv r (List.mem_range.mp hr)
        dsimp only
        omega
      · unfold papSum
        rw [range_sm, range_sm, sm_two, sm_two, best_total hb b1 b2]
        omega
    rw [lp_pair h6 (List.all_eq_true.mpr fun l _ => decide_eq_true (by have := x0 l; omega)) (List.all_eq_true.mpr fun l _ => decide_eq_true (by have := y0 l; omega)), ok]
end
end CD
end
section
set_option maxHeartbeats 1000000
namespace CD
open PySem PySem.Spec PyProof.Rows L2 DL
/-! ### watchers -/
def belowI (n : Nat) (ch : Nat → Nat) (p : Nat) : List Int := ((List.range n).filter fun s => decide (((ch s : Nat) : Int) = 1 + (p : Nat))).map fun s => (1 : Int) + (s : Nat)
def nearI (n : Nat) (ch : Nat → Nat) (p : Nat) : List Int := ((1 : Int) + (p : Nat)) :: ((ch p : Nat) : Int) :: belowI n ch p
def wat (n : Nat) (ch : Nat → Nat) (l : List Nat) : Bool := (List.range n).all fun p => (nearI n ch p).any (inL l)
section
variable {n : Nat} {ch rk gn : Nat → Nat}
def waE (n : Nat) (ch : Nat → Nat) (l : List Nat) (x2 x3 x4 : Option PyData) (bs : Bool) : En := ⟨[some (chD n ch), some (lotD l), x2, x3, x4], none, 0, [], bs⟩
def waBelow : En → Option PyData := dComp [4] (sRng2 (dC (.int 1)) (bin2 dAdd (dFun fLen (dVar 0)) (dC (.int 1)))) (.one 4) (bOf (bin2 dEq (bin2 dIx (dVar 0) (bin2 dSub (dVar 4) (dC (.int 1)))) (dVar 2))) (dVar 4)
def waNear : En → Option PyData := dLst (sCons (dVar 2) (sCons (bin2 dIx (dVar 0) (bin2 dSub (dVar 2) (dC (.int 1)))) (sStar waBelow sNil)))
def waAny : En → Option Bool := bNot (bOf (dAny 4 (sSeq (dVar 3)) (bin2 dIn (dVar 4) (dVar 1))))
def waB : En → Option SR := sThen (sSet 3 waNear) (sIf waAny (sRet (dC (.bool false))) sSkip)
theorem B_watches_eq : B_watches = sThen (sFor (sRng2 (dC (.int 1)) (bin2 dAdd (dFun fLen (dVar 0)) (dC (.int 1)))) (.one 2) waB) (sRet (dC (.bool true))) := rfl
theorem waBelow_eq (h6 : n ≤ 6) {l : List Nat} {p : Nat} {x3 : Option PyData} : waBelow (waE n ch l (some (pD p)) x3 none false) = some (.list ((belowI n ch p).map PyData.int)) := by
  unfold waBelow
  rw [dComp_fm (xs := List.range n) (fun s => decide (((ch s : Nat) : Int) = 1 + (p : Nat))) (fun s => PyData.int ((1 : Int) + (s : Nat))) (fun s => PyData.int ((1 : Int) + (s : Nat))) (dRng2 (chD_len (n := n) (f := ch) rfl) (by omega)) (by rw [List.length_range]; show n ≤ 1000; omega) fun s hs => ?_]
  · unfold belowI
    rw [List.map_map]
    rfl
  · have hs := List.mem_range.mp hs
    refine ⟨waE n ch l (some (pD p)) x3 (some (.int ((1 : Int) + (s : Nat)))) false, rfl, ?_, fun _ => rfl⟩
    show ((dIx (chD n ch) (.int ((1 : Int) + (s : Nat) - 1))).bind fun a => dEq a (pD p)).bind asB = _
    rw [chD_ix1 hs]
    show (dEq (.int (ch s : Nat)) (.int ((1 : Int) + (p : Nat)))).bind asB = _
    rw [dEq_int]
    rfl
theorem belowI_len {p : Nat} : (belowI n ch p).length ≤ n := by
  unfold belowI
  rw [List.length_map]
  have := List.length_filter_le (fun s => decide (((ch s : Nat) : Int) = 1 + (p : Nat))) (List.range n)
  rwa [List.length_range] at this
theorem waNear_eq (h6 : n ≤ 6) {l : List Nat} {p : Nat} (hp : p < n) {x3 : Option PyData} : waNear (waE n ch l (some (pD p)) x3 none false) = some (.list ((nearI n ch p).map PyData.int)) := by
  have hb := belowI_len (n := n) (ch := ch) (p := p)
  have e1 : sStar waBelow sNil (waE n ch l (some (pD p)) x3 none false) = some ((belowI n ch p).map PyData.int) := by
    unfold sStar
    rw [waBelow_eq h6]
    show some ((belowI n ch p).map PyData.int ++ []) = _
    rw [List.append_nil]
  have e2 : bin2 dIx (dVar 0) (bin2 dSub (dVar 2) (dC (.int 1))) (waE n ch l (some (pD p)) x3 none false) = some (.int (ch p : Nat)) := by
    show dIx (chD n ch) (.int ((1 : Int) + (p : Nat) - 1)) = _
    exact chD_ix1 hp
  unfold waNear dLst sCons
  rw [e1, e2]
  show (if (PyData.int ((1 : Int) + (p : Nat)) :: PyData.int (ch p : Nat) :: (belowI n ch p).map PyData.int).length ≤ LIM then some (PyData.list (PyData.int ((1 : Int) + (p : Nat)) :: PyData.int (ch p : Nat) :: (belowI n ch p).map PyData.int)) else none) = _
  rw [if_pos (by rw [List.length_cons, List.length_cons, List.length_map]; show _ ≤ 1000; omega)]
  rfl
theorem waAny_eq {l : List Nat} {p : Nat} : waAny (waE n ch l (some (pD p)) (some (.list ((nearI n ch p).map PyData.int))) none false) = some (!(nearI n ch p).any (inL l)) := by
  refine bNot_of (bOf_of (dAny_map (xs := nearI n ch p) PyData.int (inL l) rfl fun i _ => ⟨waE n ch l (some (pD p)) (some (.list ((nearI n ch p).map PyData.int))) (some (.int i)) false, rfl, ?_⟩))
  exact dIn_lot i l
theorem F_watches1 (h6 : n ≤ 6) (l : List Nat) : F_watches [chD n ch, lotD l] = some (.bool (wat n ch l)) := by
  obtain ⟨ρ', ⟨x2, x3, rfl⟩, hf'⟩ := sFor_all (it := sRng2 (dC (.int 1)) (bin2 dAdd (dFun fLen (dVar 0)) (dC (.int 1)))) (tg := .one 2) (body := waB) (ρ := waE n ch l none none none true) (xs := List.range n)
    (fun ρ => ∃ x2 x3, ρ = waE n ch l x2 x3 none false) (fun r => PyData.int ((1 : Int) + (r : Nat))) (fun p => (nearI n ch p).any (inL l)) (.bool false) rfl (dRng2 (chD_len (n := n) (f := ch) rfl) (by omega)) ⟨none, none, rfl⟩ (by rintro _ ⟨x2, x3, rfl⟩; rfl) (by
      rintro p hp _ ⟨x2, x3, rfl⟩
      have hp := List.mem_range.mp hp
      refine ⟨waE n ch l (some (pD p)) x3 none false, waE n ch l (some (pD p)) (some (.list ((nearI n ch p).map PyData.int))) none false, rfl, ?_, _, _, rfl⟩
      unfold waB
      rw [sThen_nx (sSet_of (waNear_eq h6 hp) rfl)]
      have b2 := waAny_eq (n := n) (ch := ch) (l := l) (p := p)
      cases hc : (nearI n ch p).any (inL l) with
      | true =>
        rw [hc] at b2
        exact sIf_nx b2
      | false =>
        rw [hc] at b2
        exact sIf_rt b2)
  refine runD_of (r := .rt (waE n ch l x2 x3 none true) (.bool (wat n ch l))) rfl ?_ rfl
  show B_watches (waE n ch l none none none true) = _
  rw [B_watches_eq]
  unfold wat
  cases hc : (List.range n).all fun p => (nearI n ch p).any (inL l) with
  | true =>
    rw [hc] at hf'
    rw [sThen_nx hf']
    rfl
  | false =>
    rw [hc] at hf'
    rw [sThen_rt hf']
    rfl
def watL (n : Nat) (ch : Nat → Nat) : List Int := ((lots n).filter (wat n ch)).map fun l => ((l.length : Nat) : Int)
theorem watL_ne (n : Nat) (ch : Nat → Nat) : watL n ch ≠ [] := by
  have h : (List.range n) ∈ (lots n).filter (wat n ch) := by
    refine List.mem_filter.mpr ⟨lots_all List.pairwise_lt_range fun r hr => List.mem_range.mp hr, ?_⟩
    unfold wat
    rw [List.all_eq_true]
    intro p hp
    unfold nearI
    rw [List.any_cons, inL_mem.mpr hp]
    rfl
  unfold watL
  intro e
  rw [List.map_eq_nil_iff] at e
  rw [e] at h
  cases h
theorem fMin_watL : fMin (.list ((watL n ch).map PyData.int)) = some (.int (minI (watL n ch))) := by
  show ((asInts ((watL n ch).map PyData.int)).bind fun ns => if ns = [] then none else some (PyData.int (minI ns))) = _
  rw [asInts_map, Option.bind_some, if_neg (watL_ne n ch)]
theorem F_fewest1 (F : Fo n ch rk) (h1 : 1 ≤ n) (h6 : n ≤ 6) : F_fewest_watchers [chD n ch] = some (.int (minI (watL n ch))) := by
  let E : En := ⟨[some (chD n ch), none], none, 0, [], true⟩
  refine runD_of (r := .rt E (.int (minI (watL n ch)))) rfl ?_ rfl
  have a1 : sExp (dCall F_need_chart (sCons (dVar 0) sNil)) E = some (.nx E) := by
    unfold sExp
    show (F_need_chart [chD n ch]).map _ = _
    rw [F_need_chart1 F h1 h6]
    rfl
  have hi : sSeq (dCall F_lots_of (sCons (dFun fLen (dVar 0)) sNil)) E = some ((lots n).map lotD) := by
    unfold sSeq
    rw [call1 (F := F_lots_of) (chD_len (n := n) (f := ch) rfl), F_lots_of1 h6]
    rfl
  have hL : (lots n).length ≤ 64 := lots_len6 h6
  have e : dComp [1] (sSeq (dCall F_lots_of (sCons (dFun fLen (dVar 0)) sNil))) (.one 1) (bOf (dCall F_watches (sCons (dVar 0) (sCons (dVar 1) sNil)))) (dFun fLen (dVar 1)) E = some (.list ((watL n ch).map PyData.int)) := by
    rw [dComp_fm (xs := lots n) (wat n ch) lotD (fun l => .int ((l.length : Nat) : Int)) hi (by show _ ≤ 1000; omega) fun l hl => ⟨⟨[some (chD n ch), some (lotD l)], none, 0, [], false⟩, rfl, ?_, fun _ => ?_⟩]
    · unfold watL
      rw [List.map_map]
      rfl
    · show (F_watches [chD n ch, lotD l]).bind asB = _
      rw [F_watches1 h6]
      rfl
    · show some (PyData.int ((l.map pD).length : Nat)) = _
      rw [List.length_map]
  show B_fewest_watchers E = _
  unfold B_fewest_watchers
  rw [sThen_nx a1]
  exact sRet_of (dFun_of e fMin_watL)
/-! ### the law's bare ones -/
def bareP (n : Nat) (ch : Nat → Nat) (l : List Nat) (p : Nat) : Bool := !inL l ((1 : Int) + (p : Nat)) && (!inL l (ch p : Nat) && ((l.filter fun s => decide (((ch s : Nat) : Int) = 1 + (p : Nat))).map pD).isEmpty)
theorem bare_near {l : List Nat} (hl : ∀ r ∈ l, r < n) (p : Nat) : (nearI n ch p).any (inL l) = !bareP n ch l p := by
  unfold bareP nearI
  rw [List.any_cons, List.any_cons]
  have e : (belowI n ch p).any (inL l) = !((l.filter fun s => decide (((ch s : Nat) : Int) = 1 + (p : Nat))).map pD).isEmpty := by
    unfold belowI
    rw [List.any_map]
    apply Bool.eq_iff_iff.mpr
    rw [List.any_eq_true, Bool.not_eq_true', List.isEmpty_eq_false_iff, ne_eq, List.map_eq_nil_iff, List.filter_eq_nil_iff]
    constructor
    · rintro ⟨s, h1, h2⟩ h3
      exact h3 s (inL_mem.mp h2) (List.mem_filter.mp h1).2
    · intro h3
      apply Classical.byContradiction
      intro h4
      apply h3
      intro s hs h5
      exact h4 ⟨s, List.mem_filter.mpr ⟨List.mem_range.mpr (hl s hs), h5⟩, inL_mem.mpr hs⟩
  rw [e]
  cases inL l ((1 : Int) + (p : Nat)) <;> cases inL l (ch p : Nat) <;> simp
theorem wat_bare {l : List Nat} (hl : ∀ r ∈ l, r < n) : (((List.range n).filter (bareP n ch l)).map pD).isEmpty = wat n ch l := by
  have e : bareP n ch l = fun p => !(nearI n ch p).any (inL l) := funext fun p => by rw [bare_near hl, Bool.not_not]
  rw [e, filter_empty]
  rfl
end
end CD
end
section
set_option maxHeartbeats 1000000
namespace CD
open PySem PySem.Spec PyProof.Rows L2 DL
/-! ### the law's text, statement by statement -/
def w1 : En → Option SR := sPar 6 7 (sCons (dCall F__law_lots (sCons (dVar 2) sNil)) (sCons (dLst sNil) sNil))
def w2e : En → Option PyData := bin2 dEq (dComp [5] (sSeq (dVar 8)) (.one 5) (bOf (bin2 dIn (bin2 dIx (dVar 3) (bin2 dSub (dVar 5) (dC (.int 1)))) (dVar 8))) (dVar 5)) (dLst sNil)
def w2b : En → Option SR := sSet 7 (bin2 dAdd (dVar 7) (bin2 dMul (dLst (sCons (dVar 8) sNil)) (dFun fInt w2e)))
def w2 : En → Option SR := sFor (sSeq (dVar 6)) (.one 8) w2b
def w3e : En → Option PyData := dComp [8] (sSeq (dVar 7)) (.one 8) bYes (dFun fSum (dComp [5] (sSeq (dVar 8)) (.one 5) bYes (bin2 dIx (dVar 4) (bin2 dSub (dVar 5) (dC (.int 1))))))
def w4 : En → Option SR := sAsg3 10 11 12 (sCons (dFun fMax (dVar 9)) (sCons (dCall F_best_party (sCons (dVar 3) (sCons (dVar 4) sNil))) (sCons (dCall F_party_paper (sCons (dVar 3) (sCons (dVar 4) sNil))) sNil)))
def w5t : En → Option Bool := bNot (bOf (dCall F__law_alike (sCons (dCall F_party_count (sCons (dVar 3) sNil)) (sCons (dFun fLen (dVar 7)) sNil))))
def w6t : En → Option Bool := bOr (bNot (bOf (dIsi "tuple" (dVar 11)))) (bOr (bOf (bin2 dNe (dFun fLen (dVar 11)) (dC (.int 2)))) (bOr (bOf (bin2 dNe (bin2 dIx (dVar 11) (dC (.int 0))) (dVar 10))) (bOr (bOf (bin2 dNotIn (bin2 dIx (dVar 11) (dC (.int 1))) (dVar 7))) (bOf (bin2 dNe (bin2 dIx (dVar 9) (bin2 dIdx (dVar 7) (bin2 dIx (dVar 11) (dC (.int 1))))) (dVar 10))))))
def w7e : En → Option PyData := dLst (sCons (dVar 11) (sCons (dFun fList (dVar 11)) (sCons (dTup (sCons (dVar 10) (sCons (dFun fList (bin2 dIx (dVar 11) (dC (.int 1)))) sNil))) (sCons (dTup (sCons (bin2 dAdd (dVar 10) (dC (.int 1))) (sCons (bin2 dIx (dVar 11) (dC (.int 1))) sNil))) (sCons (dTup (sCons (dVar 10) (sCons (dRevT (bin2 dIx (dVar 11) (dC (.int 1)))) sNil))) (sCons (dTup (sCons (dVar 10) (sCons (dTup sNil) sNil))) (sCons (dC .none) (sCons (dC (.int 3)) (sCons (dTup (sCons (dVar 10) (sCons (dTup (sCons (bin2 dAdd (dVar 2) (dC (.int 1))) sNil)) sNil))) sNil)))))))))
def w8i : En → Option (List PyData) := sSeq (bin2 dAdd (dVar 13) (dComp [8] (sSeq (dSl (dVar 6) oNo (oSo (dC (.int 40))))) (.one 8) bYes (dTup (sCons (dVar 10) (sCons (dVar 8) sNil)))))
def w8t : En → Option Bool := bNot (bOf (dCall F__law_alike (sCons (dCall F_shows_best_party (sCons (dVar 3) (sCons (dVar 4) (sCons (dVar 14) sNil)))) (sCons (dVar 15) sNil))))
def w8b : En → Option SR := sThen (sSet 15 due1) (sThen (sSet 15 due2) (sIf w8t (sRet (dC (.bool false))) sSkip))
def w8 : En → Option SR := sFor w8i (.one 14) w8b
def w9t : En → Option Bool := bNot (bOf (dCall F__law_is_paper (sCons (dVar 3) (sCons (dVar 4) (sCons (dVar 10) (sCons (dVar 12) sNil))))))
def w10 : En → Option SR := sOwn 16 (fL (sCons (dVar 12) (sCons (dFun fList (dVar 12)) (sCons (dRevT (dVar 12)) (sCons (dSl (dVar 12) oNo (oSo (dC (.int 1)))) (sCons (dTup (sCons (dFun fList (bin2 dIx (dVar 12) (dC (.int 0)))) (sCons (bin2 dIx (dVar 12) (dC (.int 1))) sNil))) (sCons (dC .none) (sCons (dC (.int 3)) sNil))))))))
def w11e : En → Option PyData := bin2 dAdd (bin2 dAdd (dSl (bin2 dIx (dVar 12) (dVar 17)) oNo (oSo (dVar 5))) (dTup (sCons (dCall F__law_plus (sCons (bin2 dIx (bin2 dIx (dVar 12) (dVar 17)) (dVar 5)) (sCons (dVar 18) sNil))) sNil))) (dSl (bin2 dIx (dVar 12) (dVar 17)) (oSo (bin2 dAdd (dVar 5) (dC (.int 1)))) oNo)
def w11p : En → Option PyData := dIf (bOf (bin2 dEq (dVar 17) (dC (.int 0)))) (dTup (sCons (dVar 19) (sCons (bin2 dIx (dVar 12) (dC (.int 1))) sNil))) (dTup (sCons (bin2 dIx (dVar 12) (dC (.int 0))) (sCons (dVar 19) sNil)))
def w11c : En → Option SR := sThen (sSet 19 w11e) (sApp 16 w11p)
def w11s : En → Option (List PyData) := sSeq (dLst (sCons (dTup (sCons (dC (.int 1)) (sCons (dC (.int 2)) sNil))) (sCons (dTup (sCons (dNeg (dC (.int 1))) (sCons (dC (.int 2)) sNil))) sNil)))
def w11b : En → Option SR := sForM w11s (.one 18) w11c
def w11a : En → Option SR := sForM (sRng1 (dFun fLen (bin2 dIx (dVar 12) (dVar 17)))) (.one 5) w11b
def w11 : En → Option SR := sForM (sRng1 (dC (.int 2))) (.one 17) w11a
def w12t : En → Option Bool := bNot (bOf (dCall F__law_alike (sCons (dCall F_shows_party_paper (sCons (dVar 3) (sCons (dVar 4) (sCons (dVar 14) sNil)))) (sCons (dCall F__law_is_paper (sCons (dVar 3) (sCons (dVar 4) (sCons (dVar 10) (sCons (dVar 14) sNil))))) sNil))))
def w12f : En → Option SR := sFor (sSeq (dVar 16)) (.one 14) (sIf w12t (sRet (dC (.bool false))) sSkip)
def w14c : En → Option PyData := dComp [22] (sSeq (dVar 8)) (.one 22) (bOf (bin2 dEq (bin2 dIx (dVar 3) (bin2 dSub (dVar 22) (dC (.int 1)))) (dVar 5))) (dVar 22)
def w14e : En → Option PyData := dComp [5] (sRng2 (dC (.int 1)) (bin2 dAdd (dVar 2) (dC (.int 1)))) (.one 5) (bAnd (bOf (bin2 dNotIn (dVar 5) (dVar 8))) (bAnd (bOf (bin2 dNotIn (bin2 dIx (dVar 3) (bin2 dSub (dVar 5) (dC (.int 1)))) (dVar 8))) (bOf (bin2 dEq w14c (dLst sNil))))) (dVar 5)
def w14b : En → Option SR := sThen (sSet 21 w14e) (sSet 20 (bin2 dAdd (dVar 20) (bin2 dMul (dLst (sCons (dFun fLen (dVar 8)) sNil)) (dFun fInt (bin2 dEq (dVar 21) (dLst sNil))))))
def w14 : En → Option SR := sFor (sSeq (dVar 6)) (.one 8) w14b
def w15 : En → Option SR := sRet (dCall F__law_alike (sCons (dCall F_fewest_watchers (sCons (dVar 3) sNil)) (sCons (dFun fMin (dVar 20)) sNil)))
def rF : En → Option SR := sRet (dC (.bool false))
theorem B_law_eq : B_law = sThen w1 (sThen w2 (sThen (sSet 9 w3e) (sThen w4 (sThen (sIf w5t rF sSkip) (sThen (sIf w6t rF sSkip) (sThen (sSet 13 w7e) (sThen w8 (sThen (sIf w9t rF sSkip) (sThen w10 (sThen w11 (sThen (sRel 16 w12f) (sThen (sSet 20 (dLst sNil)) (sThen w14 w15))))))))))))) := rfl
def LE (n : Nat) (ch gn : Nat → Nat) (x5 x6 x7 x8 x9 x10 x11 x12 x13 x14 x15 x16 x17 x18 x19 x20 x21 x22 : Option PyData) (ow : List (Nat × List PyData)) (bs : Bool) : En :=
  ⟨[none, none, some (.int (n : Nat)), some (chD n ch), some (chD n gn), x5, x6, x7, x8, x9, x10, x11, x12, x13, x14, x15, x16, x17, x18, x19, x20, x21, x22], none, 0, ow, bs⟩
theorem sPar_of {i j : Nat} {f g : En → Option PyData} {ρ ρ1 ρ2 : En} {a b : PyData} (h1 : f ρ = some a) (h2 : g ρ = some b) (h3 : setE i a ρ = some ρ1) (h4 : setE j b ρ1 = some ρ2) : sPar i j (sCons f (sCons g sNil)) ρ = some (.nx ρ2) := by
  unfold sPar sCons sNil
  rw [h1, h2]
  show (setE i a ρ).bind (fun ρ1 => (setE j b ρ1).map SR.nx) = _
  rw [h3, Option.bind_some, h4]
  rfl
theorem sAsg3_of {i j l : Nat} {f g h : En → Option PyData} {ρ ρ1 ρ2 ρ3 : En} {a b c : PyData} (h1 : f ρ = some a) (h2 : g ρ = some b) (h3 : h ρ = some c) (h4 : setE i a ρ = some ρ1) (h5 : setE j b ρ1 = some ρ2) (h6 : setE l c ρ2 = some ρ3) : sAsg3 i j l (sCons f (sCons g (sCons h sNil))) ρ = some (.nx ρ3) := by
  unfold sAsg3 sCons sNil
  rw [h1, h2, h3]
  show (setE i a ρ).bind (fun ρ1 => (setE j b ρ1).bind fun ρ2 => (setE l c ρ2).map SR.nx) = _
  rw [h4, Option.bind_some, h5, Option.bind_some, h6]
  rfl
/-! ### flags: a list, once or not at all -/
theorem lst1 {f : En → Option PyData} {ρ : En} {a : PyData} (h : f ρ = some a) : dLst (sCons f sNil) ρ = some (.list [a]) := by
  unfold dLst sCons sNil
  rw [h]
  rfl
theorem lst0 {ρ : En} : dLst sNil ρ = some (.list []) := rfl
theorem mul_flag {f g : En → Option PyData} {ρ : En} {a : PyData} {b : Bool} (h : f ρ = some a) (h2 : g ρ = some (.bool b)) : bin2 dMul (dLst (sCons f sNil)) (dFun fInt g) ρ = some (.list (if b = true then [a] else [])) := by
  refine bin2_of (lst1 h) (dFun_of (F := fInt) h2 (d := .int (if b then 1 else 0)) rfl) ?_
  cases b <;> rfl
theorem add_flag {i : Nat} {f g : En → Option PyData} {ρ : En} {a : PyData} {xs : List PyData} {b : Bool} (hi : dVar i ρ = some (.list xs)) (hl : xs.length ≤ 900) (h : f ρ = some a) (h2 : g ρ = some (.bool b)) : bin2 dAdd (dVar i) (bin2 dMul (dLst (sCons f sNil)) (dFun fInt g)) ρ = some (.list (xs ++ if b = true then [a] else [])) := by
  refine bin2_of hi (mul_flag h h2) ?_
  show (if xs.length + (if b = true then [a] else []).length ≤ LIM then some (PyData.list (xs ++ if b = true then [a] else [])) else none) = _
  rw [if_pos]
  show _ ≤ 1000
  cases b with
  | true => show xs.length + 1 ≤ 1000; omega
  | false => show xs.length + 0 ≤ 1000; omega
theorem filt_take {α : Type} (p : α → Bool) (g : α → PyData) {xs : List α} {i : Nat} {x : α} (h : xs[i]? = some x) : ((xs.take (i + 1)).filter p).map g = ((xs.take i).filter p).map g ++ if p x = true then [g x] else [] := by
  rw [List.take_add_one, h, List.filter_append, List.map_append]
  show _ ++ ([x].filter p).map g = _
  cases hp : p x with
  | true => rw [List.filter_cons_of_pos hp]; rfl
  | false => rw [List.filter_cons_of_neg (by rw [hp]; exact Bool.false_ne_true)]; rfl
theorem filt_len {α : Type} (p : α → Bool) (g : α → PyData) (xs : List α) (i : Nat) : (((xs.take i).filter p).map g).length ≤ xs.length := by
  rw [List.length_map]
  refine Nat.le_trans (List.length_filter_le _ _) ?_
  rw [List.length_take]
  exact Nat.min_le_right _ _
section
variable {n : Nat} {ch rk gn : Nat → Nat} {x5 x6 x7 x8 x9 x10 x11 x12 x13 x14 x15 x16 x17 x18 x19 x20 x21 x22 : Option PyData} {ow : List (Nat × List PyData)} {bs : Bool}
/-! ### 1, 2: all lots, the good ones -/
theorem w1_eq (h6 : n ≤ 6) : w1 (LE n ch gn none none none none none none none none none none none none none none none none none none [] true) = some (.nx (LE n ch gn none (some (lotsD (lots n))) (some (lotsD [])) none none none none none none none none none none none none none none none [] true)) := by
  exact sPar_of ((call1 (F := F__law_lots) (a := .int (n : Nat)) rfl).trans (F__law_lots1 h6)) lst0 rfl rfl
theorem isP_empty (ch : Nat → Nat) (l : List Nat) : ((l.filter fun r => inL l (ch r : Nat)).map pD).isEmpty = isP ch l := by
  have := filter_empty (fun r => !inL l (ch r : Nat)) pD l
  unfold isP
  rw [List.not_any_eq_all_not, ← this]
  simp only [Bool.not_not]
theorem Sh.pDs (l : List Nat) : ∀ x ∈ l.map pD, Sh 0 x := fun x hx => by
  obtain ⟨i, _, rfl⟩ := List.mem_map.mp hx
  exact .int _
theorem w2e_eq {l : List Nat} (hl : l ∈ lots n) (h6 : n ≤ 6) : w2e (LE n ch gn none x6 x7 (some (lotD l)) x9 x10 x11 x12 x13 x14 x15 x16 x17 x18 x19 x20 x21 x22 [] false) = some (.bool (isP ch l)) := by
  have hs := lots_size hl
  refine bin2_of (F := dEq) (dComp_fm (xs := l) (fun r => inL l (ch r : Nat)) pD pD rfl (by show _ ≤ 1000; omega) fun r hr => ⟨LE n ch gn (some (pD r)) x6 x7 (some (lotD l)) x9 x10 x11 x12 x13 x14 x15 x16 x17 x18 x19 x20 x21 x22 [] false, rfl, ?_, fun _ => rfl⟩) lst0 ?_
  · refine bOf_of (bin2_of (F := dIn) (a := .int (ch r : Nat)) (b := lotD l) ?_ rfl (dIn_lot _ _))
    show dIx (chD n ch) (.int ((1 : Int) + (r : Nat) - 1)) = _
    exact chD_ix1 (lots_lt hl r hr)
  · rw [dEq_nil (Sh.pDs _), isP_empty]
theorem w2_eq (h6 : n ≤ 6) : ∃ x8', w2 (LE n ch gn none (some (lotsD (lots n))) (some (lotsD [])) none x9 x10 x11 x12 x13 x14 x15 x16 x17 x18 x19 x20 x21 x22 [] true) = some (.nx (LE n ch gn none (some (lotsD (lots n))) (some (lotsD (good n ch))) x8' x9 x10 x11 x12 x13 x14 x15 x16 x17 x18 x19 x20 x21 x22 [] true)) := by
  have hL := lots_len6 h6
  obtain ⟨ρ', h1, h2⟩ := forL_inv (tg := .one 8) (body := w2b) (fun k ρ => ∃ x8, ρ = LE n ch gn none (some (lotsD (lots n))) (some (.list ((((lots n).take k).filter (isP ch)).map lotD))) x8 x9 x10 x11 x12 x13 x14 x15 x16 x17 x18 x19 x20 x21 x22 [] false)
    (ds := (lots n).map lotD) (k := 0) (ρ := LE n ch gn none (some (lotsD (lots n))) (some (lotsD [])) none x9 x10 x11 x12 x13 x14 x15 x16 x17 x18 x19 x20 x21 x22 [] false) ⟨none, rfl⟩ (fun i d ρ hd hI => by
      obtain ⟨x8, rfl⟩ := hI
      rw [List.getElem?_map] at hd
      obtain ⟨l, hl, rfl⟩ := Option.map_eq_some_iff.mp hd
      rw [Nat.zero_add]
      refine ⟨LE n ch gn none (some (lotsD (lots n))) (some (.list ((((lots n).take i).filter (isP ch)).map lotD))) (some (lotD l)) x9 x10 x11 x12 x13 x14 x15 x16 x17 x18 x19 x20 x21 x22 [] false, LE n ch gn none (some (lotsD (lots n))) (some (.list ((((lots n).take (i + 1)).filter (isP ch)).map lotD))) (some (lotD l)) x9 x10 x11 x12 x13 x14 x15 x16 x17 x18 x19 x20 x21 x22 [] false, rfl, ?_, _, rfl⟩
      rw [filt_take _ _ hl]
      have hq := filt_len (isP ch) lotD (lots n) i
      exact sSet_of (add_flag (i := 7) (f := dVar 8) (a := lotD l) rfl (by omega) rfl (w2e_eq (List.mem_of_getElem? hl) h6)) rfl)
  obtain ⟨x8, rfl⟩ := h2
  refine ⟨x8, ?_⟩
  rw [Nat.zero_add, List.length_map, List.take_length] at h1
  unfold w2
  rw [sFor_nx rfl rfl h1 rfl]
  rfl
/-! ### 3, 4: sums, the best, what the program gives -/
theorem w3_eq (h6 : n ≤ 6) : w3e (LE n ch gn none x6 (some (lotsD (good n ch))) x8 x9 x10 x11 x12 x13 x14 x15 x16 x17 x18 x19 x20 x21 x22 [] true) = some (sumsD n ch gn) := by
  have hg := good_len (ch := ch) h6
  refine dComp_map (xs := good n ch) lotD (fun l => .int (gnOf gn l)) rfl (by show _ ≤ 1000; omega) fun l hl => ⟨LE n ch gn none x6 (some (lotsD (good n ch))) (some (lotD l)) x9 x10 x11 x12 x13 x14 x15 x16 x17 x18 x19 x20 x21 x22 [] false, rfl, rfl, ?_⟩
  have hl := good_lots hl
  have hs := lots_size hl
  refine dFun_of (F := fSum) (dComp_map (xs := l) pD (fun r => .int (gn r : Nat)) rfl (by show _ ≤ 1000; omega) fun r hr => ⟨LE n ch gn (some (pD r)) x6 (some (lotsD (good n ch))) (some (lotD l)) x9 x10 x11 x12 x13 x14 x15 x16 x17 x18 x19 x20 x21 x22 [] false, rfl, rfl, ?_⟩) ?_
  · show dIx (chD n gn) (.int ((1 : Int) + (r : Nat) - 1)) = _
    exact chD_ix1 (lots_lt hl r hr)
  · have e : asInts (l.map fun r => PyData.int (gn r : Nat)) = some (l.map fun r => (gn r : Int)) := by
      have := asInts_map (l.map fun r => (gn r : Int))
      rw [List.map_map] at this
      exact this
    show (asInts (l.map fun r => PyData.int (gn r : Nat))).map (fun ns => PyData.int ns.sum) = _
    rw [e]
    rfl
theorem maxI_spec : ∀ {ns : List Int}, ns ≠ [] → maxI ns ∈ ns ∧ ∀ x ∈ ns, x ≤ maxI ns
  | [], h => absurd rfl h
  | [x], _ => ⟨List.mem_singleton.mpr rfl, fun y hy => by rw [List.mem_singleton.mp hy]; exact Int.le_refl _⟩
  | x :: y :: r, _ => by
    have ih := maxI_spec (ns := y :: r) (by simp)
    have e : maxI (x :: y :: r) = max x (maxI (y :: r)) := rfl
    rw [e]
    refine ⟨?_, fun z hz => ?_⟩
    · by_cases h : x ≤ maxI (y :: r)
      · rw [Int.max_eq_right h]
        exact List.mem_cons_of_mem _ ih.1
      · rw [Int.max_eq_left (by omega)]
        exact List.mem_cons_self
    · rcases List.mem_cons.mp hz with rfl | hz
      · omega
      · have := ih.2 z hz
        omega
theorem max_best {l0 : List Nat} (hb : Best n ch gn l0) : fMax (sumsD n ch gn) = some (.int (gnOf gn l0)) := by
  have e : asInts ((good n ch).map fun l => PyData.int (gnOf gn l)) = some ((good n ch).map (gnOf gn)) := by
    have := asInts_map ((good n ch).map (gnOf gn))
    rw [List.map_map] at this
    exact this
  have hne : (good n ch).map (gnOf gn) ≠ [] := fun z => by
    rw [List.map_eq_nil_iff] at z
    have := hb.mem
    rw [z] at this
    cases this
  obtain ⟨m1, m2⟩ := maxI_spec hne
  obtain ⟨l, hl, el⟩ := List.mem_map.mp m1
  have a := hb.top l hl
  have b := m2 _ (List.mem_map.mpr ⟨l0, hb.mem, rfl⟩)
  show ((asInts ((good n ch).map fun l => PyData.int (gnOf gn l))).bind fun ns => if ns = [] then none else some (PyData.int (maxI ns))) = _
  rw [e, Option.bind_some, if_neg hne, show maxI ((good n ch).map (gnOf gn)) = gnOf gn l0 by omega]
theorem w4_eq {l0 : List Nat} (hb : Best n ch gn l0) {found paper : PyData} (e1 : F_best_party [chD n ch, chD n gn] = some found) (e2 : F_party_paper [chD n ch, chD n gn] = some paper) :
    w4 (LE n ch gn none x6 x7 x8 (some (sumsD n ch gn)) x10 x11 x12 x13 x14 x15 x16 x17 x18 x19 x20 x21 x22 [] true) = some (.nx (LE n ch gn none x6 x7 x8 (some (sumsD n ch gn)) (some (.int (gnOf gn l0))) (some found) (some paper) x13 x14 x15 x16 x17 x18 x19 x20 x21 x22 [] true)) := by
  exact sAsg3_of (dFun_of (F := fMax) (a := sumsD n ch gn) rfl (max_best hb)) ((call2 (F := F_best_party) (a := chD n ch) (b := chD n gn) rfl rfl).trans e1) ((call2 (F := F_party_paper) (a := chD n ch) (b := chD n gn) rfl rfl).trans e2) rfl rfl rfl
end
end CD
end
section
set_option maxHeartbeats 1000000
namespace CD
open PySem PySem.Spec PyProof.Rows L2 DL
/-! ### alike -/
theorem alike_int (a : Int) : F__law_alike [.int a, .int a] = some (.bool true) := by
  let E : En := ⟨[some (.int a), some (.int a), none], none, 0, [], true⟩
  refine runD_of (r := .rt E (.bool true)) rfl ?_ rfl
  have e := vAnd_of (f := dIsi "int" (dVar 0)) (ρ := E) (a := true) (show _ = _ from rfl) fun _ => vAnd_of (f := bin2 dEq (dIsi "bool" (dVar 0)) (dIsi "bool" (dVar 1))) (a := true) (show _ = _ from rfl) fun _ => bin2_of (f := dVar 0) (g := dVar 1) (a := .int a) (b := .int a) rfl rfl (dEq_int a a)
  rw [decide_eq_true rfl] at e
  exact sRet_of e
theorem alike_bool (a : Bool) : F__law_alike [.bool a, .bool a] = some (.bool true) := by cases a <;> rfl
section
variable {n : Nat} {ch rk gn : Nat → Nat} {x5 x6 x7 x8 x9 x10 x11 x12 x13 x14 x15 x16 x17 x18 x19 x20 x21 x22 : Option PyData} {ow : List (Nat × List PyData)} {bs : Bool}
theorem rF_nx {t : En → Option Bool} {ρ : En} (h : t ρ = some false) : sIf t rF sSkip ρ = some (.nx ρ) := sIf_nx h
/-! ### 5, 6 -/
theorem w5_eq (F : Fo n ch rk) (h1 : 1 ≤ n) (h6 : n ≤ 6) : w5t (LE n ch gn x5 x6 (some (lotsD (good n ch))) x8 x9 x10 x11 x12 x13 x14 x15 x16 x17 x18 x19 x20 x21 x22 ow bs) = some false := by
  have e1 : dFun fLen (dVar 7) (LE n ch gn x5 x6 (some (lotsD (good n ch))) x8 x9 x10 x11 x12 x13 x14 x15 x16 x17 x18 x19 x20 x21 x22 ow bs) = some (.int ((good n ch).length : Nat)) := by
    show some (PyData.int (((good n ch).map lotD).length : Nat)) = _
    rw [List.length_map]
  exact bNot_of (bOf_of ((call2 (F := F__law_alike) ((call1 (F := F_party_count) (f := dVar 3) (a := chD n ch) rfl).trans (F_party_count1 F h1 h6)) e1).trans (alike_int _)))
theorem w6_eq {l0 : List Nat} (hb : Best n ch gn l0) : w6t (LE n ch gn x5 x6 (some (lotsD (good n ch))) x8 (some (sumsD n ch gn)) (some (.int (gnOf gn l0))) (some (prD gn l0)) x12 x13 x14 x15 x16 x17 x18 x19 x20 x21 x22 ow bs) = some false := by
  have f0 : bin2 dIx (dVar 11) (dC (.int 0)) (LE n ch gn x5 x6 (some (lotsD (good n ch))) x8 (some (sumsD n ch gn)) (some (.int (gnOf gn l0))) (some (prD gn l0)) x12 x13 x14 x15 x16 x17 x18 x19 x20 x21 x22 ow bs) = some (.int (gnOf gn l0)) := rfl
  have f1 : bin2 dIx (dVar 11) (dC (.int 1)) (LE n ch gn x5 x6 (some (lotsD (good n ch))) x8 (some (sumsD n ch gn)) (some (.int (gnOf gn l0))) (some (prD gn l0)) x12 x13 x14 x15 x16 x17 x18 x19 x20 x21 x22 ow bs) = some (lotD l0) := rfl
  have hin : dNotIn (lotD l0) (lotsD (good n ch)) = some (.bool false) := by
    unfold dNotIn
    rw [lotD_tupI, dIn_lots, List.any_eq_true.mpr ⟨l0, hb.mem, decide_eq_true rfl⟩]
    rfl
  obtain ⟨i, i1, i2⟩ := dIdx_lots hb.mem
  have t := bOr_of (t := bNot (bOf (dIsi "tuple" (dVar 11)))) (ρ := LE n ch gn x5 x6 (some (lotsD (good n ch))) x8 (some (sumsD n ch gn)) (some (.int (gnOf gn l0))) (some (prD gn l0)) x12 x13 x14 x15 x16 x17 x18 x19 x20 x21 x22 ow bs) (a := false) (show _ = _ from rfl) fun _ =>
    bOr_of (bOf_of (bin2_of (dFun_of (F := fLen) (f := dVar 11) (a := prD gn l0) rfl (d := .int 2) rfl) (g := dC (.int 2)) rfl (dNe_int 2 2))) fun _ =>
    bOr_of (bOf_of (bin2_of f0 (g := dVar 10) rfl (dNe_int (gnOf gn l0) (gnOf gn l0)))) fun _ =>
    bOr_of (bOf_of (bin2_of f1 (g := dVar 7) rfl hin)) fun _ =>
    bOf_of (bin2_of (bin2_of (F := dIx) (f := dVar 9) (a := sumsD n ch gn) rfl (bin2_of (F := dIdx) (f := dVar 7) (a := lotsD (good n ch)) rfl f1 i1) (sums_at i2)) (g := dVar 10) rfl (dNe_int (gnOf gn l0) (gnOf gn l0)))
  rw [decide_eq_true rfl, decide_eq_true rfl] at t
  exact t
/-! ### 7, 8: the values near a best party -/
def valL (n : Nat) (gn : Nat → Nat) (l0 : List Nat) : List PyData := [prD gn l0, .list [.int (gnOf gn l0), lotD l0], .tuple [.int (gnOf gn l0), .list (l0.map pD)], .tuple [.int (gnOf gn l0 + 1), lotD l0], .tuple [.int (gnOf gn l0), .tuple (l0.map pD).reverse], .tuple [.int (gnOf gn l0), .tuple []], .none, .int 3, .tuple [.int (gnOf gn l0), .tuple [.int ((n : Int) + 1)]]]
theorem w7_eq {l0 : List Nat} : w7e (LE n ch gn x5 x6 x7 x8 x9 (some (.int (gnOf gn l0))) (some (prD gn l0)) x12 x13 x14 x15 x16 x17 x18 x19 x20 x21 x22 ow bs) = some (.list (valL n gn l0)) := rfl
theorem val_ok (F : Fo n ch rk) (h1 : 1 ≤ n) (h6 : n ≤ 6) (hg : ∀ r, r < n → gn r < 9) {l0 : List Nat} (hb : Best n ch gn l0) : ∀ d ∈ valL n gn l0, VOK n ch gn (gnOf gn l0) d := by
  have hs := lots_size (good_lots hb.mem)
  have hI : (lotI l0).length = l0.length := List.length_map ..
  intro d hd
  unfold valL at hd
  rcases List.mem_cons.mp hd with rfl | hd
  · unfold prD
    rw [lotD_tupI]
    exact vok_ints F h1 h6 hg hb (by omega)
  rcases List.mem_cons.mp hd with rfl | hd
  · exact vok_not F h1 h6 hg hb rfl
  rcases List.mem_cons.mp hd with rfl | hd
  · exact vok_untup F h1 h6 hg hb rfl
  rcases List.mem_cons.mp hd with rfl | hd
  · exact vok_other F h1 h6 hg hb (by omega)
  rcases List.mem_cons.mp hd with rfl | hd
  · have e : (PyData.tuple (l0.map pD).reverse) = tupI (lotI l0).reverse := by
      unfold tupI lotI
      rw [← List.map_reverse, ← List.map_reverse, List.map_map]
      rfl
    rw [e]
    exact vok_ints F h1 h6 hg hb (by rw [List.length_reverse]; omega)
  rcases List.mem_cons.mp hd with rfl | hd
  · exact vok_ints F h1 h6 hg hb (ns := []) (by simp)
  rcases List.mem_cons.mp hd with rfl | hd
  · exact vok_not F h1 h6 hg hb rfl
  rcases List.mem_cons.mp hd with rfl | hd
  · exact vok_not F h1 h6 hg hb rfl
  · rw [List.mem_singleton.mp hd]
    exact vok_ints F h1 h6 hg hb (ns := [(n : Int) + 1]) (by simp)
theorem sSeq_of {f : En → Option PyData} {ρ : En} {a : PyData} {ds : List PyData} (h : f ρ = some a) (h2 : items a = some ds) : sSeq f ρ = some ds := by
  unfold sSeq
  rw [h]
  exact h2
def prB (b : Int) (l : List Nat) : PyData := .tuple [.int b, lotD l]
theorem w8i_eq (h6 : n ≤ 6) {l0 : List Nat} : ∃ k, w8i (LE n ch gn none (some (lotsD (lots n))) x7 x8 x9 (some (.int (gnOf gn l0))) x11 x12 (some (.list (valL n gn l0))) x14 x15 x16 x17 x18 x19 x20 x21 x22 [] false) = some (valL n gn l0 ++ ((lots n).take k).map (prB (gnOf gn l0))) := by
  refine ⟨min 40 (lots n).length, ?_⟩
  have hL := lots_len6 h6
  have hk : ((lots n).take (min 40 (lots n).length)).length ≤ 64 := by
    rw [List.length_take]
    omega
  have e2 : dSl (dVar 6) oNo (oSo (dC (.int 40))) (LE n ch gn none (some (lotsD (lots n))) x7 x8 x9 (some (.int (gnOf gn l0))) x11 x12 (some (.list (valL n gn l0))) x14 x15 x16 x17 x18 x19 x20 x21 x22 [] false) = some (lotsD ((lots n).take (min 40 (lots n).length))) := by
    show some (PyData.list (cutP ((lots n).map lotD) none (some ((40 : Nat) : Int)))) = _
    unfold cutP lotsD
    rw [HT.sIx_none, HT.sIx_nat, List.drop_zero, Nat.sub_zero, List.length_map, List.map_take]
  have e3 : dComp [8] (sSeq (dSl (dVar 6) oNo (oSo (dC (.int 40))))) (.one 8) bYes (dTup (sCons (dVar 10) (sCons (dVar 8) sNil))) (LE n ch gn none (some (lotsD (lots n))) x7 x8 x9 (some (.int (gnOf gn l0))) x11 x12 (some (.list (valL n gn l0))) x14 x15 x16 x17 x18 x19 x20 x21 x22 [] false) = some (.list (((lots n).take (min 40 (lots n).length)).map (prB (gnOf gn l0)))) := by
    refine dComp_map (xs := (lots n).take (min 40 (lots n).length)) lotD (prB (gnOf gn l0)) ?_ (by show _ ≤ 1000; omega) fun l hl => ⟨LE n ch gn none (some (lotsD (lots n))) x7 (some (lotD l)) x9 (some (.int (gnOf gn l0))) x11 x12 (some (.list (valL n gn l0))) x14 x15 x16 x17 x18 x19 x20 x21 x22 [] false, rfl, rfl, rfl⟩
    unfold sSeq
    rw [e2]
    rfl
  refine sSeq_of (bin2_of (F := dAdd) (f := dVar 13) (a := .list (valL n gn l0)) rfl e3 (d := .list (valL n gn l0 ++ ((lots n).take (min 40 (lots n).length)).map (prB (gnOf gn l0)))) ?_) rfl
  show (if (valL n gn l0).length + (((lots n).take (min 40 (lots n).length)).map (prB (gnOf gn l0))).length ≤ LIM then _ else none) = _
  rw [if_pos]
  rw [List.length_map]
  show 9 + _ ≤ 1000
  omega
theorem w8_eq (F : Fo n ch rk) (h1 : 1 ≤ n) (h6 : n ≤ 6) (hg : ∀ r, r < n → gn r < 9) {l0 : List Nat} (hb : Best n ch gn l0) :
    ∃ x14' x15', w8 (LE n ch gn none (some (lotsD (lots n))) (some (lotsD (good n ch))) x8 (some (sumsD n ch gn)) (some (.int (gnOf gn l0))) x11 x12 (some (.list (valL n gn l0))) x14 x15 x16 x17 x18 x19 x20 x21 x22 [] true) =
      some (.nx (LE n ch gn none (some (lotsD (lots n))) (some (lotsD (good n ch))) x8 (some (sumsD n ch gn)) (some (.int (gnOf gn l0))) x11 x12 (some (.list (valL n gn l0))) x14' x15' x16 x17 x18 x19 x20 x21 x22 [] true)) := by
  obtain ⟨k, hi⟩ := w8i_eq (n := n) (ch := ch) (gn := gn) (x7 := some (lotsD (good n ch))) (x8 := x8) (x9 := some (sumsD n ch gn)) (x11 := x11) (x12 := x12) (x14 := x14) (x15 := x15) (x16 := x16) (x17 := x17) (x18 := x18) (x19 := x19) (x20 := x20) (x21 := x21) (x22 := x22) (l0 := l0) h6
  have ok : ∀ d ∈ valL n gn l0 ++ ((lots n).take k).map (prB (gnOf gn l0)), VOK n ch gn (gnOf gn l0) d := fun d hd => by
    rcases List.mem_append.mp hd with hd | hd
    · exact val_ok F h1 h6 hg hb d hd
    · obtain ⟨l, hl, rfl⟩ := List.mem_map.mp hd
      have hl := List.mem_of_mem_take hl
      have hs := lots_size hl
      unfold prB
      rw [lotD_tupI]
      exact vok_ints F h1 h6 hg hb (by show (l.map _).length ≤ 900; rw [List.length_map]; omega)
  obtain ⟨ρ', h1', h2⟩ := forL_inv (tg := .one 14) (body := w8b) (fun k ρ => ∃ x14 x15, ρ = LE n ch gn none (some (lotsD (lots n))) (some (lotsD (good n ch))) x8 (some (sumsD n ch gn)) (some (.int (gnOf gn l0))) x11 x12 (some (.list (valL n gn l0))) x14 x15 x16 x17 x18 x19 x20 x21 x22 [] false)
    (ds := valL n gn l0 ++ ((lots n).take k).map (prB (gnOf gn l0))) (k := 0) (ρ := LE n ch gn none (some (lotsD (lots n))) (some (lotsD (good n ch))) x8 (some (sumsD n ch gn)) (some (.int (gnOf gn l0))) x11 x12 (some (.list (valL n gn l0))) x14 x15 x16 x17 x18 x19 x20 x21 x22 [] false) ⟨_, _, rfl⟩ (fun i d ρ hd hI => by
      obtain ⟨x14, x15, rfl⟩ := hI
      obtain ⟨b1, b, d1, d2, sh⟩ := (ok d (List.mem_of_getElem? hd)).ex
      refine ⟨LE n ch gn none (some (lotsD (lots n))) (some (lotsD (good n ch))) x8 (some (sumsD n ch gn)) (some (.int (gnOf gn l0))) x11 x12 (some (.list (valL n gn l0))) (some d) x15 x16 x17 x18 x19 x20 x21 x22 [] false, LE n ch gn none (some (lotsD (lots n))) (some (lotsD (good n ch))) x8 (some (sumsD n ch gn)) (some (.int (gnOf gn l0))) x11 x12 (some (.list (valL n gn l0))) (some d) (some (.bool b)) x16 x17 x18 x19 x20 x21 x22 [] false, rfl, ?_, _, _, rfl⟩
      unfold w8b
      rw [sThen_nx (sSet_of (ρ' := LE n ch gn none (some (lotsD (lots n))) (some (lotsD (good n ch))) x8 (some (sumsD n ch gn)) (some (.int (gnOf gn l0))) x11 x12 (some (.list (valL n gn l0))) (some d) (some (.bool b1)) x16 x17 x18 x19 x20 x21 x22 [] false) (d1 _ rfl rfl) rfl), sThen_nx (sSet_of (ρ := LE n ch gn none (some (lotsD (lots n))) (some (lotsD (good n ch))) x8 (some (sumsD n ch gn)) (some (.int (gnOf gn l0))) x11 x12 (some (.list (valL n gn l0))) (some d) (some (.bool b1)) x16 x17 x18 x19 x20 x21 x22 [] false) (d2 _ rfl rfl rfl rfl rfl) rfl)]
      exact sIf_nx (bNot_of (bOf_of ((call2 (F := F__law_alike) ((call3 (F := F_shows_best_party) (f := dVar 3) (g := dVar 4) (h := dVar 14) rfl rfl rfl).trans sh) (g := dVar 15) (b := .bool b) rfl).trans (alike_bool b)))))
  obtain ⟨x14', x15', rfl⟩ := h2
  refine ⟨x14', x15', ?_⟩
  unfold w8
  rw [sFor_nx rfl hi h1' rfl]
  rfl
end
end CD
end
section
set_option maxHeartbeats 1000000
namespace CD
open PySem PySem.Spec PyProof.Rows L2 DL
section
variable {n : Nat} {ch rk gn : Nat → Nat} {x5 x6 x7 x8 x9 x10 x11 x12 x13 x14 x15 x16 x17 x18 x19 x20 x21 x22 : Option PyData} {ow : List (Nat × List PyData)} {bs : Bool}
/-! ### 9, 10: the paper -/
theorem w9_eq {best : Int} {paper : PyData} (h : F__law_is_paper [chD n ch, chD n gn, .int best, paper] = some (.bool true)) : w9t (LE n ch gn x5 x6 x7 x8 x9 (some (.int best)) x11 (some paper) x13 x14 x15 x16 x17 x18 x19 x20 x21 x22 ow bs) = some false :=
  bNot_of (bOf_of ((call4 (F := F__law_is_paper) (f := dVar 3) (g := dVar 4) (h := dVar 10) (k := dVar 12) rfl rfl rfl rfl).trans h))
def pap7 (a b : PyData) (la : List PyData) : List PyData := [pairD a b, .list [a, b], pairD b a, .tuple [a], pairD (.list la) b, .none, .int 3]
theorem w10_eq {b : PyData} {la : List PyData} : w10 (LE n ch gn x5 x6 x7 x8 x9 x10 x11 (some (pairD (.tuple la) b)) x13 x14 x15 none x17 x18 x19 x20 x21 x22 [] true) = some (.nx (LE n ch gn x5 x6 x7 x8 x9 x10 x11 (some (pairD (.tuple la) b)) x13 x14 x15 none x17 x18 x19 x20 x21 x22 [(16, pap7 (.tuple la) b la)] true)) := rfl
theorem pap7_ok (F : Fo n ch rk) (h1 : 1 ≤ n) (h6 : n ≤ 6) (hg : ∀ r, r < n → gn r < 9) {l0 : List Nat} (hb : Best n ch gn l0) {p q : Nat → Int} : ∀ d ∈ pap7 (numsD (tm n ch) p) (numsD n q) ((List.range (tm n ch)).map fun l => hf (p l)), PV n ch gn (gnOf gn l0) d := by
  have hm : tm n ch ≤ n := tm_le
  have m1 : tm n ch ≤ LIM := by show _ ≤ 1000; omega
  have m2 : n ≤ LIM := by show _ ≤ 1000; omega
  intro d hd
  unfold pap7 at hd
  rcases List.mem_cons.mp hd with rfl | hd
  · exact pv_nums F h1 h6 hg hb m1 m2
  rcases List.mem_cons.mp hd with rfl | hd
  · exact pv_not F h1 h6 hg rfl
  rcases List.mem_cons.mp hd with rfl | hd
  · exact pv_nums F h1 h6 hg hb m2 m1
  rcases List.mem_cons.mp hd with rfl | hd
  · exact pv_len F h1 h6 hg (by show 1 ≠ 2; decide)
  rcases List.mem_cons.mp hd with rfl | hd
  · exact pv_untup F h1 h6 hg rfl m2
  rcases List.mem_cons.mp hd with rfl | hd
  · exact pv_not F h1 h6 hg rfl
  · rw [List.mem_singleton.mp hd]
    exact pv_not F h1 h6 hg rfl
/-! ### 11: papers near -/
def bump (f : Nat → Int) (k : Nat) (e : Int) (l : Nat) : Int := if l = k then f k + e else f l
theorem cut_drop {xs : List PyData} {m : Nat} (h : m ≤ xs.length) : cutP xs (some (m : Nat)) none = xs.drop m := by
  unfold cutP
  rw [HT.sIx_none, HT.sIx_nat, Nat.min_eq_left h, List.take_of_length_le (by rw [List.length_drop]; omega)]
theorem bump_list {m k : Nat} (f : Nat → Int) (e : Int) (hk : k < m) : ((List.range m).map fun l => hf (f l)).take k ++ [hf (f k + e)] ++ ((List.range m).map fun l => hf (f l)).drop (k + 1) = (List.range m).map fun l => hf (bump f k e l) := by
  apply List.ext_getElem
  · simp
    omega
  · intro i h1 h2
    rw [List.getElem_map, List.getElem_range]
    unfold bump
    by_cases e1 : i < k
    · rw [if_neg (by omega), List.getElem_append_left (by simp; omega), List.getElem_append_left (by simp; omega), List.getElem_take, List.getElem_map, List.getElem_range]
    · by_cases e2 : i = k
      · subst e2
        rw [if_pos rfl, List.getElem_append_left (by simp; omega), List.getElem_append_right (by simp; omega)]
        simp
      · rw [if_neg e2, List.getElem_append_right (by simp; omega), List.getElem_drop, List.getElem_map, List.getElem_range]
        congr 2
        simp
        omega
theorem w11e_eq {m k : Nat} {f : Nat → Int} {e : Int} {ρ : En} (hm : m ≤ 900) (hk : k < m) (hp : bin2 dIx (dVar 12) (dVar 17) ρ = some (numsD m f)) (h5 : dVar 5 ρ = some (.int (k : Nat))) (h18 : dVar 18 ρ = some (hf e)) : w11e ρ = some (numsD m (bump f k e)) := by
  have hl : ((List.range m).map fun l => hf (f l)).length = m := by simp
  have s1 : dSl (bin2 dIx (dVar 12) (dVar 17)) oNo (oSo (dVar 5)) ρ = some (.tuple (((List.range m).map fun l => hf (f l)).take k)) := by
    unfold dSl oSo oNo
    rw [hp, h5]
    show some (PyData.tuple (cutP ((List.range m).map fun l => hf (f l)) none (some (k : Nat)))) = _
    rw [cut_take (by omega)]
  have a1 : bin2 dAdd (dVar 5) (dC (.int 1)) ρ = some (.int ((k + 1 : Nat) : Int)) := bin2_of h5 (g := dC (.int 1)) rfl rfl
  have s2 : dSl (bin2 dIx (dVar 12) (dVar 17)) (oSo (bin2 dAdd (dVar 5) (dC (.int 1)))) oNo ρ = some (.tuple (((List.range m).map fun l => hf (f l)).drop (k + 1))) := by
    unfold dSl oSo oNo
    rw [hp, a1]
    show some (PyData.tuple (cutP ((List.range m).map fun l => hf (f l)) (some ((k + 1 : Nat) : Int)) none)) = _
    rw [cut_drop (by omega)]
  have t : dTup (sCons (dCall F__law_plus (sCons (bin2 dIx (bin2 dIx (dVar 12) (dVar 17)) (dVar 5)) (sCons (dVar 18) sNil))) sNil) ρ = some (.tuple [hf (f k + e)]) := by
    have c := (call2 (F := F__law_plus) (bin2_of (F := dIx) hp h5 (numsD_at hk)) h18).trans (F__law_plus_hf _ _)
    have : ∀ {f : En → Option PyData} {a : PyData}, f ρ = some a → dTup (sCons f sNil) ρ = some (.tuple [a]) := fun h => by
      unfold dTup sCons sNil
      rw [h]
      rfl
    exact this c
  refine (bin2_of (F := dAdd) (bin2_of (F := dAdd) s1 t (d := .tuple (((List.range m).map fun l => hf (f l)).take k ++ [hf (f k + e)])) ?_) s2 ?_)
  · show (if (((List.range m).map fun l => hf (f l)).take k).length + 1 ≤ LIM then _ else none) = _
    rw [if_pos]
    rw [List.length_take]
    show _ ≤ 1000
    omega
  · show (if (((List.range m).map fun l => hf (f l)).take k ++ [hf (f k + e)]).length + (((List.range m).map fun l => hf (f l)).drop (k + 1)).length ≤ LIM then some (PyData.tuple (((List.range m).map fun l => hf (f l)).take k ++ [hf (f k + e)] ++ ((List.range m).map fun l => hf (f l)).drop (k + 1))) else none) = _
    rw [if_pos, bump_list f e hk]
    · rfl
    · rw [List.length_append, List.length_take, List.length_drop, List.length_singleton]
      show _ ≤ 1000
      omega
/-- the slots that the loop over the papers near leaves -/
def PE (n : Nat) (ch gn : Nat → Nat) (x6 x7 x8 x9 x10 x11 : Option PyData) (p q : Nat → Int) (x13 x14 x15 x20 x21 x22 x5 x17 x18 x19 : Option PyData) (ds : List PyData) (bs : Bool) : En := LE n ch gn x5 x6 x7 x8 x9 x10 x11 (some (pairD (numsD (tm n ch) p) (numsD n q))) x13 x14 x15 none x17 x18 x19 x20 x21 x22 [(16, ds)] bs
variable {p q : Nat → Int}
theorem app16 {ρ : En} {ds : List PyData} {d : PyData} (x5 x17 x18 x19 : Option PyData) (hl : ds.length < 900) (h : w11p (PE n ch gn x6 x7 x8 x9 x10 x11 p q x13 x14 x15 x20 x21 x22 x5 x17 x18 x19 ds bs) = some d) : sApp 16 w11p (PE n ch gn x6 x7 x8 x9 x10 x11 p q x13 x14 x15 x20 x21 x22 x5 x17 x18 x19 ds bs) = some (.nx (PE n ch gn x6 x7 x8 x9 x10 x11 p q x13 x14 x15 x20 x21 x22 x5 x17 x18 x19 (ds ++ [d]) bs)) := by
  unfold sApp
  rw [h, Option.bind_some]
  show ((some ds).bind fun ds => (appL d ds).map fun es => _).map _ = _
  unfold appL
  rw [Option.bind_some, if_pos (show _ < 1000 by omega)]
  rfl
theorem w11c_eq (F : Fo n ch rk) (h1 : 1 ≤ n) (h6 : n ≤ 6) (hg : ∀ r, r < n → gn r < 9) {l0 : List Nat} (hb : Best n ch gn l0) {part k : Nat} (hk : (part = 0 ∧ k < tm n ch) ∨ (part = 1 ∧ k < n)) {e : Int} {ds : List PyData} (hl : ds.length < 900) :
    ∃ (x19' : Option PyData) (d : PyData), w11c (PE n ch gn x6 x7 x8 x9 x10 x11 p q x13 x14 x15 x20 x21 x22 (some (.int (k : Nat))) (some (.int (part : Nat))) (some (hf e)) x19 ds bs) = some (.nx (PE n ch gn x6 x7 x8 x9 x10 x11 p q x13 x14 x15 x20 x21 x22 (some (.int (k : Nat))) (some (.int (part : Nat))) (some (hf e)) x19' (ds ++ [d]) bs)) ∧ PV n ch gn (gnOf gn l0) d := by
  have hm : tm n ch ≤ n := tm_le
  have m1 : tm n ch ≤ LIM := by show _ ≤ 1000; omega
  have m2 : n ≤ LIM := by show _ ≤ 1000; omega
  rcases hk with ⟨rfl, hk⟩ | ⟨rfl, hk⟩
  · refine ⟨some (numsD (tm n ch) (bump p k e)), pairD (numsD (tm n ch) (bump p k e)) (numsD n q), ?_, pv_nums F h1 h6 hg hb m1 m2⟩
    have e1 := w11e_eq (m := tm n ch) (k := k) (f := p) (e := e) (ρ := PE n ch gn x6 x7 x8 x9 x10 x11 p q x13 x14 x15 x20 x21 x22 (some (.int (k : Nat))) (some (.int (0 : Nat))) (some (hf e)) x19 ds bs) (by omega) hk rfl rfl rfl
    unfold w11c
    rw [sThen_nx (sSet_of (ρ' := PE n ch gn x6 x7 x8 x9 x10 x11 p q x13 x14 x15 x20 x21 x22 (some (.int (k : Nat))) (some (.int (0 : Nat))) (some (hf e)) (some (numsD (tm n ch) (bump p k e))) ds bs) e1 rfl)]
    refine app16 (ρ := PE n ch gn x6 x7 x8 x9 x10 x11 p q x13 x14 x15 x20 x21 x22 none none none none ds bs) _ _ _ _ hl ?_
    have e3 := bOf_of (bin2_of (F := dEq) (f := dVar 17) (g := dC (.int 0)) (ρ := PE n ch gn x6 x7 x8 x9 x10 x11 p q x13 x14 x15 x20 x21 x22 (some (.int (k : Nat))) (some (.int (0 : Nat))) (some (hf e)) (some (numsD (tm n ch) (bump p k e))) ds bs) (a := .int ((0 : Nat) : Int)) rfl rfl (dEq_int _ _))
    unfold w11p dIf
    rw [e3]
    rfl
  · refine ⟨some (numsD n (bump q k e)), pairD (numsD (tm n ch) p) (numsD n (bump q k e)), ?_, pv_nums F h1 h6 hg hb m1 m2⟩
    have e1 := w11e_eq (m := n) (k := k) (f := q) (e := e) (ρ := PE n ch gn x6 x7 x8 x9 x10 x11 p q x13 x14 x15 x20 x21 x22 (some (.int (k : Nat))) (some (.int (1 : Nat))) (some (hf e)) x19 ds bs) (by omega) hk rfl rfl rfl
    unfold w11c
    rw [sThen_nx (sSet_of (ρ' := PE n ch gn x6 x7 x8 x9 x10 x11 p q x13 x14 x15 x20 x21 x22 (some (.int (k : Nat))) (some (.int (1 : Nat))) (some (hf e)) (some (numsD n (bump q k e))) ds bs) e1 rfl)]
    refine app16 (ρ := PE n ch gn x6 x7 x8 x9 x10 x11 p q x13 x14 x15 x20 x21 x22 none none none none ds bs) _ _ _ _ hl ?_
    have e3 := bOf_of (bin2_of (F := dEq) (f := dVar 17) (g := dC (.int 0)) (ρ := PE n ch gn x6 x7 x8 x9 x10 x11 p q x13 x14 x15 x20 x21 x22 (some (.int (k : Nat))) (some (.int (1 : Nat))) (some (hf e)) (some (numsD n (bump q k e))) ds bs) (a := .int ((1 : Nat) : Int)) rfl rfl (dEq_int _ _))
    unfold w11p dIf
    rw [e3]
    rfl
theorem w11b_eq (F : Fo n ch rk) (h1 : 1 ≤ n) (h6 : n ≤ 6) (hg : ∀ r, r < n → gn r < 9) {l0 : List Nat} (hb : Best n ch gn l0) {part k : Nat} (hk : (part = 0 ∧ k < tm n ch) ∨ (part = 1 ∧ k < n)) {ds : List PyData} (hl : ds.length < 800) (hd : ∀ d ∈ ds, PV n ch gn (gnOf gn l0) d) :
    ∃ (x18' x19' : Option PyData) (ds' : List PyData), w11b (PE n ch gn x6 x7 x8 x9 x10 x11 p q x13 x14 x15 x20 x21 x22 (some (.int (k : Nat))) (some (.int (part : Nat))) x18 x19 ds false) = some (.nx (PE n ch gn x6 x7 x8 x9 x10 x11 p q x13 x14 x15 x20 x21 x22 (some (.int (k : Nat))) (some (.int (part : Nat))) x18' x19' ds' false)) ∧ ds'.length = ds.length + 2 ∧ ∀ d ∈ ds', PV n ch gn (gnOf gn l0) d := by
  obtain ⟨y1, d1, c1, v1⟩ := w11c_eq (x6 := x6) (x7 := x7) (x8 := x8) (x9 := x9) (x10 := x10) (x11 := x11) (x13 := x13) (x14 := x14) (x15 := x15) (x20 := x20) (x21 := x21) (x22 := x22) (x19 := x19) (bs := false) (p := p) (q := q) F h1 h6 hg hb hk (e := 1) (ds := ds) (by omega)
  obtain ⟨y2, d2, c2, v2⟩ := w11c_eq (x6 := x6) (x7 := x7) (x8 := x8) (x9 := x9) (x10 := x10) (x11 := x11) (x13 := x13) (x14 := x14) (x15 := x15) (x20 := x20) (x21 := x21) (x22 := x22) (x19 := y1) (bs := false) (p := p) (q := q) F h1 h6 hg hb hk (e := -1) (ds := ds ++ [d1]) (by rw [List.length_append, List.length_singleton]; omega)
  refine ⟨some (hf (-1)), y2, ds ++ [d1] ++ [d2], ?_, by simp, fun d hd' => ?_⟩
  · have hi : w11s (PE n ch gn x6 x7 x8 x9 x10 x11 p q x13 x14 x15 x20 x21 x22 (some (.int (k : Nat))) (some (.int (part : Nat))) x18 x19 ds false) = some [hf 1, hf (-1)] := rfl
    refine sForM_nx hi (ρx := PE n ch gn x6 x7 x8 x9 x10 x11 p q x13 x14 x15 x20 x21 x22 (some (.int (k : Nat))) (some (.int (part : Nat))) (some (hf (-1))) y2 (ds ++ [d1] ++ [d2]) false) ?_ rfl
    have f1 : forL (.one 18) w11c [hf 1, hf (-1)] (PE n ch gn x6 x7 x8 x9 x10 x11 p q x13 x14 x15 x20 x21 x22 (some (.int (k : Nat))) (some (.int (part : Nat))) x18 x19 ds false) = (w11c (PE n ch gn x6 x7 x8 x9 x10 x11 p q x13 x14 x15 x20 x21 x22 (some (.int (k : Nat))) (some (.int (part : Nat))) (some (hf 1)) x19 ds false)).bind fun r => thenE r (forL (.one 18) w11c [hf (-1)]) := rfl
    have f2 : forL (.one 18) w11c [hf (-1)] (PE n ch gn x6 x7 x8 x9 x10 x11 p q x13 x14 x15 x20 x21 x22 (some (.int (k : Nat))) (some (.int (part : Nat))) (some (hf 1)) y1 (ds ++ [d1]) false) = (w11c (PE n ch gn x6 x7 x8 x9 x10 x11 p q x13 x14 x15 x20 x21 x22 (some (.int (k : Nat))) (some (.int (part : Nat))) (some (hf (-1))) y1 (ds ++ [d1]) false)).bind fun r => thenE r (forL (.one 18) w11c []) := rfl
    show forL (.one 18) w11c [hf 1, hf (-1)] (PE n ch gn x6 x7 x8 x9 x10 x11 p q x13 x14 x15 x20 x21 x22 (some (.int (k : Nat))) (some (.int (part : Nat))) x18 x19 ds false) = _
    rw [f1, c1, Option.bind_some]
    show forL (.one 18) w11c [hf (-1)] (PE n ch gn x6 x7 x8 x9 x10 x11 p q x13 x14 x15 x20 x21 x22 (some (.int (k : Nat))) (some (.int (part : Nat))) (some (hf 1)) y1 (ds ++ [d1]) false) = _
    rw [f2, c2]
    rfl
  · rcases List.mem_append.mp hd' with hd' | hd'
    · rcases List.mem_append.mp hd' with hd' | hd'
      · exact hd d hd'
      · rw [List.mem_singleton.mp hd']
        exact v1
    · rw [List.mem_singleton.mp hd']
      exact v2
theorem w11a_eq (F : Fo n ch rk) (h1 : 1 ≤ n) (h6 : n ≤ 6) (hg : ∀ r, r < n → gn r < 9) {l0 : List Nat} (hb : Best n ch gn l0) {part m : Nat} (hpart : (part = 0 ∧ m = tm n ch) ∨ (part = 1 ∧ m = n)) {ds : List PyData} (hl : ds.length < 100) (hd : ∀ d ∈ ds, PV n ch gn (gnOf gn l0) d) :
    ∃ (x5' x18' x19' : Option PyData) (ds' : List PyData), w11a (PE n ch gn x6 x7 x8 x9 x10 x11 p q x13 x14 x15 x20 x21 x22 x5 (some (.int (part : Nat))) x18 x19 ds false) = some (.nx (PE n ch gn x6 x7 x8 x9 x10 x11 p q x13 x14 x15 x20 x21 x22 x5' (some (.int (part : Nat))) x18' x19' ds' false)) ∧ ds'.length ≤ ds.length + 12 ∧ ∀ d ∈ ds', PV n ch gn (gnOf gn l0) d := by
  have hm : tm n ch ≤ n := tm_le
  have hm6 : m ≤ 6 := by omega
  have hi : sRng1 (dFun fLen (bin2 dIx (dVar 12) (dVar 17))) (PE n ch gn x6 x7 x8 x9 x10 x11 p q x13 x14 x15 x20 x21 x22 x5 (some (.int (part : Nat))) x18 x19 ds false) = some ((List.range m).map fun k => PyData.int ((0 : Int) + (k : Nat))) := by
    refine rng1 ?_ (by omega)
    rcases hpart with ⟨rfl, rfl⟩ | ⟨rfl, rfl⟩
    · show some (PyData.int (((List.range (tm n ch)).map fun l => hf (p l)).length : Nat)) = _
      rw [List.length_map, List.length_range]
    · show some (PyData.int (((List.range m).map fun l => hf (q l)).length : Nat)) = _
      rw [List.length_map, List.length_range]
  obtain ⟨ρ', f1, x5', x18', x19', ds', rfl, hl', hd'⟩ := forL_inv (tg := .one 5) (body := w11b) (fun i ρ => ∃ x5' x18' x19' ds', ρ = PE n ch gn x6 x7 x8 x9 x10 x11 p q x13 x14 x15 x20 x21 x22 x5' (some (.int (part : Nat))) x18' x19' ds' false ∧ ds'.length = ds.length + 2 * i ∧ ∀ d ∈ ds', PV n ch gn (gnOf gn l0) d)
    (ds := (List.range m).map fun k => PyData.int ((0 : Int) + (k : Nat))) (k := 0) (ρ := PE n ch gn x6 x7 x8 x9 x10 x11 p q x13 x14 x15 x20 x21 x22 x5 (some (.int (part : Nat))) x18 x19 ds false) ⟨_, _, _, _, rfl, rfl, hd⟩ (fun i d ρ hdi hI => by
      obtain ⟨y5, y18, y19, es, rfl, hl2, hd2⟩ := hI
      have him : i < m := by
        have := (List.getElem?_eq_some_iff.mp hdi).1
        rwa [List.length_map, List.length_range] at this
      rw [List.getElem?_map, List.getElem?_range him] at hdi
      have hdi : PyData.int ((0 : Int) + (i : Nat)) = d := Option.some.inj hdi
      rw [Int.zero_add] at hdi
      subst hdi
      rw [Nat.zero_add] at hl2 ⊢
      have hk : (part = 0 ∧ i < tm n ch) ∨ (part = 1 ∧ i < n) := by omega
      obtain ⟨y18', y19', es', e1, e2, e3⟩ := w11b_eq (x6 := x6) (x7 := x7) (x8 := x8) (x9 := x9) (x10 := x10) (x11 := x11) (x13 := x13) (x14 := x14) (x15 := x15) (x20 := x20) (x21 := x21) (x22 := x22) (x18 := y18) (x19 := y19) (p := p) (q := q) F h1 h6 hg hb hk (ds := es) (by omega) hd2
      exact ⟨_, _, rfl, e1, _, _, _, _, rfl, by omega, e3⟩)
  rw [Nat.zero_add, List.length_map, List.length_range] at hl'
  exact ⟨x5', x18', x19', ds', sForM_nx hi f1 rfl, by omega, hd'⟩
theorem w11_eq (F : Fo n ch rk) (h1 : 1 ≤ n) (h6 : n ≤ 6) (hg : ∀ r, r < n → gn r < 9) {l0 : List Nat} (hb : Best n ch gn l0) {ds : List PyData} (hl : ds.length ≤ 7) (hd : ∀ d ∈ ds, PV n ch gn (gnOf gn l0) d) :
    ∃ (x5' x17' x18' x19' : Option PyData) (ds' : List PyData), w11 (PE n ch gn x6 x7 x8 x9 x10 x11 p q x13 x14 x15 x20 x21 x22 x5 x17 x18 x19 ds true) = some (.nx (PE n ch gn x6 x7 x8 x9 x10 x11 p q x13 x14 x15 x20 x21 x22 x5' x17' x18' x19' ds' true)) ∧ ∀ d ∈ ds', PV n ch gn (gnOf gn l0) d := by
  obtain ⟨a5, a18, a19, es, c1, l1, v1⟩ := w11a_eq (x6 := x6) (x7 := x7) (x8 := x8) (x9 := x9) (x10 := x10) (x11 := x11) (x13 := x13) (x14 := x14) (x15 := x15) (x20 := x20) (x21 := x21) (x22 := x22) (x5 := x5) (x18 := x18) (x19 := x19) (p := p) (q := q) F h1 h6 hg hb (part := 0) (.inl ⟨rfl, rfl⟩) (ds := ds) (by omega) hd
  obtain ⟨b5, b18, b19, fs, c2, l2, v2⟩ := w11a_eq (x6 := x6) (x7 := x7) (x8 := x8) (x9 := x9) (x10 := x10) (x11 := x11) (x13 := x13) (x14 := x14) (x15 := x15) (x20 := x20) (x21 := x21) (x22 := x22) (x5 := a5) (x18 := a18) (x19 := a19) (p := p) (q := q) F h1 h6 hg hb (part := 1) (.inr ⟨rfl, rfl⟩) (ds := es) (by omega) v1
  refine ⟨b5, some (.int (1 : Nat)), b18, b19, fs, ?_, v2⟩
  have hi : sRng1 (dC (.int 2)) (PE n ch gn x6 x7 x8 x9 x10 x11 p q x13 x14 x15 x20 x21 x22 x5 x17 x18 x19 ds true) = some [.int (0 : Nat), .int (1 : Nat)] := rfl
  refine sForM_nx hi (ρx := PE n ch gn x6 x7 x8 x9 x10 x11 p q x13 x14 x15 x20 x21 x22 b5 (some (.int (1 : Nat))) b18 b19 fs false) ?_ rfl
  have f1 : forL (.one 17) w11a [.int (0 : Nat), .int (1 : Nat)] (PE n ch gn x6 x7 x8 x9 x10 x11 p q x13 x14 x15 x20 x21 x22 x5 x17 x18 x19 ds false) = (w11a (PE n ch gn x6 x7 x8 x9 x10 x11 p q x13 x14 x15 x20 x21 x22 x5 (some (.int (0 : Nat))) x18 x19 ds false)).bind fun r => thenE r (forL (.one 17) w11a [.int (1 : Nat)]) := rfl
  have f2 : forL (.one 17) w11a [.int (1 : Nat)] (PE n ch gn x6 x7 x8 x9 x10 x11 p q x13 x14 x15 x20 x21 x22 a5 (some (.int (0 : Nat))) a18 a19 es false) = (w11a (PE n ch gn x6 x7 x8 x9 x10 x11 p q x13 x14 x15 x20 x21 x22 a5 (some (.int (1 : Nat))) a18 a19 es false)).bind fun r => thenE r (forL (.one 17) w11a []) := rfl
  show forL (.one 17) w11a [.int (0 : Nat), .int (1 : Nat)] (PE n ch gn x6 x7 x8 x9 x10 x11 p q x13 x14 x15 x20 x21 x22 x5 x17 x18 x19 ds false) = _
  rw [f1, c1, Option.bind_some]
  show forL (.one 17) w11a [.int (1 : Nat)] (PE n ch gn x6 x7 x8 x9 x10 x11 p q x13 x14 x15 x20 x21 x22 a5 (some (.int (0 : Nat))) a18 a19 es false) = _
  rw [f2, c2]
  rfl
end
end CD
end
section
set_option maxHeartbeats 1000000
namespace CD
open PySem PySem.Spec PyProof.Rows L2 DL
section
variable {n : Nat} {ch rk gn : Nat → Nat} {x5 x6 x7 x8 x9 x10 x11 x12 x13 x14 x15 x16 x17 x18 x19 x20 x21 x22 : Option PyData} {ow : List (Nat × List PyData)} {bs : Bool}
/-! ### 12: both say the same of each -/
theorem w12_eq {best : Int} {ds : List PyData} (hd : ∀ d ∈ ds, PV n ch gn best d) :
    ∃ x14', sRel 16 w12f (LE n ch gn x5 x6 x7 x8 x9 (some (.int best)) x11 x12 x13 x14 x15 none x17 x18 x19 x20 x21 x22 [(16, ds)] true) = some (.nx (LE n ch gn x5 x6 x7 x8 x9 (some (.int best)) x11 x12 x13 x14' x15 (some (.list ds)) x17 x18 x19 x20 x21 x22 [] true)) := by
  obtain ⟨ρ', f1, x14', rfl⟩ := forL_inv (tg := .one 14) (body := sIf w12t (sRet (dC (.bool false))) sSkip) (fun _ ρ => ∃ x14, ρ = LE n ch gn x5 x6 x7 x8 x9 (some (.int best)) x11 x12 x13 x14 x15 (some (.list ds)) x17 x18 x19 x20 x21 x22 [] false) (ds := ds) (k := 0) (ρ := LE n ch gn x5 x6 x7 x8 x9 (some (.int best)) x11 x12 x13 x14 x15 (some (.list ds)) x17 x18 x19 x20 x21 x22 [] false) ⟨_, rfl⟩ (fun i d ρ hdi hI => by
    obtain ⟨y, rfl⟩ := hI
    obtain ⟨b, s1, s2⟩ := hd d (List.mem_of_getElem? hdi)
    refine ⟨LE n ch gn x5 x6 x7 x8 x9 (some (.int best)) x11 x12 x13 (some d) x15 (some (.list ds)) x17 x18 x19 x20 x21 x22 [] false, _, rfl, sIf_nx (bNot_of (bOf_of ((call2 (F := F__law_alike) ((call3 (F := F_shows_party_paper) (f := dVar 3) (g := dVar 4) (h := dVar 14) rfl rfl rfl).trans s1) ((call4 (F := F__law_is_paper) (f := dVar 3) (g := dVar 4) (h := dVar 10) (k := dVar 14) rfl rfl rfl rfl).trans s2)).trans (alike_bool b)))), _, rfl⟩)
  refine ⟨x14', ?_⟩
  have r1 : relE 16 (LE n ch gn x5 x6 x7 x8 x9 (some (.int best)) x11 x12 x13 x14 x15 none x17 x18 x19 x20 x21 x22 [(16, ds)] true) = some (LE n ch gn x5 x6 x7 x8 x9 (some (.int best)) x11 x12 x13 x14 x15 (some (.list ds)) x17 x18 x19 x20 x21 x22 [] true) := rfl
  unfold sRel
  rw [r1, Option.bind_some]
  unfold w12f
  rw [sFor_nx rfl rfl f1 rfl]
  rfl
/-! ### 14: watchers -/
theorem notIn_lot {a : Int} {l : List Nat} : dNotIn (.int a) (lotD l) = some (.bool (!inL l a)) := by
  unfold dNotIn
  rw [dIn_lot]
  rfl
theorem w14c_eq {l : List Nat} (hl : l ∈ lots n) (h6 : n ≤ 6) {p : Nat} : w14c (LE n ch gn (some (pD p)) x6 x7 (some (lotD l)) x9 x10 x11 x12 x13 x14 x15 x16 x17 x18 x19 x20 x21 none [] false) = some (.list ((l.filter fun s => decide (((ch s : Nat) : Int) = 1 + (p : Nat))).map pD)) := by
  have hs := lots_size hl
  refine dComp_fm (xs := l) (fun s => decide (((ch s : Nat) : Int) = 1 + (p : Nat))) pD pD rfl (by show _ ≤ 1000; omega) fun r hr => ⟨LE n ch gn (some (pD p)) x6 x7 (some (lotD l)) x9 x10 x11 x12 x13 x14 x15 x16 x17 x18 x19 x20 x21 (some (pD r)) [] false, rfl, ?_, fun _ => rfl⟩
  refine bOf_of (bin2_of (F := dEq) (a := .int (ch r : Nat)) (b := pD p) ?_ rfl (dEq_int _ _))
  show dIx (chD n ch) (.int ((1 : Int) + (r : Nat) - 1)) = _
  exact chD_ix1 (lots_lt hl r hr)
theorem w14e_eq {l : List Nat} (hl : l ∈ lots n) (h6 : n ≤ 6) : w14e (LE n ch gn x5 x6 x7 (some (lotD l)) x9 x10 x11 x12 x13 x14 x15 x16 x17 x18 x19 x20 x21 none [] false) = some (.list (((List.range n).filter (bareP n ch l)).map pD)) := by
  refine dComp_fm (xs := List.range n) (bareP n ch l) pD pD (dRng2 rfl (by omega)) (by rw [List.length_range]; show n ≤ 1000; omega) fun p hp => ⟨LE n ch gn (some (pD p)) x6 x7 (some (lotD l)) x9 x10 x11 x12 x13 x14 x15 x16 x17 x18 x19 x20 x21 none [] false, rfl, ?_, fun _ => rfl⟩
  have hp := List.mem_range.mp hp
  refine bAnd_of (bOf_of (bin2_of (F := dNotIn) (f := dVar 5) (g := dVar 8) rfl rfl notIn_lot)) fun _ => bAnd_of (bOf_of (bin2_of (F := dNotIn) (a := .int (ch p : Nat)) (g := dVar 8) (chD_ix1 hp) rfl notIn_lot)) fun _ => bOf_of (bin2_of (F := dEq) (w14c_eq hl h6) lst0 (dEq_nil (Sh.pDs _)))
theorem len_lot {ρ : En} {l : List Nat} (h : dVar 8 ρ = some (lotD l)) : dFun fLen (dVar 8) ρ = some (.int ((l.length : Nat) : Int)) := by
  refine dFun_of h ?_
  show some (PyData.int ((l.map pD).length : Nat)) = _
  rw [List.length_map]
theorem w14_eq (h6 : n ≤ 6) : ∃ x8' x21', w14 (LE n ch gn x5 (some (lotsD (lots n))) x7 x8 x9 x10 x11 x12 x13 x14 x15 x16 x17 x18 x19 (some (.list [])) x21 none [] true) = some (.nx (LE n ch gn x5 (some (lotsD (lots n))) x7 x8' x9 x10 x11 x12 x13 x14 x15 x16 x17 x18 x19 (some (.list ((watL n ch).map PyData.int))) x21' none [] true)) := by
  have hL := lots_len6 h6
  obtain ⟨ρ', h1, h2⟩ := forL_inv (tg := .one 8) (body := w14b) (fun k ρ => ∃ x8 x21, ρ = LE n ch gn x5 (some (lotsD (lots n))) x7 x8 x9 x10 x11 x12 x13 x14 x15 x16 x17 x18 x19 (some (.list ((((lots n).take k).filter (wat n ch)).map fun l => PyData.int ((l.length : Nat) : Int)))) x21 none [] false)
    (ds := (lots n).map lotD) (k := 0) (ρ := LE n ch gn x5 (some (lotsD (lots n))) x7 x8 x9 x10 x11 x12 x13 x14 x15 x16 x17 x18 x19 (some (.list [])) x21 none [] false) ⟨_, _, rfl⟩ (fun i d ρ hd hI => by
      obtain ⟨x8, x21, rfl⟩ := hI
      rw [List.getElem?_map] at hd
      obtain ⟨l, hl, rfl⟩ := Option.map_eq_some_iff.mp hd
      rw [Nat.zero_add]
      have hm := List.mem_of_getElem? hl
      refine ⟨LE n ch gn x5 (some (lotsD (lots n))) x7 (some (lotD l)) x9 x10 x11 x12 x13 x14 x15 x16 x17 x18 x19 (some (.list ((((lots n).take i).filter (wat n ch)).map fun l => PyData.int ((l.length : Nat) : Int)))) x21 none [] false, LE n ch gn x5 (some (lotsD (lots n))) x7 (some (lotD l)) x9 x10 x11 x12 x13 x14 x15 x16 x17 x18 x19 (some (.list ((((lots n).take (i + 1)).filter (wat n ch)).map fun l => PyData.int ((l.length : Nat) : Int)))) (some (.list (((List.range n).filter (bareP n ch l)).map pD))) none [] false, rfl, ?_, _, _, rfl⟩
      rw [filt_take _ _ hl, ← wat_bare (lots_lt hm)]
      have hq := filt_len (wat n ch) (fun l => PyData.int ((l.length : Nat) : Int)) (lots n) i
      unfold w14b
      rw [sThen_nx (sSet_of (ρ' := LE n ch gn x5 (some (lotsD (lots n))) x7 (some (lotD l)) x9 x10 x11 x12 x13 x14 x15 x16 x17 x18 x19 (some (.list ((((lots n).take i).filter (wat n ch)).map fun l => PyData.int ((l.length : Nat) : Int)))) (some (.list (((List.range n).filter (bareP n ch l)).map pD))) none [] false) (w14e_eq hm h6) rfl)]
      exact sSet_of (add_flag (i := 20) (f := dFun fLen (dVar 8)) rfl (by omega) (len_lot rfl) (bin2_of (F := dEq) (f := dVar 21) rfl lst0 (dEq_nil (Sh.pDs _)))) rfl)
  obtain ⟨x8', x21', rfl⟩ := h2
  refine ⟨x8', x21', ?_⟩
  rw [Nat.zero_add, List.length_map, List.take_length] at h1
  unfold w14
  rw [sFor_nx rfl rfl h1 rfl]
  unfold watL
  rw [List.map_map]
  rfl
theorem w15_eq (F : Fo n ch rk) (h1 : 1 ≤ n) (h6 : n ≤ 6) : w15 (LE n ch gn x5 x6 x7 x8 x9 x10 x11 x12 x13 x14 x15 x16 x17 x18 x19 (some (.list ((watL n ch).map PyData.int))) x21 x22 ow bs) = some (.rt (LE n ch gn x5 x6 x7 x8 x9 x10 x11 x12 x13 x14 x15 x16 x17 x18 x19 (some (.list ((watL n ch).map PyData.int))) x21 x22 ow bs) (.bool true)) :=
  sRet_of ((call2 (F := F__law_alike) ((call1 (F := F_fewest_watchers) (f := dVar 3) (a := chD n ch) rfl).trans (F_fewest1 F h1 h6)) (dFun_of (F := fMin) (f := dVar 20) (a := .list ((watL n ch).map PyData.int)) rfl fMin_watL)).trans (alike_int _))
/-- the law, on a chart by functions -/
theorem law_fo (F : Fo n ch rk) (h1 : 1 ≤ n) (h6 : n ≤ 6) (hg : ∀ r, r < n → gn r < 9) : ∃ ρ', B_law (LE n ch gn none none none none none none none none none none none none none none none none none none [] true) = some (.rt ρ' (.bool true)) := by
  obtain ⟨l0, hb, eb⟩ := F_best_party1 (ch := ch) (gn := gn) F h1 h6 hg
  obtain ⟨p, q, ep, lp⟩ := paper_ok F h1 h6 hg hb
  obtain ⟨a8, e2⟩ := w2_eq (n := n) (ch := ch) (gn := gn) (x9 := none) (x10 := none) (x11 := none) (x12 := none) (x13 := none) (x14 := none) (x15 := none) (x16 := none) (x17 := none) (x18 := none) (x19 := none) (x20 := none) (x21 := none) (x22 := none) h6
  obtain ⟨a14, a15, e8⟩ := w8_eq (n := n) (ch := ch) (gn := gn) (x8 := a8) (x11 := some (prD gn l0)) (x12 := some (pairD (numsD (tm n ch) fun l => 2 * p l) (numsD n fun r => 2 * q r))) (x14 := none) (x15 := none) (x16 := none) (x17 := none) (x18 := none) (x19 := none) (x20 := none) (x21 := none) (x22 := none) F h1 h6 hg hb
  obtain ⟨a5, a17, a18, a19, ds, e11, v11⟩ := w11_eq (n := n) (ch := ch) (gn := gn) (x6 := some (lotsD (lots n))) (x7 := some (lotsD (good n ch))) (x8 := a8) (x9 := some (sumsD n ch gn)) (x10 := some (.int (gnOf gn l0))) (x11 := some (prD gn l0)) (x13 := some (.list (valL n gn l0))) (x14 := a14) (x15 := a15) (x20 := none) (x21 := none) (x22 := none) (x5 := none) (x17 := none) (x18 := none) (x19 := none)
    (p := fun l => 2 * p l) (q := fun r => 2 * q r) F h1 h6 hg hb (ds := pap7 (numsD (tm n ch) fun l => 2 * p l) (numsD n fun r => 2 * q r) ((List.range (tm n ch)).map fun l => hf (2 * p l))) (by show 7 ≤ 7; decide) (pap7_ok F h1 h6 hg hb)
  obtain ⟨b14, e12⟩ := w12_eq (n := n) (ch := ch) (gn := gn) (x5 := a5) (x6 := some (lotsD (lots n))) (x7 := some (lotsD (good n ch))) (x8 := a8) (x9 := some (sumsD n ch gn)) (x11 := some (prD gn l0)) (x12 := some (pairD (numsD (tm n ch) fun l => 2 * p l) (numsD n fun r => 2 * q r))) (x13 := some (.list (valL n gn l0))) (x14 := a14) (x15 := a15) (x17 := a17) (x18 := a18) (x19 := a19) (x20 := none) (x21 := none) (x22 := none) v11
  obtain ⟨b8, b21, e14⟩ := w14_eq (n := n) (ch := ch) (x5 := a5) (x7 := some (lotsD (good n ch))) (x8 := a8) (x9 := some (sumsD n ch gn)) (x10 := some (.int (gnOf gn l0))) (x11 := some (prD gn l0)) (x12 := some (pairD (numsD (tm n ch) fun l => 2 * p l) (numsD n fun r => 2 * q r))) (x13 := some (.list (valL n gn l0))) (x14 := b14) (x15 := a15) (x16 := some (.list ds)) (x17 := a17) (x18 := a18) (x19 := a19) (x21 := none) (gn := gn) h6
  refine ⟨LE n ch gn a5 (some (lotsD (lots n))) (some (lotsD (good n ch))) b8 (some (sumsD n ch gn)) (some (.int (gnOf gn l0))) (some (prD gn l0)) (some (pairD (numsD (tm n ch) fun l => 2 * p l) (numsD n fun r => 2 * q r))) (some (.list (valL n gn l0))) b14 a15 (some (.list ds)) a17 a18 a19 (some (.list ((watL n ch).map PyData.int))) b21 none [] true, ?_⟩
  rw [B_law_eq]
  refine (sThen_nx (w1_eq h6)).trans ?_
  refine (sThen_nx e2).trans ?_
  refine (sThen_nx (sSet_of (ρ' := LE n ch gn none (some (lotsD (lots n))) (some (lotsD (good n ch))) a8 (some (sumsD n ch gn)) none none none none none none none none none none none none none [] true) (w3_eq h6) rfl)).trans ?_
  refine (sThen_nx (w4_eq hb eb ep)).trans ?_
  refine (sThen_nx (rF_nx (w5_eq F h1 h6))).trans ?_
  refine (sThen_nx (rF_nx (w6_eq hb))).trans ?_
  refine (sThen_nx (sSet_of (ρ' := LE n ch gn none (some (lotsD (lots n))) (some (lotsD (good n ch))) a8 (some (sumsD n ch gn)) (some (.int (gnOf gn l0))) (some (prD gn l0)) (some (pairD (numsD (tm n ch) fun l => 2 * p l) (numsD n fun r => 2 * q r))) (some (.list (valL n gn l0))) none none none none none none none none none [] true) w7_eq rfl)).trans ?_
  refine (sThen_nx e8).trans ?_
  refine (sThen_nx (rF_nx (w9_eq lp))).trans ?_
  refine (sThen_nx (w10_eq (la := (List.range (tm n ch)).map fun l => hf (2 * p l)))).trans ?_
  refine (sThen_nx e11).trans ?_
  refine (sThen_nx e12).trans ?_
  refine (sThen_nx (sSet_of lst0 rfl)).trans ?_
  refine (sThen_nx e14).trans ?_
  exact w15_eq F h1 h6
end
/-! ### from the lists that the law draws -/
theorem ints_natD {n : Nat} {fs : List Int} (hl : fs.length = n) (h : ∀ i ∈ fs, 0 ≤ i) : fs.map PyData.int = natD n fun r => (fs.getD r 0).toNat := by
  unfold natD
  apply List.ext_getElem
  · simp [hl]
  · intro i h1 h2
    rw [List.length_map] at h1
    rw [List.getElem_map, List.getElem_map, List.getElem_range]
    have := h fs[i] (List.getElem_mem h1)
    have e : fs.getD i 0 = fs[i] := by simp [h1]
    show PyData.int fs[i] = PyData.int (((fs.getD i 0).toNat : Nat) : Int)
    rw [e]
    congr 1
    omega
theorem law_math : LawMath := by
  intro n fs gs h1 h6 hF hgl hg
  obtain ⟨hl, r, hr⟩ := hF
  have key : ∀ i, i < n → r ((1 : Int) + (i : Nat)) < n ∧ 0 ≤ fs.getD i 0 ∧ fs.getD i 0 ≤ n ∧ (fs.getD i 0 = 0 ∨ r (fs.getD i 0) < r ((1 : Int) + (i : Nat))) := fun i hi => by
    obtain ⟨a, c, hc, h2⟩ := hr ((1 : Int) + (i : Nat)) (by omega) (by omega)
    rw [show ((1 : Int) + (i : Nat) - 1).toNat = i by omega] at hc
    have e : fs.getD i 0 = c := by
      rw [List.getD_eq_getElem?_getD, hc]
      rfl
    rw [e]
    refine ⟨a, ?_⟩
    rcases h2 with rfl | ⟨c1, c2, c3⟩
    · exact ⟨by omega, by omega, .inl rfl⟩
    · exact ⟨by omega, by omega, .inr c3⟩
  have F : Fo n (fun i => (fs.getD i 0).toNat) (fun i => r ((1 : Int) + (i : Nat))) := {
    le := fun i hi => by
      have := key i hi
      omega
    rn := fun i hi => (key i hi).1
    dn := fun i hi => by
      obtain ⟨_, k2, k3, k4⟩ := key i hi
      rcases k4 with k4 | k4
      · exact .inl (by rw [k4]; rfl)
      · by_cases z : fs.getD i 0 = 0
        · exact .inl (by rw [z]; rfl)
        · refine .inr ?_
          rw [show (1 : Int) + (((fs.getD i 0).toNat - 1 : Nat) : Int) = fs.getD i 0 by omega]
          exact k4 }
  have hfs : ∀ i ∈ fs, 0 ≤ i := fun i hi => by
    obtain ⟨j, hj, rfl⟩ := List.mem_iff_getElem.mp hi
    have e : fs.getD j 0 = fs[j] := by simp [hj]
    have := (key j (by omega)).2.1
    omega
  have hgn : ∀ i, i < n → (gs.getD i 0).toNat < 9 := fun i hi => by
    have e : gs.getD i 0 = gs[i] := by simp [hgl, hi]
    have := hg gs[i] (List.getElem_mem (by omega))
    omega
  obtain ⟨ρ', e⟩ := law_fo (gn := fun i => (gs.getD i 0).toNat) F h1 h6 hgn
  refine ⟨ρ', ?_⟩
  unfold lawE
  rw [ints_natD hl hfs, ints_natD hgl fun i hi => (hg i hi).1]
  exact e
end CD
end
section
set_option maxHeartbeats 0
namespace CD
open PySem PySem.Spec PyProof.Rows L2 DL
def hd_fn : List He.DefD := [⟨("is_in", none), "is_in", "is_in", defArgs s_is_in, defBody s_is_in, defScope s_is_in, [], []⟩,
  ⟨("comes_up", none), "comes_up", "comes_up", defArgs s_comes_up, defBody s_comes_up, defScope s_comes_up, [], []⟩,
  ⟨("is_chart", none), "is_chart", "is_chart", defArgs s_is_chart, defBody s_is_chart, defScope s_is_chart, [], []⟩,
  ⟨("need_chart", none), "need_chart", "need_chart", defArgs s_need_chart, defBody s_need_chart, defScope s_need_chart, [], []⟩,
  ⟨("are_people", none), "are_people", "are_people", defArgs s_are_people, defBody s_are_people, defScope s_are_people, [], []⟩,
  ⟨("lots_of", none), "lots_of", "lots_of", defArgs s_lots_of, defBody s_lots_of, defScope s_lots_of, [], []⟩,
  ⟨("ratio", none), "ratio", "ratio", defArgs s_ratio, defBody s_ratio, defScope s_ratio, [], []⟩,
  ⟨("plus", none), "plus", "plus", defArgs s_plus, defBody s_plus, defScope s_plus, [], []⟩,
  ⟨("minus", none), "minus", "minus", defArgs s_minus, defBody s_minus, defScope s_minus, [], []⟩,
  ⟨("by", none), "by", "by", defArgs s_by, defBody s_by, defScope s_by, [], []⟩,
  ⟨("over", none), "over", "over", defArgs s_over, defBody s_over, defScope s_over, [], []⟩,
  ⟨("less", none), "less", "less", defArgs s_less, defBody s_less, defScope s_less, [], []⟩,
  ⟨("sum_of", none), "sum_of", "sum_of", defArgs s_sum_of, defBody s_sum_of, defScope s_sum_of, [], []⟩,
  ⟨("is_ratio", none), "is_ratio", "is_ratio", defArgs s_is_ratio, defBody s_is_ratio, defScope s_is_ratio, [], []⟩,
  ⟨("solved", none), "solved", "solved", defArgs s_solved, defBody s_solved, defScope s_solved, [], []⟩,
  ⟨("need_gains", none), "need_gains", "need_gains", defArgs s_need_gains, defBody s_need_gains, defScope s_need_gains, [], []⟩,
  ⟨("is_party", none), "is_party", "is_party", defArgs s_is_party, defBody s_is_party, defScope s_is_party, [], []⟩,
  ⟨("gain_of", none), "gain_of", "gain_of", defArgs s_gain_of, defBody s_gain_of, defScope s_gain_of, [], []⟩,
  ⟨("best_of", none), "best_of", "best_of", defArgs s_best_of, defBody s_best_of, defScope s_best_of, [], []⟩,
  ⟨("best_party", none), "best_party", "best_party", defArgs s_best_party, defBody s_best_party, defScope s_best_party, [], []⟩,
  ⟨("shows_best_party", none), "shows_best_party", "shows_best_party", defArgs s_shows_best_party, defBody s_shows_best_party, defScope s_shows_best_party, [], []⟩,
  ⟨("party_count", none), "party_count", "party_count", defArgs s_party_count, defBody s_party_count, defScope s_party_count, [], []⟩,
  ⟨("with_chiefs", none), "with_chiefs", "with_chiefs", defArgs s_with_chiefs, defBody s_with_chiefs, defScope s_with_chiefs, [], []⟩,
  ⟨("party_paper", none), "party_paper", "party_paper", defArgs s_party_paper, defBody s_party_paper, defScope s_party_paper, [], []⟩,
  ⟨("are_numbers", none), "are_numbers", "are_numbers", defArgs s_are_numbers, defBody s_are_numbers, defScope s_are_numbers, [], []⟩,
  ⟨("shows_party_paper", none), "shows_party_paper", "shows_party_paper", defArgs s_shows_party_paper, defBody s_shows_party_paper, defScope s_shows_party_paper, [], []⟩,
  ⟨("watches", none), "watches", "watches", defArgs s_watches, defBody s_watches, defScope s_watches, [], []⟩,
  ⟨("fewest_watchers", none), "fewest_watchers", "fewest_watchers", defArgs s_fewest_watchers, defBody s_fewest_watchers, defScope s_fewest_watchers, [], []⟩,
  ⟨("_law_taken", none), "_law_taken", "_law_taken", defArgs s_taken, defBody s_taken, defScope s_taken, [], []⟩,
  ⟨("_law_pick", none), "_law_pick", "_law_pick", defArgs s_pick, defBody s_pick, defScope s_pick, [], []⟩,
  ⟨("_law_alike", none), "_law_alike", "_law_alike", defArgs s__law_alike, defBody s__law_alike, defScope s__law_alike, [], []⟩,
  ⟨("_law_ratio", none), "_law_ratio", "_law_ratio", defArgs s__law_ratio, defBody s__law_ratio, defScope s__law_ratio, [], []⟩,
  ⟨("_law_plus", none), "_law_plus", "_law_plus", defArgs s__law_plus, defBody s__law_plus, defScope s__law_plus, [], []⟩,
  ⟨("_law_sum", none), "_law_sum", "_law_sum", defArgs s__law_sum, defBody s__law_sum, defScope s__law_sum, [], []⟩,
  ⟨("_law_less", none), "_law_less", "_law_less", defArgs s__law_less, defBody s__law_less, defScope s__law_less, [], []⟩,
  ⟨("_law_is_ratio", none), "_law_is_ratio", "_law_is_ratio", defArgs s__law_is_ratio, defBody s__law_is_ratio, defScope s__law_is_ratio, [], []⟩,
  ⟨("_law_chart", none), "_law_chart", "_law_chart", defArgs s_chart, defBody s_chart, defScope s_chart, [], []⟩,
  ⟨("_law_lots", none), "_law_lots", "_law_lots", defArgs s__law_lots, defBody s__law_lots, defScope s__law_lots, [], []⟩,
  ⟨("_law_is_paper", none), "_law_is_paper", "_law_is_paper", defArgs s__law_is_paper, defBody s__law_is_paper, defScope s__law_is_paper, [], []⟩,
  ⟨("law", none), "law", "law", defArgs s_law, defBody s_law, defScope s_law, [], []⟩,
  ⟨("Program", some "__init__"), "__init__", "Program.__init__", defArgs s_init, defBody s_init, defScope s_init, [], []⟩,
  ⟨("Program", some "turn"), "turn", "Program.turn", defArgs s_Program_turn, defBody s_Program_turn, defScope s_Program_turn, [], []⟩,
  ⟨("Program", some "multiplier"), "multiplier", "Program.multiplier", defArgs s_Program_multiplier, defBody s_Program_multiplier, defScope s_Program_multiplier, [], []⟩,
  ⟨("Program", some "rising"), "rising", "Program.rising", defArgs s_Program_rising, defBody s_Program_rising, defScope s_Program_rising, [], []⟩,
  ⟨("Program", some "climb"), "climb", "Program.climb", defArgs s_Program_climb, defBody s_Program_climb, defScope s_Program_climb, [], []⟩,
  ⟨("Program", some "leave_help"), "leave_help", "Program.leave_help", defArgs s_Program_leave_help, defBody s_Program_leave_help, defScope s_Program_leave_help, [], []⟩,
  ⟨("Program", some "amounts"), "amounts", "Program.amounts", defArgs s_Program_amounts, defBody s_Program_amounts, defScope s_Program_amounts, [], []⟩,
  ⟨("Program", some "prices"), "prices", "Program.prices", defArgs s_Program_prices, defBody s_Program_prices, defScope s_Program_prices, [], []⟩]
def hd_fa : List He.Fa := [.glo "is_in", .glo "comes_up", .glo "is_chart", .glo "need_chart", .glo "are_people", .glo "lots_of", .glo "ratio", .glo "plus", .glo "minus", .glo "by", .glo "over", .glo "less", .glo "sum_of", .glo "is_ratio", .glo "solved", .glo "need_gains", .glo "is_party", .glo "gain_of", .glo "best_of", .glo "best_party", .glo "shows_best_party", .glo "party_count", .glo "with_chiefs", .glo "party_paper", .glo "are_numbers", .glo "shows_party_paper", .glo "watches", .glo "fewest_watchers", .glo "_law_taken", .glo "_law_pick", .glo "_law_alike", .glo "_law_ratio", .glo "_law_plus", .glo "_law_sum", .glo "_law_less", .glo "_law_is_ratio", .glo "_law_chart", .glo "_law_lots", .glo "_law_is_paper", .glo "law", .glo "Program", .cls "Program", .mkr "Program", .noat "Program" "many", .noat "Program" "signs", .noat "Program" "rows", .noat "Program" "basis", .meth "Program" "turn", .meth "Program" "multiplier", .meth "Program" "rising", .meth "Program" "climb", .meth "Program" "leave_help", .meth "Program" "amounts", .meth "Program" "prices", .free "len", .free "range", .free "isinstance", .free "int", .free "bool", .free "str", .free "tuple", .free "list", .free "all", .free "any", .free "sum", .free "max", .free "min", .free "enumerate", .free "zip", .free "abs", .int "MOST_PEOPLE" 6, .int "MOST_GAIN" 1000]
def hd_tf : List He.Defn := [("is_chart", none), ("are_people", none), ("is_ratio", none), ("need_gains", none), ("is_party", none), ("gain_of", none), ("are_numbers", none), ("watches", none)]
def hd_ex (K : PySem.W.Frag) : Bool := He.eqO (PySem.W.nsIn K mainGlobals "gcd") (some (some (.builtin "math.gcd")))
def hd_loose : List Str := (["ChiefError", "BadChart", "BadGains", "MOST_PEOPLE", "is_in", "comes_up", "is_chart", "need_chart", "are_people", "lots_of", "ratio", "plus", "minus", "by", "over", "less", "sum_of", "is_ratio", "Program", "solved", "MOST_GAIN", "need_gains", "is_party", "gain_of", "best_of", "best_party", "shows_best_party", "party_count", "with_chiefs", "party_paper"] : List Str) ++ (["are_numbers", "shows_party_paper", "watches", "fewest_watchers", "_law_taken", "_law_pick", "_law_alike", "_law_ratio", "_law_plus", "_law_by", "_law_sum", "_law_less", "_law_is_ratio", "_law_step", "_law_done", "_law_steps", "_law_row", "_law_above", "_law_is_chart", "_law_charts", "_law_chart", "_law_lots", "_law_is_paper"] : List Str)
abbrev R : PySem.W.OpenRow := PySem.W.OpenLaw.row PySem.Challenge.rw_chiefdeeds_k19_whole_parties
abbrev hk : PySem.W.Hook := He.hookX 6 hd_fa hd_fn [] hd_tf hd_ex
def ob (s : PySem.W.SharedT) : He.AlX := He.obsX 6 hd_fa hd_fn [] hd_tf hd_ex (HandSHeadRun.getT s)
theorem ob_eq (s : PySem.W.SharedT) : ob s = hk.obs s.abs := He.obsX_eq (HandSHeadRun.getT_eq s)
theorem run (w : World) : HandSHeadRun.RunEqI R (PySem.W.view R.prog [0, 62]) hk ob 4000 hd_loose w := by
  unfold HandSHeadRun.RunEqI
  kernel_rfl
end CD
end
section
set_option maxHeartbeats 0
namespace CD
open PySem PySem.Spec PyProof.Rows L2 DL
open GxR (TabB TabG Tabbed)
theorem fc_of {K : PySem.W.Frag} {x qual : Str} {st : Stmt} {f : Addr} {fd : FuncData} (F : FunD K x qual (defArgs st) (defBody st) (defScope st) [] [] f fd) : ∃ cdv, FC K x qual st f fd cdv := by
  obtain ⟨oc, od, dV, kV, doc, pm, an, cdv, ct, osl, rfl, lk, hcd, hD, hK⟩ := F.ex
  rcases hD with ⟨_, rfl⟩ | ⟨e, _⟩
  · exact ⟨cdv, ⟨oc, od, kV, doc, pm, an, ct, osl, rfl, lk, hcd⟩, F.kp⟩
  · exact absurd rfl e
theorem code_of {K : PySem.W.Frag} {x : Str} {st : Stmt} {fd : FuncData} {cdv : Value} (F : FC K x x st (He.fAd K (x, none)) fd cdv) : cdv = .ref (He.cT K (x, none)).1 := by
  obtain ⟨oc, od, kV, doc, pm, an, ct, osl, rfl, lk, hcd⟩ := F.ex
  obtain ⟨c, rfl⟩ := He.codeIn_ref hcd
  have := He.codeOf_eq (p := (x, none)) lk rfl
  show _ = Value.ref (He.codeOf K (x, none))
  rw [this]
theorem cal_s {P : Program} {w : World} {K : PySem.W.Frag} {mg : Str → Option Value} {base : Heap} {k : Nat} {x : Str} {sp : Sp} {f : Addr} {fd : FuncData} {ps : List Str} (h : FnOk P w K mg base CX0 k f fd ps sp) (m : mg x = some (.ref f)) (kp : PySem.W.keepIn K (.ref f) = true) (b : Binds K fd ps []) : CalS P w K mg base k x sp := ⟨f, fd, ps, h, m, kp, b⟩
def hd_T (K : PySem.W.Frag) : List Addr := hd_tf.map fun p => (He.cT K p).2

theorem facts (math : LawMath) {P : Program} {w : World} {K : PySem.W.Frag} {h : Heap} {mg : Str → Option Value} {fa : Addr} (KX : K.In h) (G : h.Ns mainGlobals mg) (hfa : mg ("law" : Str) = some (.ref fa)) (c : He.SaysX hd_fa hd_fn [] hd_tf hd_ex w h K) :
    ∃ fd : FuncData, (∀ (s : Shared) (v : Value), BindsTo s fd ⟨[v], []⟩ [("_law_script", v)]) ∧ ∀ base : Heap, K.In base → base.Ns mainGlobals mg → (∀ p ∈ hd_tf.map (He.cT K), LamX.TabB base mg p.1 p.2) → FnOk P w K mg base CX0 10 fa fd ["_law_script"] (spLaw K (hd_T K)) := by
  have e := hfa.symm.trans (He.glo_ok KX G (c.t.d.fact 39 (f := .glo "law") rfl))
  cases e
  have b : Blt mg := ⟨He.free_ok KX G (c.t.d.fact 54 (f := .free "len") rfl), He.free_ok KX G (c.t.d.fact 55 (f := .free "range") rfl), He.free_ok KX G (c.t.d.fact 56 (f := .free "isinstance") rfl), He.free_ok KX G (c.t.d.fact 57 (f := .free "int") rfl), He.free_ok KX G (c.t.d.fact 58 (f := .free "bool") rfl), He.free_ok KX G (c.t.d.fact 59 (f := .free "str") rfl), He.free_ok KX G (c.t.d.fact 60 (f := .free "tuple") rfl), He.free_ok KX G (c.t.d.fact 61 (f := .free "list") rfl), He.free_ok KX G (c.t.d.fact 62 (f := .free "all") rfl), He.free_ok KX G (c.t.d.fact 63 (f := .free "any") rfl), He.free_ok KX G (c.t.d.fact 64 (f := .free "sum") rfl), He.free_ok KX G (c.t.d.fact 65 (f := .free "max") rfl), He.free_ok KX G (c.t.d.fact 66 (f := .free "min") rfl), He.free_ok KX G (c.t.d.fact 67 (f := .free "enumerate") rfl), He.free_ok KX G (c.t.d.fact 68 (f := .free "zip") rfl), He.free_ok KX G (c.t.d.fact 69 (f := .free "abs") rfl), PySem.W.mg_of KX G (He.eqO_ok c.more), He.int_ok KX G (c.t.d.fact 70 (f := .int "MOST_PEOPLE" 6) rfl), He.int_ok KX G (c.t.d.fact 71 (f := .int "MOST_GAIN" 1000) rfl)⟩
  have cl : ClsT K (He.ga K "Program") := ⟨He.cls_ok (c.t.d.fact 41 (f := .cls "Program") rfl), He.noat_ok (c.t.d.fact 43 (f := .noat "Program" "many") rfl), He.noat_ok (c.t.d.fact 44 (f := .noat "Program" "signs") rfl), He.noat_ok (c.t.d.fact 45 (f := .noat "Program" "rows") rfl), He.noat_ok (c.t.d.fact 46 (f := .noat "Program" "basis") rfl)⟩
  obtain ⟨fd_is_in, U_is_in⟩ := c.t.d.def_ 0 (d := ⟨("is_in", none), "is_in", "is_in", defArgs s_is_in, defBody s_is_in, defScope s_is_in, [], []⟩) rfl
  have B_is_in := FunD.bindsN (ps := ["value", "least", "most"]) U_is_in fun _ _ _ _ _ _ us hl => match us, hl with | [_, _, _], _ => rfl
  obtain ⟨cdv_is_in, E_is_in⟩ := fc_of (st := s_is_in) U_is_in
  have D_is_in : DefC K mg "is_in" s_is_in _ fd_is_in _ ["value", "least", "most"] := ⟨E_is_in, (He.glo_ok KX G (c.t.d.fact 0 (f := .glo "is_in") rfl)), B_is_in⟩
  obtain ⟨fd_comes_up, U_comes_up⟩ := c.t.d.def_ 1 (d := ⟨("comes_up", none), "comes_up", "comes_up", defArgs s_comes_up, defBody s_comes_up, defScope s_comes_up, [], []⟩) rfl
  have B_comes_up := FunD.bindsN (ps := ["chiefs"]) U_comes_up fun _ _ _ _ _ _ us hl => match us, hl with | [_], _ => rfl
  obtain ⟨cdv_comes_up, E_comes_up⟩ := fc_of (st := s_comes_up) U_comes_up
  have D_comes_up : DefC K mg "comes_up" s_comes_up _ fd_comes_up _ ["chiefs"] := ⟨E_comes_up, (He.glo_ok KX G (c.t.d.fact 1 (f := .glo "comes_up") rfl)), B_comes_up⟩
  obtain ⟨fd_is_chart, U_is_chart⟩ := c.t.d.def_ 2 (d := ⟨("is_chart", none), "is_chart", "is_chart", defArgs s_is_chart, defBody s_is_chart, defScope s_is_chart, [], []⟩) rfl
  have B_is_chart := FunD.bindsN (ps := ["value"]) U_is_chart fun _ _ _ _ _ _ us hl => match us, hl with | [_], _ => rfl
  obtain ⟨cdv_is_chart, E_is_chart⟩ := fc_of (st := s_is_chart) U_is_chart
  obtain rfl := code_of E_is_chart
  have D_is_chart : DefC K mg "is_chart" s_is_chart _ fd_is_chart _ ["value"] := ⟨E_is_chart, (He.glo_ok KX G (c.t.d.fact 2 (f := .glo "is_chart") rfl)), B_is_chart⟩
  obtain ⟨fd_need_chart, U_need_chart⟩ := c.t.d.def_ 3 (d := ⟨("need_chart", none), "need_chart", "need_chart", defArgs s_need_chart, defBody s_need_chart, defScope s_need_chart, [], []⟩) rfl
  have B_need_chart := FunD.bindsN (ps := ["chart"]) U_need_chart fun _ _ _ _ _ _ us hl => match us, hl with | [_], _ => rfl
  obtain ⟨cdv_need_chart, E_need_chart⟩ := fc_of (st := s_need_chart) U_need_chart
  have D_need_chart : DefC K mg "need_chart" s_need_chart _ fd_need_chart _ ["chart"] := ⟨E_need_chart, (He.glo_ok KX G (c.t.d.fact 3 (f := .glo "need_chart") rfl)), B_need_chart⟩
  obtain ⟨fd_are_people, U_are_people⟩ := c.t.d.def_ 4 (d := ⟨("are_people", none), "are_people", "are_people", defArgs s_are_people, defBody s_are_people, defScope s_are_people, [], []⟩) rfl
  have B_are_people := FunD.bindsN (ps := ["size", "value"]) U_are_people fun _ _ _ _ _ _ us hl => match us, hl with | [_, _], _ => rfl
  obtain ⟨cdv_are_people, E_are_people⟩ := fc_of (st := s_are_people) U_are_people
  obtain rfl := code_of E_are_people
  have D_are_people : DefC K mg "are_people" s_are_people _ fd_are_people _ ["size", "value"] := ⟨E_are_people, (He.glo_ok KX G (c.t.d.fact 4 (f := .glo "are_people") rfl)), B_are_people⟩
  obtain ⟨fd_lots_of, U_lots_of⟩ := c.t.d.def_ 5 (d := ⟨("lots_of", none), "lots_of", "lots_of", defArgs s_lots_of, defBody s_lots_of, defScope s_lots_of, [], []⟩) rfl
  have B_lots_of := FunD.bindsN (ps := ["size"]) U_lots_of fun _ _ _ _ _ _ us hl => match us, hl with | [_], _ => rfl
  obtain ⟨cdv_lots_of, E_lots_of⟩ := fc_of (st := s_lots_of) U_lots_of
  have D_lots_of : DefC K mg "lots_of" s_lots_of _ fd_lots_of _ ["size"] := ⟨E_lots_of, (He.glo_ok KX G (c.t.d.fact 5 (f := .glo "lots_of") rfl)), B_lots_of⟩
  obtain ⟨fd_ratio, U_ratio⟩ := c.t.d.def_ 6 (d := ⟨("ratio", none), "ratio", "ratio", defArgs s_ratio, defBody s_ratio, defScope s_ratio, [], []⟩) rfl
  have B_ratio := FunD.bindsN (ps := ["top", "bottom"]) U_ratio fun _ _ _ _ _ _ us hl => match us, hl with | [_, _], _ => rfl
  obtain ⟨cdv_ratio, E_ratio⟩ := fc_of (st := s_ratio) U_ratio
  have D_ratio : DefC K mg "ratio" s_ratio _ fd_ratio _ ["top", "bottom"] := ⟨E_ratio, (He.glo_ok KX G (c.t.d.fact 6 (f := .glo "ratio") rfl)), B_ratio⟩
  obtain ⟨fd_plus, U_plus⟩ := c.t.d.def_ 7 (d := ⟨("plus", none), "plus", "plus", defArgs s_plus, defBody s_plus, defScope s_plus, [], []⟩) rfl
  have B_plus := FunD.bindsN (ps := ["one", "other"]) U_plus fun _ _ _ _ _ _ us hl => match us, hl with | [_, _], _ => rfl
  obtain ⟨cdv_plus, E_plus⟩ := fc_of (st := s_plus) U_plus
  have D_plus : DefC K mg "plus" s_plus _ fd_plus _ ["one", "other"] := ⟨E_plus, (He.glo_ok KX G (c.t.d.fact 7 (f := .glo "plus") rfl)), B_plus⟩
  obtain ⟨fd_minus, U_minus⟩ := c.t.d.def_ 8 (d := ⟨("minus", none), "minus", "minus", defArgs s_minus, defBody s_minus, defScope s_minus, [], []⟩) rfl
  have B_minus := FunD.bindsN (ps := ["one", "other"]) U_minus fun _ _ _ _ _ _ us hl => match us, hl with | [_, _], _ => rfl
  obtain ⟨cdv_minus, E_minus⟩ := fc_of (st := s_minus) U_minus
  have D_minus : DefC K mg "minus" s_minus _ fd_minus _ ["one", "other"] := ⟨E_minus, (He.glo_ok KX G (c.t.d.fact 8 (f := .glo "minus") rfl)), B_minus⟩
  obtain ⟨fd_by, U_by⟩ := c.t.d.def_ 9 (d := ⟨("by", none), "by", "by", defArgs s_by, defBody s_by, defScope s_by, [], []⟩) rfl
  have B_by := FunD.bindsN (ps := ["one", "other"]) U_by fun _ _ _ _ _ _ us hl => match us, hl with | [_, _], _ => rfl
  obtain ⟨cdv_by, E_by⟩ := fc_of (st := s_by) U_by
  have D_by : DefC K mg "by" s_by _ fd_by _ ["one", "other"] := ⟨E_by, (He.glo_ok KX G (c.t.d.fact 9 (f := .glo "by") rfl)), B_by⟩
  obtain ⟨fd_over, U_over⟩ := c.t.d.def_ 10 (d := ⟨("over", none), "over", "over", defArgs s_over, defBody s_over, defScope s_over, [], []⟩) rfl
  have B_over := FunD.bindsN (ps := ["one", "other"]) U_over fun _ _ _ _ _ _ us hl => match us, hl with | [_, _], _ => rfl
  obtain ⟨cdv_over, E_over⟩ := fc_of (st := s_over) U_over
  have D_over : DefC K mg "over" s_over _ fd_over _ ["one", "other"] := ⟨E_over, (He.glo_ok KX G (c.t.d.fact 10 (f := .glo "over") rfl)), B_over⟩
  obtain ⟨fd_less, U_less⟩ := c.t.d.def_ 11 (d := ⟨("less", none), "less", "less", defArgs s_less, defBody s_less, defScope s_less, [], []⟩) rfl
  have B_less := FunD.bindsN (ps := ["one", "other"]) U_less fun _ _ _ _ _ _ us hl => match us, hl with | [_, _], _ => rfl
  obtain ⟨cdv_less, E_less⟩ := fc_of (st := s_less) U_less
  have D_less : DefC K mg "less" s_less _ fd_less _ ["one", "other"] := ⟨E_less, (He.glo_ok KX G (c.t.d.fact 11 (f := .glo "less") rfl)), B_less⟩
  obtain ⟨fd_sum_of, U_sum_of⟩ := c.t.d.def_ 12 (d := ⟨("sum_of", none), "sum_of", "sum_of", defArgs s_sum_of, defBody s_sum_of, defScope s_sum_of, [], []⟩) rfl
  have B_sum_of := FunD.bindsN (ps := ["some"]) U_sum_of fun _ _ _ _ _ _ us hl => match us, hl with | [_], _ => rfl
  obtain ⟨cdv_sum_of, E_sum_of⟩ := fc_of (st := s_sum_of) U_sum_of
  have D_sum_of : DefC K mg "sum_of" s_sum_of _ fd_sum_of _ ["some"] := ⟨E_sum_of, (He.glo_ok KX G (c.t.d.fact 12 (f := .glo "sum_of") rfl)), B_sum_of⟩
  obtain ⟨fd_is_ratio, U_is_ratio⟩ := c.t.d.def_ 13 (d := ⟨("is_ratio", none), "is_ratio", "is_ratio", defArgs s_is_ratio, defBody s_is_ratio, defScope s_is_ratio, [], []⟩) rfl
  have B_is_ratio := FunD.bindsN (ps := ["value"]) U_is_ratio fun _ _ _ _ _ _ us hl => match us, hl with | [_], _ => rfl
  obtain ⟨cdv_is_ratio, E_is_ratio⟩ := fc_of (st := s_is_ratio) U_is_ratio
  obtain rfl := code_of E_is_ratio
  have D_is_ratio : DefC K mg "is_ratio" s_is_ratio _ fd_is_ratio _ ["value"] := ⟨E_is_ratio, (He.glo_ok KX G (c.t.d.fact 13 (f := .glo "is_ratio") rfl)), B_is_ratio⟩
  obtain ⟨fd_solved, U_solved⟩ := c.t.d.def_ 14 (d := ⟨("solved", none), "solved", "solved", defArgs s_solved, defBody s_solved, defScope s_solved, [], []⟩) rfl
  have B_solved := FunD.bindsN (ps := ["rows", "goals", "costs"]) U_solved fun _ _ _ _ _ _ us hl => match us, hl with | [_, _, _], _ => rfl
  obtain ⟨cdv_solved, E_solved⟩ := fc_of (st := s_solved) U_solved
  have D_solved : DefC K mg "solved" s_solved _ fd_solved _ ["rows", "goals", "costs"] := ⟨E_solved, (He.glo_ok KX G (c.t.d.fact 14 (f := .glo "solved") rfl)), B_solved⟩
  obtain ⟨fd_need_gains, U_need_gains⟩ := c.t.d.def_ 15 (d := ⟨("need_gains", none), "need_gains", "need_gains", defArgs s_need_gains, defBody s_need_gains, defScope s_need_gains, [], []⟩) rfl
  have B_need_gains := FunD.bindsN (ps := ["chart", "gains"]) U_need_gains fun _ _ _ _ _ _ us hl => match us, hl with | [_, _], _ => rfl
  obtain ⟨cdv_need_gains, E_need_gains⟩ := fc_of (st := s_need_gains) U_need_gains
  obtain rfl := code_of E_need_gains
  have D_need_gains : DefC K mg "need_gains" s_need_gains _ fd_need_gains _ ["chart", "gains"] := ⟨E_need_gains, (He.glo_ok KX G (c.t.d.fact 15 (f := .glo "need_gains") rfl)), B_need_gains⟩
  obtain ⟨fd_is_party, U_is_party⟩ := c.t.d.def_ 16 (d := ⟨("is_party", none), "is_party", "is_party", defArgs s_is_party, defBody s_is_party, defScope s_is_party, [], []⟩) rfl
  have B_is_party := FunD.bindsN (ps := ["chart", "lot"]) U_is_party fun _ _ _ _ _ _ us hl => match us, hl with | [_, _], _ => rfl
  obtain ⟨cdv_is_party, E_is_party⟩ := fc_of (st := s_is_party) U_is_party
  obtain rfl := code_of E_is_party
  have D_is_party : DefC K mg "is_party" s_is_party _ fd_is_party _ ["chart", "lot"] := ⟨E_is_party, (He.glo_ok KX G (c.t.d.fact 16 (f := .glo "is_party") rfl)), B_is_party⟩
  obtain ⟨fd_gain_of, U_gain_of⟩ := c.t.d.def_ 17 (d := ⟨("gain_of", none), "gain_of", "gain_of", defArgs s_gain_of, defBody s_gain_of, defScope s_gain_of, [], []⟩) rfl
  have B_gain_of := FunD.bindsN (ps := ["gains", "lot"]) U_gain_of fun _ _ _ _ _ _ us hl => match us, hl with | [_, _], _ => rfl
  obtain ⟨cdv_gain_of, E_gain_of⟩ := fc_of (st := s_gain_of) U_gain_of
  obtain rfl := code_of E_gain_of
  have D_gain_of : DefC K mg "gain_of" s_gain_of _ fd_gain_of _ ["gains", "lot"] := ⟨E_gain_of, (He.glo_ok KX G (c.t.d.fact 17 (f := .glo "gain_of") rfl)), B_gain_of⟩
  obtain ⟨fd_best_of, U_best_of⟩ := c.t.d.def_ 18 (d := ⟨("best_of", none), "best_of", "best_of", defArgs s_best_of, defBody s_best_of, defScope s_best_of, [], []⟩) rfl
  have B_best_of := FunD.bindsN (ps := ["chart", "gains"]) U_best_of fun _ _ _ _ _ _ us hl => match us, hl with | [_, _], _ => rfl
  obtain ⟨cdv_best_of, E_best_of⟩ := fc_of (st := s_best_of) U_best_of
  have D_best_of : DefC K mg "best_of" s_best_of _ fd_best_of _ ["chart", "gains"] := ⟨E_best_of, (He.glo_ok KX G (c.t.d.fact 18 (f := .glo "best_of") rfl)), B_best_of⟩
  obtain ⟨fd_best_party, U_best_party⟩ := c.t.d.def_ 19 (d := ⟨("best_party", none), "best_party", "best_party", defArgs s_best_party, defBody s_best_party, defScope s_best_party, [], []⟩) rfl
  have B_best_party := FunD.bindsN (ps := ["chart", "gains"]) U_best_party fun _ _ _ _ _ _ us hl => match us, hl with | [_, _], _ => rfl
  obtain ⟨cdv_best_party, E_best_party⟩ := fc_of (st := s_best_party) U_best_party
  have D_best_party : DefC K mg "best_party" s_best_party _ fd_best_party _ ["chart", "gains"] := ⟨E_best_party, (He.glo_ok KX G (c.t.d.fact 19 (f := .glo "best_party") rfl)), B_best_party⟩
  obtain ⟨fd_shows_best_party, U_shows_best_party⟩ := c.t.d.def_ 20 (d := ⟨("shows_best_party", none), "shows_best_party", "shows_best_party", defArgs s_shows_best_party, defBody s_shows_best_party, defScope s_shows_best_party, [], []⟩) rfl
  have B_shows_best_party := FunD.bindsN (ps := ["chart", "gains", "value"]) U_shows_best_party fun _ _ _ _ _ _ us hl => match us, hl with | [_, _, _], _ => rfl
  obtain ⟨cdv_shows_best_party, E_shows_best_party⟩ := fc_of (st := s_shows_best_party) U_shows_best_party
  have D_shows_best_party : DefC K mg "shows_best_party" s_shows_best_party _ fd_shows_best_party _ ["chart", "gains", "value"] := ⟨E_shows_best_party, (He.glo_ok KX G (c.t.d.fact 20 (f := .glo "shows_best_party") rfl)), B_shows_best_party⟩
  obtain ⟨fd_party_count, U_party_count⟩ := c.t.d.def_ 21 (d := ⟨("party_count", none), "party_count", "party_count", defArgs s_party_count, defBody s_party_count, defScope s_party_count, [], []⟩) rfl
  have B_party_count := FunD.bindsN (ps := ["chart"]) U_party_count fun _ _ _ _ _ _ us hl => match us, hl with | [_], _ => rfl
  obtain ⟨cdv_party_count, E_party_count⟩ := fc_of (st := s_party_count) U_party_count
  have D_party_count : DefC K mg "party_count" s_party_count _ fd_party_count _ ["chart"] := ⟨E_party_count, (He.glo_ok KX G (c.t.d.fact 21 (f := .glo "party_count") rfl)), B_party_count⟩
  obtain ⟨fd_with_chiefs, U_with_chiefs⟩ := c.t.d.def_ 22 (d := ⟨("with_chiefs", none), "with_chiefs", "with_chiefs", defArgs s_with_chiefs, defBody s_with_chiefs, defScope s_with_chiefs, [], []⟩) rfl
  have B_with_chiefs := FunD.bindsN (ps := ["chart"]) U_with_chiefs fun _ _ _ _ _ _ us hl => match us, hl with | [_], _ => rfl
  obtain ⟨cdv_with_chiefs, E_with_chiefs⟩ := fc_of (st := s_with_chiefs) U_with_chiefs
  have D_with_chiefs : DefC K mg "with_chiefs" s_with_chiefs _ fd_with_chiefs _ ["chart"] := ⟨E_with_chiefs, (He.glo_ok KX G (c.t.d.fact 22 (f := .glo "with_chiefs") rfl)), B_with_chiefs⟩
  obtain ⟨fd_party_paper, U_party_paper⟩ := c.t.d.def_ 23 (d := ⟨("party_paper", none), "party_paper", "party_paper", defArgs s_party_paper, defBody s_party_paper, defScope s_party_paper, [], []⟩) rfl
  have B_party_paper := FunD.bindsN (ps := ["chart", "gains"]) U_party_paper fun _ _ _ _ _ _ us hl => match us, hl with | [_, _], _ => rfl
  obtain ⟨cdv_party_paper, E_party_paper⟩ := fc_of (st := s_party_paper) U_party_paper
  have D_party_paper : DefC K mg "party_paper" s_party_paper _ fd_party_paper _ ["chart", "gains"] := ⟨E_party_paper, (He.glo_ok KX G (c.t.d.fact 23 (f := .glo "party_paper") rfl)), B_party_paper⟩
  obtain ⟨fd_are_numbers, U_are_numbers⟩ := c.t.d.def_ 24 (d := ⟨("are_numbers", none), "are_numbers", "are_numbers", defArgs s_are_numbers, defBody s_are_numbers, defScope s_are_numbers, [], []⟩) rfl
  have B_are_numbers := FunD.bindsN (ps := ["many", "value"]) U_are_numbers fun _ _ _ _ _ _ us hl => match us, hl with | [_, _], _ => rfl
  obtain ⟨cdv_are_numbers, E_are_numbers⟩ := fc_of (st := s_are_numbers) U_are_numbers
  obtain rfl := code_of E_are_numbers
  have D_are_numbers : DefC K mg "are_numbers" s_are_numbers _ fd_are_numbers _ ["many", "value"] := ⟨E_are_numbers, (He.glo_ok KX G (c.t.d.fact 24 (f := .glo "are_numbers") rfl)), B_are_numbers⟩
  obtain ⟨fd_shows_party_paper, U_shows_party_paper⟩ := c.t.d.def_ 25 (d := ⟨("shows_party_paper", none), "shows_party_paper", "shows_party_paper", defArgs s_shows_party_paper, defBody s_shows_party_paper, defScope s_shows_party_paper, [], []⟩) rfl
  have B_shows_party_paper := FunD.bindsN (ps := ["chart", "gains", "value"]) U_shows_party_paper fun _ _ _ _ _ _ us hl => match us, hl with | [_, _, _], _ => rfl
  obtain ⟨cdv_shows_party_paper, E_shows_party_paper⟩ := fc_of (st := s_shows_party_paper) U_shows_party_paper
  have D_shows_party_paper : DefC K mg "shows_party_paper" s_shows_party_paper _ fd_shows_party_paper _ ["chart", "gains", "value"] := ⟨E_shows_party_paper, (He.glo_ok KX G (c.t.d.fact 25 (f := .glo "shows_party_paper") rfl)), B_shows_party_paper⟩
  obtain ⟨fd_watches, U_watches⟩ := c.t.d.def_ 26 (d := ⟨("watches", none), "watches", "watches", defArgs s_watches, defBody s_watches, defScope s_watches, [], []⟩) rfl
  have B_watches := FunD.bindsN (ps := ["chart", "lot"]) U_watches fun _ _ _ _ _ _ us hl => match us, hl with | [_, _], _ => rfl
  obtain ⟨cdv_watches, E_watches⟩ := fc_of (st := s_watches) U_watches
  obtain rfl := code_of E_watches
  have D_watches : DefC K mg "watches" s_watches _ fd_watches _ ["chart", "lot"] := ⟨E_watches, (He.glo_ok KX G (c.t.d.fact 26 (f := .glo "watches") rfl)), B_watches⟩
  obtain ⟨fd_fewest_watchers, U_fewest_watchers⟩ := c.t.d.def_ 27 (d := ⟨("fewest_watchers", none), "fewest_watchers", "fewest_watchers", defArgs s_fewest_watchers, defBody s_fewest_watchers, defScope s_fewest_watchers, [], []⟩) rfl
  have B_fewest_watchers := FunD.bindsN (ps := ["chart"]) U_fewest_watchers fun _ _ _ _ _ _ us hl => match us, hl with | [_], _ => rfl
  obtain ⟨cdv_fewest_watchers, E_fewest_watchers⟩ := fc_of (st := s_fewest_watchers) U_fewest_watchers
  have D_fewest_watchers : DefC K mg "fewest_watchers" s_fewest_watchers _ fd_fewest_watchers _ ["chart"] := ⟨E_fewest_watchers, (He.glo_ok KX G (c.t.d.fact 27 (f := .glo "fewest_watchers") rfl)), B_fewest_watchers⟩
  obtain ⟨fd__law_taken, U__law_taken⟩ := c.t.d.def_ 28 (d := ⟨("_law_taken", none), "_law_taken", "_law_taken", defArgs s_taken, defBody s_taken, defScope s_taken, [], []⟩) rfl
  have B__law_taken := FunD.bindsN (ps := ["_law_row_here", "_law_many"]) U__law_taken fun _ _ _ _ _ _ us hl => match us, hl with | [_, _], _ => rfl
  obtain ⟨cdv__law_taken, E__law_taken⟩ := fc_of (st := s_taken) U__law_taken
  have D__law_taken : DefC K mg "_law_taken" s_taken _ fd__law_taken _ ["_law_row_here", "_law_many"] := ⟨E__law_taken, (He.glo_ok KX G (c.t.d.fact 28 (f := .glo "_law_taken") rfl)), B__law_taken⟩
  obtain ⟨fd__law_pick, U__law_pick⟩ := c.t.d.def_ 29 (d := ⟨("_law_pick", none), "_law_pick", "_law_pick", defArgs s_pick, defBody s_pick, defScope s_pick, [], []⟩) rfl
  have B__law_pick := FunD.bindsN (ps := ["_law_row_here", "_law_things"]) U__law_pick fun _ _ _ _ _ _ us hl => match us, hl with | [_, _], _ => rfl
  obtain ⟨cdv__law_pick, E__law_pick⟩ := fc_of (st := s_pick) U__law_pick
  have D__law_pick : DefC K mg "_law_pick" s_pick _ fd__law_pick _ ["_law_row_here", "_law_things"] := ⟨E__law_pick, (He.glo_ok KX G (c.t.d.fact 29 (f := .glo "_law_pick") rfl)), B__law_pick⟩
  obtain ⟨fd__law_alike, U__law_alike⟩ := c.t.d.def_ 30 (d := ⟨("_law_alike", none), "_law_alike", "_law_alike", defArgs s__law_alike, defBody s__law_alike, defScope s__law_alike, [], []⟩) rfl
  have B__law_alike := FunD.bindsN (ps := ["_law_found", "_law_due"]) U__law_alike fun _ _ _ _ _ _ us hl => match us, hl with | [_, _], _ => rfl
  obtain ⟨cdv__law_alike, E__law_alike⟩ := fc_of (st := s__law_alike) U__law_alike
  have D__law_alike : DefC K mg "_law_alike" s__law_alike _ fd__law_alike _ ["_law_found", "_law_due"] := ⟨E__law_alike, (He.glo_ok KX G (c.t.d.fact 30 (f := .glo "_law_alike") rfl)), B__law_alike⟩
  obtain ⟨fd__law_ratio, U__law_ratio⟩ := c.t.d.def_ 31 (d := ⟨("_law_ratio", none), "_law_ratio", "_law_ratio", defArgs s__law_ratio, defBody s__law_ratio, defScope s__law_ratio, [], []⟩) rfl
  have B__law_ratio := FunD.bindsN (ps := ["_law_top", "_law_bottom"]) U__law_ratio fun _ _ _ _ _ _ us hl => match us, hl with | [_, _], _ => rfl
  obtain ⟨cdv__law_ratio, E__law_ratio⟩ := fc_of (st := s__law_ratio) U__law_ratio
  have D__law_ratio : DefC K mg "_law_ratio" s__law_ratio _ fd__law_ratio _ ["_law_top", "_law_bottom"] := ⟨E__law_ratio, (He.glo_ok KX G (c.t.d.fact 31 (f := .glo "_law_ratio") rfl)), B__law_ratio⟩
  obtain ⟨fd__law_plus, U__law_plus⟩ := c.t.d.def_ 32 (d := ⟨("_law_plus", none), "_law_plus", "_law_plus", defArgs s__law_plus, defBody s__law_plus, defScope s__law_plus, [], []⟩) rfl
  have B__law_plus := FunD.bindsN (ps := ["_law_one", "_law_other"]) U__law_plus fun _ _ _ _ _ _ us hl => match us, hl with | [_, _], _ => rfl
  obtain ⟨cdv__law_plus, E__law_plus⟩ := fc_of (st := s__law_plus) U__law_plus
  have D__law_plus : DefC K mg "_law_plus" s__law_plus _ fd__law_plus _ ["_law_one", "_law_other"] := ⟨E__law_plus, (He.glo_ok KX G (c.t.d.fact 32 (f := .glo "_law_plus") rfl)), B__law_plus⟩
  obtain ⟨fd__law_sum, U__law_sum⟩ := c.t.d.def_ 33 (d := ⟨("_law_sum", none), "_law_sum", "_law_sum", defArgs s__law_sum, defBody s__law_sum, defScope s__law_sum, [], []⟩) rfl
  have B__law_sum := FunD.bindsN (ps := ["_law_some"]) U__law_sum fun _ _ _ _ _ _ us hl => match us, hl with | [_], _ => rfl
  obtain ⟨cdv__law_sum, E__law_sum⟩ := fc_of (st := s__law_sum) U__law_sum
  have D__law_sum : DefC K mg "_law_sum" s__law_sum _ fd__law_sum _ ["_law_some"] := ⟨E__law_sum, (He.glo_ok KX G (c.t.d.fact 33 (f := .glo "_law_sum") rfl)), B__law_sum⟩
  obtain ⟨fd__law_less, U__law_less⟩ := c.t.d.def_ 34 (d := ⟨("_law_less", none), "_law_less", "_law_less", defArgs s__law_less, defBody s__law_less, defScope s__law_less, [], []⟩) rfl
  have B__law_less := FunD.bindsN (ps := ["_law_one", "_law_other"]) U__law_less fun _ _ _ _ _ _ us hl => match us, hl with | [_, _], _ => rfl
  obtain ⟨cdv__law_less, E__law_less⟩ := fc_of (st := s__law_less) U__law_less
  have D__law_less : DefC K mg "_law_less" s__law_less _ fd__law_less _ ["_law_one", "_law_other"] := ⟨E__law_less, (He.glo_ok KX G (c.t.d.fact 34 (f := .glo "_law_less") rfl)), B__law_less⟩
  obtain ⟨fd__law_is_ratio, U__law_is_ratio⟩ := c.t.d.def_ 35 (d := ⟨("_law_is_ratio", none), "_law_is_ratio", "_law_is_ratio", defArgs s__law_is_ratio, defBody s__law_is_ratio, defScope s__law_is_ratio, [], []⟩) rfl
  have B__law_is_ratio := FunD.bindsN (ps := ["_law_value"]) U__law_is_ratio fun _ _ _ _ _ _ us hl => match us, hl with | [_], _ => rfl
  obtain ⟨cdv__law_is_ratio, E__law_is_ratio⟩ := fc_of (st := s__law_is_ratio) U__law_is_ratio
  have D__law_is_ratio : DefC K mg "_law_is_ratio" s__law_is_ratio _ fd__law_is_ratio _ ["_law_value"] := ⟨E__law_is_ratio, (He.glo_ok KX G (c.t.d.fact 35 (f := .glo "_law_is_ratio") rfl)), B__law_is_ratio⟩
  obtain ⟨fd__law_chart, U__law_chart⟩ := c.t.d.def_ 36 (d := ⟨("_law_chart", none), "_law_chart", "_law_chart", defArgs s_chart, defBody s_chart, defScope s_chart, [], []⟩) rfl
  have B__law_chart := FunD.bindsN (ps := ["_law_row_here", "_law_size"]) U__law_chart fun _ _ _ _ _ _ us hl => match us, hl with | [_, _], _ => rfl
  obtain ⟨cdv__law_chart, E__law_chart⟩ := fc_of (st := s_chart) U__law_chart
  have D__law_chart : DefC K mg "_law_chart" s_chart _ fd__law_chart _ ["_law_row_here", "_law_size"] := ⟨E__law_chart, (He.glo_ok KX G (c.t.d.fact 36 (f := .glo "_law_chart") rfl)), B__law_chart⟩
  obtain ⟨fd__law_lots, U__law_lots⟩ := c.t.d.def_ 37 (d := ⟨("_law_lots", none), "_law_lots", "_law_lots", defArgs s__law_lots, defBody s__law_lots, defScope s__law_lots, [], []⟩) rfl
  have B__law_lots := FunD.bindsN (ps := ["_law_size"]) U__law_lots fun _ _ _ _ _ _ us hl => match us, hl with | [_], _ => rfl
  obtain ⟨cdv__law_lots, E__law_lots⟩ := fc_of (st := s__law_lots) U__law_lots
  have D__law_lots : DefC K mg "_law_lots" s__law_lots _ fd__law_lots _ ["_law_size"] := ⟨E__law_lots, (He.glo_ok KX G (c.t.d.fact 37 (f := .glo "_law_lots") rfl)), B__law_lots⟩
  obtain ⟨fd__law_is_paper, U__law_is_paper⟩ := c.t.d.def_ 38 (d := ⟨("_law_is_paper", none), "_law_is_paper", "_law_is_paper", defArgs s__law_is_paper, defBody s__law_is_paper, defScope s__law_is_paper, [], []⟩) rfl
  have B__law_is_paper := FunD.bindsN (ps := ["_law_chart_here", "_law_gains", "_law_best", "_law_value"]) U__law_is_paper fun _ _ _ _ _ _ us hl => match us, hl with | [_, _, _, _], _ => rfl
  obtain ⟨cdv__law_is_paper, E__law_is_paper⟩ := fc_of (st := s__law_is_paper) U__law_is_paper
  have D__law_is_paper : DefC K mg "_law_is_paper" s__law_is_paper _ fd__law_is_paper _ ["_law_chart_here", "_law_gains", "_law_best", "_law_value"] := ⟨E__law_is_paper, (He.glo_ok KX G (c.t.d.fact 38 (f := .glo "_law_is_paper") rfl)), B__law_is_paper⟩
  obtain ⟨fd_law, U_law⟩ := c.t.d.def_ 39 (d := ⟨("law", none), "law", "law", defArgs s_law, defBody s_law, defScope s_law, [], []⟩) rfl
  have B_law := FunD.bindsN (ps := ["_law_script"]) U_law fun _ _ _ _ _ _ us hl => match us, hl with | [_], _ => rfl
  obtain ⟨cdv_law, E_law⟩ := fc_of (st := s_law) U_law
  have D_law : DefC K mg "law" s_law _ fd_law _ ["_law_script"] := ⟨E_law, (He.glo_ok KX G (c.t.d.fact 39 (f := .glo "law") rfl)), B_law⟩
  obtain ⟨fd___init__, U___init__⟩ := c.t.d.def_ 40 (d := ⟨("Program", some "__init__"), "__init__", "Program.__init__", defArgs s_init, defBody s_init, defScope s_init, [], []⟩) rfl
  have B___init__ := FunD.bindsN (ps := ["self", "rows", "goals"]) U___init__ fun _ _ _ _ _ _ us hl => match us, hl with | [_, _, _], _ => rfl
  obtain ⟨cdv___init__, E___init__⟩ := fc_of (st := s_init) U___init__
  obtain ⟨fd_turn, U_turn⟩ := c.t.d.def_ 41 (d := ⟨("Program", some "turn"), "turn", "Program.turn", defArgs s_Program_turn, defBody s_Program_turn, defScope s_Program_turn, [], []⟩) rfl
  have B_turn := FunD.bindsN (ps := ["self", "j", "k"]) U_turn fun _ _ _ _ _ _ us hl => match us, hl with | [_, _, _], _ => rfl
  obtain ⟨cdv_turn, E_turn⟩ := fc_of (st := s_Program_turn) U_turn
  have D_turn : MethC K (He.ga K "Program") "turn" "Program.turn" s_Program_turn _ fd_turn _ ["self", "j", "k"] := ⟨E_turn, He.meth_ok (c.t.d.fact 47 (f := .meth "Program" "turn") rfl), B_turn⟩
  obtain ⟨fd_multiplier, U_multiplier⟩ := c.t.d.def_ 42 (d := ⟨("Program", some "multiplier"), "multiplier", "Program.multiplier", defArgs s_Program_multiplier, defBody s_Program_multiplier, defScope s_Program_multiplier, [], []⟩) rfl
  have B_multiplier := FunD.bindsN (ps := ["self", "costs", "k"]) U_multiplier fun _ _ _ _ _ _ us hl => match us, hl with | [_, _, _], _ => rfl
  obtain ⟨cdv_multiplier, E_multiplier⟩ := fc_of (st := s_Program_multiplier) U_multiplier
  have D_multiplier : MethC K (He.ga K "Program") "multiplier" "Program.multiplier" s_Program_multiplier _ fd_multiplier _ ["self", "costs", "k"] := ⟨E_multiplier, He.meth_ok (c.t.d.fact 48 (f := .meth "Program" "multiplier") rfl), B_multiplier⟩
  obtain ⟨fd_rising, U_rising⟩ := c.t.d.def_ 43 (d := ⟨("Program", some "rising"), "rising", "Program.rising", defArgs s_Program_rising, defBody s_Program_rising, defScope s_Program_rising, [], []⟩) rfl
  have B_rising := FunD.bindsN (ps := ["self", "costs", "columns"]) U_rising fun _ _ _ _ _ _ us hl => match us, hl with | [_, _, _], _ => rfl
  obtain ⟨cdv_rising, E_rising⟩ := fc_of (st := s_Program_rising) U_rising
  have D_rising : MethC K (He.ga K "Program") "rising" "Program.rising" s_Program_rising _ fd_rising _ ["self", "costs", "columns"] := ⟨E_rising, He.meth_ok (c.t.d.fact 49 (f := .meth "Program" "rising") rfl), B_rising⟩
  obtain ⟨fd_climb, U_climb⟩ := c.t.d.def_ 44 (d := ⟨("Program", some "climb"), "climb", "Program.climb", defArgs s_Program_climb, defBody s_Program_climb, defScope s_Program_climb, [], []⟩) rfl
  have B_climb := FunD.bindsN (ps := ["self", "costs", "columns"]) U_climb fun _ _ _ _ _ _ us hl => match us, hl with | [_, _, _], _ => rfl
  obtain ⟨cdv_climb, E_climb⟩ := fc_of (st := s_Program_climb) U_climb
  have D_climb : MethC K (He.ga K "Program") "climb" "Program.climb" s_Program_climb _ fd_climb _ ["self", "costs", "columns"] := ⟨E_climb, He.meth_ok (c.t.d.fact 50 (f := .meth "Program" "climb") rfl), B_climb⟩
  obtain ⟨fd_leave_help, U_leave_help⟩ := c.t.d.def_ 45 (d := ⟨("Program", some "leave_help"), "leave_help", "Program.leave_help", defArgs s_Program_leave_help, defBody s_Program_leave_help, defScope s_Program_leave_help, [], []⟩) rfl
  have B_leave_help := FunD.bindsN (ps := ["self"]) U_leave_help fun _ _ _ _ _ _ us hl => match us, hl with | [_], _ => rfl
  obtain ⟨cdv_leave_help, E_leave_help⟩ := fc_of (st := s_Program_leave_help) U_leave_help
  have D_leave_help : MethC K (He.ga K "Program") "leave_help" "Program.leave_help" s_Program_leave_help _ fd_leave_help _ ["self"] := ⟨E_leave_help, He.meth_ok (c.t.d.fact 51 (f := .meth "Program" "leave_help") rfl), B_leave_help⟩
  obtain ⟨fd_amounts, U_amounts⟩ := c.t.d.def_ 46 (d := ⟨("Program", some "amounts"), "amounts", "Program.amounts", defArgs s_Program_amounts, defBody s_Program_amounts, defScope s_Program_amounts, [], []⟩) rfl
  have B_amounts := FunD.bindsN (ps := ["self"]) U_amounts fun _ _ _ _ _ _ us hl => match us, hl with | [_], _ => rfl
  obtain ⟨cdv_amounts, E_amounts⟩ := fc_of (st := s_Program_amounts) U_amounts
  have D_amounts : MethC K (He.ga K "Program") "amounts" "Program.amounts" s_Program_amounts _ fd_amounts _ ["self"] := ⟨E_amounts, He.meth_ok (c.t.d.fact 52 (f := .meth "Program" "amounts") rfl), B_amounts⟩
  obtain ⟨fd_prices, U_prices⟩ := c.t.d.def_ 47 (d := ⟨("Program", some "prices"), "prices", "Program.prices", defArgs s_Program_prices, defBody s_Program_prices, defScope s_Program_prices, [], []⟩) rfl
  have B_prices := FunD.bindsN (ps := ["self", "costs"]) U_prices fun _ _ _ _ _ _ us hl => match us, hl with | [_, _], _ => rfl
  obtain ⟨cdv_prices, E_prices⟩ := fc_of (st := s_Program_prices) U_prices
  have D_prices : MethC K (He.ga K "Program") "prices" "Program.prices" s_Program_prices _ fd_prices _ ["self", "costs"] := ⟨E_prices, He.meth_ok (c.t.d.fact 53 (f := .meth "Program" "prices") rfl), B_prices⟩
  refine ⟨fd_law, fun s v => FunD.bindsA (ps := ["_law_script"]) U_law (fun _ _ _ _ _ _ us hl => match us, hl with | [_], _ => rfl) s [v] rfl, fun base hKb hNb hT => ?_⟩
  have TB_is_chart : TabB base mg (He.cT K ("is_chart", none)).1 (He.cT K ("is_chart", none)).2 := (fun t => ⟨t.code, t.bm, t.gP⟩) (hT _ (List.mem_map.mpr ⟨("is_chart", none), List.mem_of_getElem? (i := 0) rfl, rfl⟩))
  have hP_is_chart : (He.cT K ("is_chart", none)).2 ∈ hd_T K := List.mem_map.mpr ⟨("is_chart", none), List.mem_of_getElem? (i := 0) rfl, rfl⟩
  have TB_are_people : TabB base mg (He.cT K ("are_people", none)).1 (He.cT K ("are_people", none)).2 := (fun t => ⟨t.code, t.bm, t.gP⟩) (hT _ (List.mem_map.mpr ⟨("are_people", none), List.mem_of_getElem? (i := 1) rfl, rfl⟩))
  have hP_are_people : (He.cT K ("are_people", none)).2 ∈ hd_T K := List.mem_map.mpr ⟨("are_people", none), List.mem_of_getElem? (i := 1) rfl, rfl⟩
  have TB_is_ratio : TabB base mg (He.cT K ("is_ratio", none)).1 (He.cT K ("is_ratio", none)).2 := (fun t => ⟨t.code, t.bm, t.gP⟩) (hT _ (List.mem_map.mpr ⟨("is_ratio", none), List.mem_of_getElem? (i := 2) rfl, rfl⟩))
  have hP_is_ratio : (He.cT K ("is_ratio", none)).2 ∈ hd_T K := List.mem_map.mpr ⟨("is_ratio", none), List.mem_of_getElem? (i := 2) rfl, rfl⟩
  have TB_need_gains : TabB base mg (He.cT K ("need_gains", none)).1 (He.cT K ("need_gains", none)).2 := (fun t => ⟨t.code, t.bm, t.gP⟩) (hT _ (List.mem_map.mpr ⟨("need_gains", none), List.mem_of_getElem? (i := 3) rfl, rfl⟩))
  have hP_need_gains : (He.cT K ("need_gains", none)).2 ∈ hd_T K := List.mem_map.mpr ⟨("need_gains", none), List.mem_of_getElem? (i := 3) rfl, rfl⟩
  have TB_is_party : TabB base mg (He.cT K ("is_party", none)).1 (He.cT K ("is_party", none)).2 := (fun t => ⟨t.code, t.bm, t.gP⟩) (hT _ (List.mem_map.mpr ⟨("is_party", none), List.mem_of_getElem? (i := 4) rfl, rfl⟩))
  have hP_is_party : (He.cT K ("is_party", none)).2 ∈ hd_T K := List.mem_map.mpr ⟨("is_party", none), List.mem_of_getElem? (i := 4) rfl, rfl⟩
  have TB_gain_of : TabB base mg (He.cT K ("gain_of", none)).1 (He.cT K ("gain_of", none)).2 := (fun t => ⟨t.code, t.bm, t.gP⟩) (hT _ (List.mem_map.mpr ⟨("gain_of", none), List.mem_of_getElem? (i := 5) rfl, rfl⟩))
  have hP_gain_of : (He.cT K ("gain_of", none)).2 ∈ hd_T K := List.mem_map.mpr ⟨("gain_of", none), List.mem_of_getElem? (i := 5) rfl, rfl⟩
  have TB_are_numbers : TabB base mg (He.cT K ("are_numbers", none)).1 (He.cT K ("are_numbers", none)).2 := (fun t => ⟨t.code, t.bm, t.gP⟩) (hT _ (List.mem_map.mpr ⟨("are_numbers", none), List.mem_of_getElem? (i := 6) rfl, rfl⟩))
  have hP_are_numbers : (He.cT K ("are_numbers", none)).2 ∈ hd_T K := List.mem_map.mpr ⟨("are_numbers", none), List.mem_of_getElem? (i := 6) rfl, rfl⟩
  have TB_watches : TabB base mg (He.cT K ("watches", none)).1 (He.cT K ("watches", none)).2 := (fun t => ⟨t.code, t.bm, t.gP⟩) (hT _ (List.mem_map.mpr ⟨("watches", none), List.mem_of_getElem? (i := 7) rfl, rfl⟩))
  have hP_watches : (He.cT K ("watches", none)).2 ∈ hd_T K := List.mem_map.mpr ⟨("watches", none), List.mem_of_getElem? (i := 7) rfl, rfl⟩
  have c_is_in := ok_is_in (P := P) (w := w) (base := base) (T := hd_T K) b D_is_in
  have c_comes_up := ok_comes_up (P := P) (w := w) (base := base) (T := hd_T K) b D_comes_up
  have c_is_chart := ok_is_chart (P := P) (w := w) (base := base) (T := hd_T K) b TB_is_chart hP_is_chart c_is_in c_comes_up D_is_chart
  have c_need_chart := ok_need_chart (P := P) (w := w) (base := base) (T := hd_T K) b c_is_chart D_need_chart
  have c_are_people := ok_are_people (P := P) (w := w) (base := base) (T := hd_T K) b TB_are_people hP_are_people c_is_in D_are_people
  have c_lots_of := ok_lots_of (P := P) (w := w) (base := base) (T := hd_T K) b D_lots_of
  have c_ratio := ok_ratio (P := P) (w := w) (base := base) (T := hd_T K) b D_ratio
  have c_plus := ok_plus (P := P) (w := w) (base := base) (T := hd_T K) b c_ratio D_plus
  have c_minus := ok_minus (P := P) (w := w) (base := base) (T := hd_T K) b c_ratio D_minus
  have c_by := ok_by (P := P) (w := w) (base := base) (T := hd_T K) b c_ratio D_by
  have c_over := ok_over (P := P) (w := w) (base := base) (T := hd_T K) b c_ratio D_over
  have c_less := ok_less (P := P) (w := w) (base := base) (T := hd_T K) b D_less
  have c_sum_of := ok_sum_of (P := P) (w := w) (base := base) (T := hd_T K) b c_plus D_sum_of
  have c_is_ratio := ok_is_ratio (P := P) (w := w) (base := base) (T := hd_T K) b TB_is_ratio hP_is_ratio D_is_ratio
  have m_turn := ok_Program_turn (P := P) (w := w) (base := base) (T := hd_T K) b cl c_over c_minus c_by D_turn
  have m_multiplier := ok_Program_multiplier (P := P) (w := w) (base := base) (T := hd_T K) b cl c_sum_of c_by D_multiplier
  have m_rising := ok_Program_rising (P := P) (w := w) (base := base) (T := hd_T K) b cl c_less m_multiplier D_rising
  have m_climb := ok_Program_climb (P := P) (w := w) (base := base) (T := hd_T K) b cl c_over c_less m_rising m_turn D_climb
  have m_leave_help := ok_Program_leave_help (P := P) (w := w) (base := base) (T := hd_T K) b cl m_turn D_leave_help
  have m_amounts := ok_Program_amounts (P := P) (w := w) (base := base) (T := hd_T K) b cl D_amounts
  have m_prices := ok_Program_prices (P := P) (w := w) (base := base) (T := hd_T K) b cl c_by m_multiplier D_prices
  have mk : MakI P w K mg base (He.ga K "Program") (hd_T K) 3 := ⟨_, fd___init__, ["self", "rows", "goals"], He.mkr_ok (c.t.d.fact 42 (f := .mkr "Program") rfl), ok_init b cl c_by E___init__, (He.glo_ok KX G (c.t.d.fact 40 (f := .glo "Program") rfl)), B___init__⟩
  have c_need_gains := ok_need_gains (P := P) (w := w) (base := base) (T := hd_T K) b TB_need_gains hP_need_gains c_need_chart c_is_in D_need_gains
  have c_is_party := ok_is_party (P := P) (w := w) (base := base) (T := hd_T K) b TB_is_party hP_is_party D_is_party
  have c_gain_of := ok_gain_of (P := P) (w := w) (base := base) (T := hd_T K) b TB_gain_of hP_gain_of D_gain_of
  have c_best_of := ok_best_of (P := P) (w := w) (base := base) (T := hd_T K) b c_lots_of c_gain_of c_is_party D_best_of
  have c_best_party := ok_best_party (P := P) (w := w) (base := base) (T := hd_T K) b c_need_gains c_best_of D_best_party
  have c_shows_best_party := ok_shows_best_party (P := P) (w := w) (base := base) (T := hd_T K) b c_need_gains c_best_of c_is_in c_are_people c_is_party c_gain_of D_shows_best_party
  have c_party_count := ok_party_count (P := P) (w := w) (base := base) (T := hd_T K) b c_need_chart c_lots_of c_is_party D_party_count
  have c_with_chiefs := ok_with_chiefs (P := P) (w := w) (base := base) (T := hd_T K) b D_with_chiefs
  have c_are_numbers := ok_are_numbers (P := P) (w := w) (base := base) (T := hd_T K) b TB_are_numbers hP_are_numbers c_is_ratio D_are_numbers
  have c_shows_party_paper := ok_shows_party_paper (P := P) (w := w) (base := base) (T := hd_T K) b c_need_gains c_with_chiefs c_are_numbers c_less c_sum_of c_best_of D_shows_party_paper
  have c_watches := ok_watches (P := P) (w := w) (base := base) (T := hd_T K) b TB_watches hP_watches D_watches
  have c_fewest_watchers := ok_fewest_watchers (P := P) (w := w) (base := base) (T := hd_T K) b c_need_chart c_lots_of c_watches D_fewest_watchers
  have c_solved := ok_solved (P := P) (w := w) (base := base) (T := hd_T K) b cl mk m_climb m_multiplier m_prices m_leave_help m_amounts D_solved
  have c_party_paper := ok_party_paper (P := P) (w := w) (base := base) (T := hd_T K) b c_need_gains c_with_chiefs c_solved D_party_paper
  have c__law_alike := ok__law_alike (P := P) (w := w) (base := base) (T := hd_T K) b D__law_alike
  have c__law_ratio := ok__law_ratio (P := P) (w := w) (base := base) (T := hd_T K) b D__law_ratio
  have c__law_plus := ok__law_plus (P := P) (w := w) (base := base) (T := hd_T K) b c__law_ratio D__law_plus
  have c__law_sum := ok__law_sum (P := P) (w := w) (base := base) (T := hd_T K) b c__law_plus D__law_sum
  have c__law_less := ok__law_less (P := P) (w := w) (base := base) (T := hd_T K) b D__law_less
  have c__law_is_ratio := ok__law_is_ratio (P := P) (w := w) (base := base) (T := hd_T K) b c__law_ratio D__law_is_ratio
  have c__law_lots := ok__law_lots (P := P) (w := w) (base := base) (T := hd_T K) b D__law_lots
  have c__law_is_paper := ok__law_is_paper (P := P) (w := w) (base := base) (T := hd_T K) b c__law_is_ratio c__law_less c__law_sum D__law_is_paper
  have s_taken := cal_s (x := "_law_taken") (ok_taken (P := P) (w := w) (base := base) b E__law_taken) (He.glo_ok KX G (c.t.d.fact 28 (f := .glo "_law_taken") rfl)) E__law_taken.kp B__law_taken
  have s_pick := cal_s (x := "_law_pick") (ok_pick (P := P) (w := w) (base := base) b s_taken E__law_pick) (He.glo_ok KX G (c.t.d.fact 29 (f := .glo "_law_pick") rfl)) E__law_pick.kp B__law_pick
  have s_chart := cal_s (x := "_law_chart") (ok_chart (P := P) (w := w) (base := base) (T := hd_T K) b s_pick E__law_chart) (He.glo_ok KX G (c.t.d.fact 36 (f := .glo "_law_chart") rfl)) E__law_chart.kp B__law_chart
  exact ok_law math b s_taken s_chart (fun cdv A outer s H E hr => ok_law_rest b c__law_lots c_party_paper c_best_party c__law_alike c_party_count c_shows_best_party c__law_is_paper c__law_plus c_shows_party_paper c_fewest_watchers A outer s H E hr) E_law
end CD
end
section
set_option maxHeartbeats 0
open PySem PySem.W PySem.Calls PyProof.Rows
theorem CD.holds_of (math : CD.LawMath) : PySem.Challenge.rw_chiefdeeds_k19_whole_parties.Holds := by
  w_on; o_law
  refine HandSHeadRun.head_imp (r := CD.R) (q := view CD.R.prog [0, 62]) (H := CD.hk) (ob := CD.ob) (M := 4000) (loose := CD.hd_loose) (d := HandSHeadRun.topDef CD.R.prog 62) (kwd := []) CD.ob_eq CD.run
    (by kernel_rfl) (by kernel_rfl) (by kernel_rfl) (by rfl) (by first | assumption | decide +kernel) (by decide +kernel) ⟨rfl, rfl, rfl, rfl, rfl, by decide +kernel⟩ ?hw ?hc
  case hw => w_witness2
  case hc =>
    refine LamX.walk_ofTsE (l := PySem.Challenge.rw_chiefdeeds_k19_whole_parties) (n := 63) (k := 10) (x := "_law_script") (CX := fun _ => L2.CX0) rfl (by decide) (by kernel_rfl) ⟨rfl, by decide, by decide⟩ ?F (fun _ _ _ _ _ z => z)
    intro w mg fa h Y G hmg0
    obtain ⟨K, KX, c⟩ := Y
    have hmg : mg ("law" : PySem.Str) = some (.ref fa) := by
      have e : (HandSHeadRun.topDef CD.R.prog 62).name = ("law" : PySem.Str) := by kernel_rfl
      rw [← e]
      exact hmg0
    obtain ⟨fd, hb, hF⟩ := CD.facts math (P := (PySem.Challenge.rw_chiefdeeds_k19_whole_parties).prog) (w := w) KX G hmg c
    refine ⟨K, KX, fd, CD.hd_tf.map (He.cT K), CD.spLaw K (CD.hd_T K), fun p hp => ?_, fun p hp => ?_, fun p hp => ?_, hb, fun H a ns hl _ hH hS => ⟨a, ns, rfl, hS, fun P hP => ?_, fun _ => rfl⟩, hF⟩
    · obtain ⟨d, hd, rfl⟩ := List.mem_map.mp hp
      exact c.empty d hd
    · obtain ⟨d, hd, rfl⟩ := List.mem_map.mp hp
      exact c.out d hd
    · obtain ⟨d, hd, rfl⟩ := List.mem_map.mp hp
      exact codeHd_of_K KX (c.hd d hd)
    · obtain ⟨d, hd, rfl⟩ := List.mem_map.mp hP
      exact ⟨#[], hH _ (List.mem_map.mpr ⟨d, hd, rfl⟩), by first | trivial | exact .nil | rfl | (intro _ h; cases h)⟩
end
section
open PySem PySem.W PyProof.Rows
theorem PySem.Challenge.cw_chiefdeeds_k19_whole_parties_holds : PySem.Challenge.rw_chiefdeeds_k19_whole_parties.Holds := by
  exact CD.holds_of CD.law_math
end
