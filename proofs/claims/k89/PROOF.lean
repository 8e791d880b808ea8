import PyProof.Rows.All
import HandS.ForMost
import HandS.AnyAll
import HandS.GenOver
import HandS.TupAny
import HandS.Style
import HandS.IsInst
import HandS.Text
import HandS.Strs
import HandS.More
import KE.GoesMore
import HandS.EndTab
import HandS.Codes
import HandS.Defaults
import HandS.HeadHook4
import HandS.HeadWalk
import PySem.Challenge.RW_nevernot_k89_slices_there_and_back
import Lean
import HandS.Head0
import HandS.Head1
import HandS.Head2
import HandS.HeadEnd
import HandS.HeadHook1
import HandS.HeadHook2
import HandS.HeadHook3
import HandS.NestedK
set_option Elab.async false
set_option linter.all false
set_option maxRecDepth 100000
set_option maxHeartbeats 0
/-! all(..), any(..) over a generator expression whose element may call defs of the program -/
namespace GX
open PySem PySem.Spec PyProof.Rows L2 GenW GxR

/-- the heap as it was, the table of generators bare -/
structure Slp (s s' : Shared) : Prop where
  os : s'.os = s.os
  bare : AllBare s'.gens
  heap : s'.heap = s.heap

theorem bare_set {s : Shared} {g : Nat} {x : GenState} (h : AllBare s.gens) (hx : x.bare = true) : AllBare (s.setGen g x).gens := fun y hy => by
  obtain ⟨i, hi, e⟩ := Array.mem_iff_getElem.mp hy
  have hi' : i < s.gens.size := by
    have q : (s.setGen g x).gens.size = s.gens.size := setGen_size s g x
    rw [q] at hi; exact hi
  by_cases z : i = g
  · subst z
    have q : (s.setGen i x).gens[i]? = some x := by
      show (s.gens.setIfInBounds i x)[i]? = some x
      simp [hi']
    have q2 : (s.setGen i x).gens[i]? = some y := by rw [Array.getElem?_eq_getElem hi, e]
    rw [q] at q2; cases q2; exact hx
  · have q : (s.setGen g x).gens[i]? = s.gens[i]? := by
      show (s.gens.setIfInBounds g x)[i]? = _
      rw [Array.getElem?_setIfInBounds_ne (Ne.symm z)]
    have q2 : s.gens[i]? = some y := by rw [← q, Array.getElem?_eq_getElem hi, e]
    exact h y (Array.mem_of_getElem? q2)
theorem set_at {s : Shared} {g : Nat} {x : GenState} (h : g < s.gens.size) : (s.setGen g x).gens[g]? = some x := by
  show (s.gens.setIfInBounds g x)[g]? = some x
  simp [h]

/-- the same heap: the invariant stays -/
theorem slept {X : Cx} {pins : List (Addr × Obj)} {σ : L2.St} {H : Hp} {s s' : Shared} (I : Inv X pins σ H s) (z : Slp s s') : Inv X pins σ H s' := by
  refine I.call' (ch := []) z.os (Un.kept fun b o e => by rw [z.heap]; exact e) (I.hok.kept fun b o e => by rw [z.heap]; exact e) z.bare fun b hb => ?_
  simp at hb

/-- the context of a generator expression's frame -/
abbrev gCx (X : Cx) (s : Shared) (H : Hp) (cenv : Env) (fp : List Addr) (pn : List (Addr × Obj)) : Cx :=
  { X with A := (X.A.in1.in1).deeper cenv, s_0 := s, H_0 := H, env := cenv, outer := X.stack, stack := cenv :: X.stack, ex := fp, fn := fun _ => false, pn := pn, xe := fun _ _ => False }

theorem room_gen {k : Nat} {X : Cx} {s : Shared} {H : Hp} {cenv : Env} {fp : List Addr} {pn : List (Addr × Obj)} (r : Room (k + 1) X.A) : Room k (gCx X s H cenv fp pn).A :=
  ⟨r.hd, by have := r.dp; show X.A.depth + 1 + 3 * k + 5 < _; omega, by have := r.un; show X.A.units + 1 + 1 + 3 + 16 * k + 200 < _; omega⟩

theorem over_gen {A : Around} {elt target iter : Expr} {ifs : List Expr} {scope : Scope} {pos : Pos} {it acc : Value} {env : Env} :
    A.over (.compLoop (.GeneratorExp elt [⟨target, iter, ifs, 0⟩] scope pos) 0 it acc env) [] = A.deeper env := by
  first
    | rfl
    | (obtain ⟨hd, d, fr, gs, u⟩ := A; simp [Around.over, Around.deeper, marksOver, frameCount, unitsOf, envsOf, guardsOf, pushEnvs, pushGuards, Code.envs, Code.env?, Code.isFrame, Code.guards, Code.isGuard, Code.weight, Code.frames, Code.isCreation, Code.isCaller, Code.cUnits])
theorem over_gen0 {A : Around} {elt target iter : Expr} {ifs : List Expr} {scope : Scope} {pos : Pos} {it acc : Value} {env : Env} :
    A.over (.compStart (.GeneratorExp elt [⟨target, iter, ifs, 0⟩] scope pos) 0 it acc env) [] = A.deeper env := by
  first
    | rfl
    | (obtain ⟨hd, d, fr, gs, u⟩ := A; simp [Around.over, Around.deeper, marksOver, frameCount, unitsOf, envsOf, guardsOf, pushEnvs, pushGuards, Code.envs, Code.env?, Code.isFrame, Code.guards, Code.isGuard, Code.weight, Code.frames, Code.isCreation, Code.isCaller, Code.cUnits])

section
variable {X : Cx} {pins : List (Addr × Obj)} {σ : L2.St} {H : Hp} {s : Shared}

/-- the frame of a generator expression as it begins -/
theorem gen_start {scope : Scope} {own : List (Str × Nat)} {fp : List Addr} {cenv : Env} {s5 : Shared} {a : Addr} {go : Obj} {m0 : Str → Option Value} (I : Inv X pins σ H s) (ok : BlkOk X.N X.env.scope scope own) (hN : X.N.Nodup)
    (hcell : ∀ y ∈ scope.names, y.2 ≠ .cell)
    (hfp : ∀ b ∈ fp, FpOk X pins H b ∧ b < s.heap.objs.size) (hsc : cenv.scope = scope) (hcl : cenv.cells = cloFrom X.env.cells scope.names []) (hL : cenv.locals = s.heap.objs.size)
    (hfr : cenv.frame = some cenv.locals) (hgl : cenv.globals = X.env.globals) (hbi : cenv.builtins = builtinsNs)
    (kp : ∀ b o, s.heap.get? b = some o → s5.heap.get? b = some o) (hns : s5.heap.Ns cenv.locals m0) (ha : s5.heap.get? a = some go) (hsa : s.heap.objs.size < a) (hgo : ∀ v, go.data ≠ .cell v)
    (os : s5.os = s.os) (hb : AllBare s5.gens) :
    Inv (gCx X s H cenv fp [(a, go)]) [] (wipe σ (own.map (·.2))) H s5 := by
  have hfree : ∀ y ∈ scope.names, y.2 = .free → ∃ c, X.env.cells.lookup y.1 = some c := fun y hy e => by
    rcases ok.free y hy e with k | k
    · exact I.ok.has _ (.inl k)
    · exact I.ok.has _ (.inr k)
  have cm : ∀ {y c}, (y, c) ∈ cloFrom X.env.cells scope.names [] → X.env.cells.lookup y = some c ∧ c < s.heap.objs.size := fun {y c} hm => by
    rcases cloFrom_mem hm with hm | ⟨h1, rfl⟩
    · cases hm
    · obtain ⟨c, hc⟩ := hfree _ h1 rfl
      rw [hc]
      obtain ⟨w, z⟩ := I.cell _ _ hc
      exact ⟨rfl, z.lt⟩
  have mem : ∀ {y c}, cenv.cells.lookup y = some c → X.env.cells.lookup y = some c ∧ c < s.heap.objs.size := fun {y c} e => by
    rw [hcl] at e
    exact cm (PySem.mem_of_lookup e)
  have look : ∀ {y}, scope.names.lookup y = some .free → ∃ c, cenv.cells.lookup y = some c ∧ X.env.cells.lookup y = some c := fun {y} hl => by
    have hy : (y, NameKind.free) ∈ scope.names := PySem.mem_of_lookup hl
    obtain ⟨c', e'⟩ := mem_lookup (cloFrom_has (cells := X.env.cells) (acc := []) hy)
    rw [← hcl] at e'
    exact ⟨c', e', (mem e').1⟩
  have hkn : ∀ y, cenv.kindOf y = scope.names.lookup y := fun y => by unfold Env.kindOf; rw [hsc]
  have nocell : ∀ y, scope.names.lookup y ≠ some .cell := fun y e => hcell _ (PySem.mem_of_lookup e) rfl
  have haH : H a = none := I.hok.fresh (Nat.le_of_lt hsa)
  have okB : (gCx X s H cenv fp [(a, go)]).Ok := by
    refine ⟨I.ok.mod, by show cenv.scope.kind = _; rw [hsc]; exact ok.kind, by show cenv.globals = _; rw [hgl]; exact I.ok.glob, hbi, by show s.heap.objs.size ≤ cenv.locals; rw [hL]; exact Nat.le_refl _,
      fun y z c e1 e2 => I.ok.inj y z c (mem e1).1 (mem e2).1, fun y hy => ?_, (fun y c z _ => Bool.noConfusion (show false = true from z)), fun hc => I.ok.hd hc, ?_, .inr ⟨rfl, hfr⟩, fun b hb' => ⟨?_, fun y c e z => ?_⟩, I.bs, Nat.le_trans I.ok.bsz I.sz, fun b o e hb' => ?_, fun b hb' z => ?_, I.stack, I.stkFree⟩
    · rcases hy with hy | hy
      · exact absurd (by rw [← hkn]; exact hy) (nocell y)
      · obtain ⟨c, e, _⟩ := look (y := y) (by rw [← hkn]; exact hy)
        exact ⟨c, e⟩
    · show ((X.A.in1.in1).deeper cenv).frames = some (cenv :: X.stack)
      exact Around.frames_deeper (show X.A.in1.in1.frames = some X.stack from I.ok.frames)
    · show b ≠ cenv.locals
      rw [hL]; exact Nat.ne_of_lt (hfp b hb').2
    · exact (hfp b hb').1.2.2.2.2.1 y c (mem e).1 z
    · rcases (hfp b hb').1.2.2.2.1 with z | z
      · exact I.ok.noex b o e z
      · exact absurd (Nat.lt_of_lt_of_le (Heap.lt_size e) (Nat.le_trans I.ok.bsz z)) (Nat.lt_irrefl _)
    · rcases List.mem_cons.mp (I.stkSub b z) with z | z
      · exact (hfp b hb').1.2.1 z
      · exact (hfp b hb').1.2.2.1 z
  refine ⟨okB, os, hb, Un.kept kp, ⟨m0, hns, fun i y av e1 e2 e3 => ?_⟩, fun y c e => ?_, ?_, fun y c e => ?_, fun p hp => ?_, I.hok.kept kp, by rw [wipe_length]; exact I.len⟩
  · obtain ⟨e2, hne⟩ := wipe_some e2
    have hfr' : scope.names.lookup y = some .free := by
      have no : ∀ k', scope.names.lookup y = some k' → ¬ (k' = .local ∨ k' = .cell) := fun k' e hh => by
        rcases ok.own _ (PySem.mem_of_lookup e) hh with e' | e'
        · obtain ⟨p, hp, hpy⟩ := List.mem_map.mp e'
          have e3 := ok.ix p hp
          have : p.1 = y := hpy
          rw [this] at e3
          exact hne (List.mem_map.mpr ⟨p, hp, nodup_ix hN e3 e1⟩)
        · exact e' (List.mem_of_getElem? e1)
      have e3 : Vis cenv.scope y := e3
      rw [hsc] at e3
      rcases e3 with e3 | e3 | e3
      · exact absurd (.inl rfl) (no _ e3)
      · exact absurd (.inr rfl) (no _ e3)
      · exact e3
    obtain ⟨m, hn, hl⟩ := I.loc
    have hvis : Vis X.env.scope y := (ok.free _ (PySem.mem_of_lookup hfr') rfl).elim (fun k => .inr (.inl k)) (fun k => .inr (.inr k))
    obtain ⟨w, r, q⟩ := hl i y av e1 e2 hvis
    refine ⟨w, r, .inr ⟨.inr (by show cenv.kindOf y = _; rw [hkn]; exact hfr'), ?_⟩⟩
    obtain ⟨c, h1, h2⟩ := look hfr'
    rcases q with ⟨k, _⟩ | ⟨_, c', e', z⟩
    · have k : X.env.scope.names.lookup y = some .local := k
      rcases ok.free _ (PySem.mem_of_lookup hfr') rfl with k' | k' <;> rw [show X.env.scope.names.lookup y = _ from k'] at k <;> cases k
    · rw [h2] at e'; cases e'
      exact ⟨c, h1, z.keeps kp⟩
  · obtain ⟨w, z⟩ := I.cell y c (mem e).1
    exact ⟨w, z.keeps kp⟩
  · show H cenv.locals = none
    rw [hL]; exact I.hok.fresh (Nat.le_refl _)
  · exact I.freeC y c (mem e).1
  · have hp : p ∈ [(a, go)] ++ [] := hp
    rw [List.append_nil] at hp
    rw [List.mem_singleton.mp hp]
    refine ⟨ha, haH, ?_, fun z => ?_, hgo⟩
    · show a ≠ cenv.locals
      rw [hL]; exact Nat.ne_of_gt hsa
    · have z : a ∈ frs X.stack := z
      rcases List.mem_cons.mp (I.stkSub a z) with z | z
      · rw [z] at hsa; exact absurd (Nat.lt_trans hsa I.lt) (Nat.lt_irrefl _)
      · exact absurd z (I.nofs (Nat.le_of_lt hsa))

/-- the running def's table of code objects: found, or grown -/
theorem code_run {c P : Addr} {k : Nat} {q : Str} {scope : Scope} {gpos : Pos} {E : Value → Shared → Prop} {Q : Value → Shared → Prop} (hr : Room k X.A) (TB : TabB X.base X.mg c P) (hcode : X.env.code = .ref c) (I : Inv X pins σ H s) (hT : TabG H P)
    (hQ : ∀ code s' H', Tabbed P H H' → Inv X pins σ H' s' → s'.os = s.os → AllBare s'.gens → s.heap.objs.size ≤ s'.heap.objs.size → (∀ b o, b ≠ P → s.heap.get? b = some o → s'.heap.get? b = some o) → Q code s') :
    wpAny (model X.prog X.w) X.A (genexprCode X.env gpos q scope) Q E s := by
  obtain ⟨ps, hP, ht⟩ := hT
  have hPs : s.heap.get? P = some { cls := .none, data := .fields ps } := I.hok P _ hP
  have cd : PySem.W.CodeHd s.heap c P := TB.code.keeps fun b u e => I.bk b u e
  cases hf : codeAmong gpos ps.toList with
  | none =>
    refine wpAny_genexprCodeX hcode (cd.code hPs ht) (cd.tab hPs) hf fun c' h' tk hx hge hlt hco' _ htab' _ => ?_
    obtain ⟨o1, vs, f1, tf, fl, tg, inF, tx, tt, op, _, _, _, _, _, _, _, _, _, htr, _⟩ := hco'
    have J := inv_tab (more := #[rawInt gpos.line, rawInt gpos.col, .ref c']) (h' := h') (g' := s.gens) (d' := s.drawn) (t' := tk) I hP (fun b u hb e => hx b u hb e) htab'.2 I.bare
    exact hQ _ _ (upd H P (.tbl (ps ++ #[rawInt gpos.line, rawInt gpos.col, .ref c']))) ⟨⟨_, upd_same, htr⟩, fun b hb => upd_ne hb⟩ J rfl I.bare (Nat.le_trans hge (Nat.le_of_lt hlt)) (fun b o hb e => hx b o hb e)
  | some cv =>
    refine wpAny_genexprCode_hit hcode (cd.code hPs ht) hf ?_
    exact hQ _ s H ⟨⟨ps, hP, ht⟩, fun b _ => rfl⟩ I rfl I.bare (Nat.le_refl _) (fun b o _ e => e)
end
end GX

/-! all(..), any(..) over a generator expression whose element may call defs of the program: the run -/
namespace GX
open PySem PySem.Spec PyProof.Rows L2 GenW GxR

def YG (Xg : Cx) (cont : Bool) (Q : VK) : Protocol := fun _ _ v s kap =>
  ∃ b pl σ' H', v = .bool b ∧ Inv Xg pl σ' H' s ∧ (b ≠ cont → Q (.bl b) H') ∧ (b = cont → ∀ s'', Slp s s'' → kap (.send .none) s'')
def PEnd (Xg : Cx) (cont : Bool) (Q : VK) : Nat → Shared → Shared → Prop := fun _ _ s => ∃ pl σ' H', Inv Xg pl σ' H' s ∧ Q (.bl cont) H'

/-- what the turns ask: W by the turn and a measure -/
def Turns (J : It) (g : TG) (te : TE) (vs : List Nat) (cont : Bool) (σ : L2.St) (Q : VK) (W : Nat → Nat → Hp → Prop) : Prop := ∀ i m H, W i m H →
  (J.stop i H ∧ Q (.bl cont) H) ∨ (J.go i H ∧ ∃ Nx : Hp → Prop, (∀ H', Nx H' → ∃ m', m' < m ∧ W (i + 1) m' H') ∧ ∀ x H', J.yld i H x H' → g x (wipe σ vs) H' fun σ2 H2 => wipe σ2 vs = wipe σ vs ∧
    te σ2 H2 fun y H3 => ∃ b, y = .bl b ∧ if b = cont then Nx H3 else Q (.bl b) H3)

section
variable {X : Cx}
theorem gen_loop {s4 : Shared} {H4 : Hp} {cenv : Env} {fp : List Addr} {pn : List (Addr × Obj)} {elt tg iter : Expr} {scope : Scope} {pos : Pos} {it : Addr} {tn : Nat → Heap → Prop} {J : It} {g : TG} {te : TE} {vs : List Nat} {cont : Bool} {σ : L2.St} {Q : VK} {W : Nat → Nat → Hp → Prop}
    (hc : X.calm = true) (T : Turn X.prog X.w X.K tg J fp it tn) (pg : PG (gCx X s4 H4 cenv fp pn) tg g) (pe : PE (gCx X s4 H4 cenv fp pn) elt te) (hco : cenv.scope.isCoroutine = false) (hpn : ∀ p ∈ pn, p.1 ∉ fp)
    (turn : Turns J g te vs cont σ Q W) :
    ∀ (n m i : Nat) (s₀ s : Shared) (H : Hp), m < n → Inv (gCx X s4 H4 cenv fp pn) [] (wipe σ vs) H s → tn i s.heap → (∀ b ∈ fp, H b = none) → W i m H →
      Seg (model X.prog X.w) X.A.in1.in1 (fun n s₀ r s₁ => r = .ok .next ∧ PEnd (gCx X s4 H4 cenv fp pn) cont Q n s₀ s₁) (YG (gCx X s4 H4 cenv fp pn) cont Q) n s₀
        (.compLoop (.GeneratorExp elt [⟨tg, iter, [], 0⟩] scope pos) 0 (.ref it) .none cenv)
        ((model X.prog X.w).den (.compLoop (.GeneratorExp elt [⟨tg, iter, [], 0⟩] scope pos) 0 (.ref it) .none cenv)) [] s := by
  have stat : ∀ {σ' : L2.St} {H' : Hp} {s' : Shared}, Inv (gCx X s4 H4 cenv fp pn) [] σ' H' s' → (∀ b ∈ fp, H' b = none) → ∀ b ∈ fp, FpOk (gCx X s4 H4 cenv fp pn) [] H' b := fun {σ' H' s'} I' hn b hb =>
    ⟨hn b hb, (I'.ok.exf b hb).1, I'.ok.exfs b hb, .inl hb, fun x c e => (I'.ok.exf b hb).2 x c e, fun p hp z => by
      have hp : p ∈ pn ++ [] := hp
      rw [List.append_nil] at hp
      exact hpn p hp (by rw [z]; exact hb)⟩
  intro n
  induction n with
  | zero => intro m i s₀ s H hm; exact absurd hm (Nat.not_lt_zero _)
  | succ k ih =>
    intro m i s₀ s H hm I st nf w
    show Seg _ X.A.in1.in1 _ _ _ s₀ _ ((compTurn (.GeneratorExp elt [⟨tg, iter, [], 0⟩] scope pos) 0 (.ref it) .none cenv).onRaise (leaving cenv)) [] s
    rw [compTurn_gen, Sem.onRaise_eq_wrap]
    refine seg_bind_wrap (wpAny_standAt ?_)
    refine seg_bind_wrap ?_
    rw [over_gen]
    rcases turn i m H w with ⟨stop, qq⟩ | ⟨go, Nx, hNx, step⟩
    · refine thnF (T.done (gCx X s4 H4 cenv fp pn) rfl rfl rfl hc i [] s _ H (fun _ _ => False) I (stat I nf) st stop) fun r s6 ⟨hr, I6⟩ => ?_
      subst hr
      exact seg_end (.ok .next) ⟨rfl, [], _, H, I6, qq⟩
    · refine thnF (T.item (gCx X s4 H4 cenv fp pn) rfl rfl rfl hc i [] s _ H (fun _ _ => False) I (stat I nf) st go) fun r s6 ⟨u, hr, h6⟩ => ?_
      subst hr
      refine seg_bind_wrap ?_
      rw [over_gen]
      refine thnF h6 fun _ s7 ⟨x, H7, I7, r7, y7, st7, n7⟩ => ?_
      have I7' := I7.pinned (stat I7 n7) (T.obj _ _ st7)
      refine seg_bind_wrap ?_
      rw [over_gen]
      refine thnF (pg.run _ s7 _ H7 x u _ I7' r7 (step x H7 y7)) fun _ s8 ⟨σ8, H8, I8, hw8, q8⟩ => ?_
      simp only [List.forIn_nil]
      refine seg_bind_wrap (wpAny_pure ?_)
      simp only [if_true]
      have hy : ∀ v, yieldOut cenv v = yieldValue v := fun v => by simp only [yieldOut, hco, Bool.false_eq_true, if_false]
      simp only [hy]
      rw [Sem.bind_eq_wrap', Sem.bind_eq_wrap', Sem.wrap_wrap, Sem.wrap_wrap]
      refine seg_wrap ?_
      rw [over_gen]
      refine thnF (pe.run _ s8 σ8 H8 _ I8 q8) fun z s10 ⟨yv, H10, I10, r10, b, eb, nx⟩ => ?_
      subst eb
      cases r10
      refine seg_at (seg_yield rfl rfl rfl ⟨b, _, σ8, H10, rfl, I10, fun hne => ?_, fun he s'' hsl => ?_⟩)
      · rw [if_neg hne] at nx; exact nx
      · rw [if_pos he] at nx
        obtain ⟨m', hm', w'⟩ := hNx H10 nx
        have pin' : ∀ b ∈ fp, ∀ o, s7.heap.get? b = some o → s10.heap.get? b = some o ∧ H10 b = none := fun b hb o e =>
          let z := I10.pin (b, o) (List.mem_append_right _ (List.mem_append_right _ (mem_pinsAt hb e)))
          ⟨z.1, z.2.1⟩
        have hl : (wipe σ vs).length = σ8.length := by rw [← hw8, wipe_length]
        have I11 : Inv (gCx X s4 H4 cenv fp pn) [] (wipe σ vs) H10 s10 := (I10.unpinned (pins := [])).weak hl (fun j v e => by
          rw [← hw8] at e
          exact (wipe_some e).1)
        refine seg_again rfl (ih m' (i + 1) s'' s'' H10 (by omega) (slept I11 hsl) (T.keep _ _ _ st7 fun b hb o e => by rw [hsl.heap]; exact (pin' b hb o e).1) (fun b hb => ?_) w')
        obtain ⟨o, e, _⟩ := T.obj _ _ st7 b hb
        exact (pin' b hb o e).2

theorem gen_begin {s4 : Shared} {H4 : Hp} {cenv : Env} {fp : List Addr} {pn : List (Addr × Obj)} {elt tg iter : Expr} {scope : Scope} {pos : Pos} {it : Addr} {tn : Nat → Heap → Prop} {J : It} {g : TG} {te : TE} {vs : List Nat} {cont : Bool} {σ : L2.St} {Q : VK} {W : Nat → Nat → Hp → Prop}
    (hc : X.calm = true) (T : Turn X.prog X.w X.K tg J fp it tn) (pg : PG (gCx X s4 H4 cenv fp pn) tg g) (pe : PE (gCx X s4 H4 cenv fp pn) elt te) (hco : cenv.scope.isCoroutine = false) (hpn : ∀ p ∈ pn, p.1 ∉ fp)
    (turn : Turns J g te vs cont σ Q W) (n m : Nat) (s₀ s : Shared) (H : Hp) (hm : m < n) (I : Inv (gCx X s4 H4 cenv fp pn) [] (wipe σ vs) H s) (st : tn 0 s.heap) (nf : ∀ b ∈ fp, H b = none) (w : W 0 m H) :
      Seg (model X.prog X.w) X.A.in1.in1 (fun n s₀ r s₁ => r = .ok .next ∧ PEnd (gCx X s4 H4 cenv fp pn) cont Q n s₀ s₁) (YG (gCx X s4 H4 cenv fp pn) cont Q) n s₀
        (.compStart (.GeneratorExp elt [⟨tg, iter, [], 0⟩] scope pos) 0 (.ref it) .none cenv)
        ((model X.prog X.w).den (.compStart (.GeneratorExp elt [⟨tg, iter, [], 0⟩] scope pos) 0 (.ref it) .none cenv)) [] s := by
  have loop := gen_loop (iter := iter) (scope := scope) (pos := pos) hc T pg pe hco hpn turn n m 0 s₀ s H hm I st nf w
  show Seg _ X.A.in1.in1 _ _ _ s₀ _ ((compStart (.GeneratorExp elt [⟨tg, iter, [], 0⟩] scope pos) 0 (.ref it) .none cenv).onRaise (leaving cenv)) [] s
  unfold compStart
  rw [Sem.onRaise_eq_wrap]
  show Seg _ X.A.in1.in1 _ _ _ s₀ _ ((ask >>= _).wrap _ _ _ _) [] s
  refine seg_bind_wrap (wpAny_askSetting ?_)
  split
  · exact seg_again rfl loop
  · first
      | exact seg_bind_wrap (wpAny_rule (seg_bind_wrap (wpAny_standAt (seg_bind_wrap (T.self _ 0 s _ _ st (seg_again rfl loop))))))
      | (refine seg_bind_wrap (wpAny_rule ?_); show Seg _ X.A.in1.in1 _ _ _ s₀ _ ((standAt iter.pos >>= _).wrap _ _ _ _) [] s; exact seg_bind_wrap (wpAny_standAt (seg_bind_wrap (T.self _ 0 s _ _ st (seg_again rfl loop)))))
end

/-- the loop of all or any over it -/
theorem drain_all {P : Program} {w : World} {A : Around} {Xg : Cx} {R : Result → Shared → Prop} {a : Addr} {g : Nat} {Q : VK} {go : Obj} (hh : A.handled = none) (hd : A.depth < recursionLimit)
    (hpn : (a, go) ∈ Xg.pn) (hgo : ∀ h : Heap, h.get? a = some go → h.IsGen a g)
    (hend : ∀ s' pl σ' H' b, Inv Xg pl σ' H' s' → Q (.bl b) H' → R (.ok (.ret (.bool b))) s') :
    ∀ (n : Nat) (s : Shared), s.heap.IsGen a g → s.heap.NoLimit →
      (∃ gs, s.gens[g]? = some gs ∧ gs.Goes (model P w) A.in1.in1 (fun n s₀ r s₁ => r = .ok .next ∧ PEnd Xg true Q n s₀ s₁) (YG Xg true Q) n (.send .none) (s.setGen g .running)) →
      codeAny (model P w) A (.builtin "all.loop" ⟨[.ref a], []⟩) R s := by
  have pin : ∀ {pl σ' H' s'}, Inv Xg pl σ' H' s' → s'.heap.IsGen a g := fun {pl σ' H' s'} I => hgo _ (I.pin (a, go) (List.mem_append_left _ hpn)).1
  have regen : ∀ {pl σ' H' s'} {x : GenState}, Inv Xg pl σ' H' s' → x.bare = true → Inv Xg pl σ' H' (s'.setGen g x) := fun {pl σ' H' s' x} I hx => slept I ⟨rfl, bare_set I.bare hx, rfl⟩
  intro n
  induction n with
  | zero =>
    intro s hg hl ⟨gs, hgs, hgo'⟩
    refine codeAny_builtin F.entry_all_loop ?_
    rw [Around.under_plainId F.plain_all_loop _]
    show wpAny _ A.in1 (pyNext (.ref a) >>= _) _ _ s
    refine wpAny_bind (wpAny_pyNext_genexpQ (A := A.in1) hh hl hd hg hgs hgo' (fun v s₁ gs' hbare hv => ?_) (fun s₁ hp h' hk => ?_))
    · obtain ⟨b, pl, σ', H', rfl, I1, q1, q2⟩ := hv
      refine wpAny_bind (wpAny_holding (wpAny_truthy_bool ?_))
      refine wpAny_bind (wpAny_letGo ?_)
      cases b with
      | true => exact False.elim (q2 rfl s₁ ⟨rfl, I1.bare, rfl⟩)
      | false =>
        simp only [Bool.false_eq_true, if_false]
        refine wpAny_bind (wpAny_rule (wpAny_pure ?_))
        exact hend _ pl σ' H' false (regen I1 hbare) (q1 (by decide))
    · obtain ⟨pl, σ', H', I1, q1⟩ := hp
      refine wpAny_bind (wpAny_rule (wpAny_pure ?_))
      exact hend _ pl σ' H' true ((regen I1 rfl).kept (t' := s₁.toks) hk) q1
  | succ n ih =>
    intro s hg hl ⟨gs, hgs, hgo'⟩
    have hgl : g < s.gens.size := (Array.getElem?_eq_some_iff.mp hgs).1
    refine codeAny_builtin F.entry_all_loop ?_
    rw [Around.under_plainId F.plain_all_loop _]
    show wpAny _ A.in1 (pyNext (.ref a) >>= _) _ _ s
    refine wpAny_bind (wpAny_gsz (n := g + 1) hgl (wpAny_mono (wpAny_pyNext_genexpQ (E := fun _ _ => False) (Q := fun r s' => g + 1 ≤ s'.gens.size → _) (A := A.in1) hh hl hd hg hgs hgo' (fun v s₁ gs' hbare hv => ?_) (fun s₁ hp h' hk => ?_)) (fun _ _ z => z) fun _ _ z => z.elim))
    · intro hsz
      obtain ⟨b, pl, σ', H', rfl, I1, q1, q2⟩ := hv
      refine wpAny_bind (wpAny_holding (wpAny_truthy_bool ?_))
      refine wpAny_bind (wpAny_letGo ?_)
      cases b with
      | true =>
        simp only [if_true]
        have hsz1 : g < s₁.gens.size := by
          have q : (s₁.setGen g gs').gens.size = s₁.gens.size := setGen_size _ _ _
          have hsz' : g + 1 ≤ (s₁.setGen g gs').gens.size := hsz
          omega
        refine wpAny_pure ⟨plainId_quiet F.plain_all_loop _, ih (s₁.setGen g gs') (pin (regen I1 hbare)) (regen I1 hbare).nolimit ⟨gs', set_at hsz1, ?_⟩⟩
        exact q2 rfl _ ⟨rfl, bare_set (s := s₁.setGen g gs') (bare_set I1.bare hbare) rfl, rfl⟩
      | false =>
        simp only [Bool.false_eq_true, if_false]
        refine wpAny_bind (wpAny_rule (wpAny_pure ?_))
        exact hend _ pl σ' H' false (regen I1 hbare) (q1 (by decide))
    · intro hsz
      obtain ⟨pl, σ', H', I1, q1⟩ := hp
      refine wpAny_bind (wpAny_rule (wpAny_pure ?_))
      exact hend _ pl σ' H' true ((regen I1 rfl).kept (t' := s₁.toks) hk) q1

theorem drain_any {P : Program} {w : World} {A : Around} {Xg : Cx} {R : Result → Shared → Prop} {a : Addr} {g : Nat} {Q : VK} {go : Obj} (hh : A.handled = none) (hd : A.depth < recursionLimit)
    (hpn : (a, go) ∈ Xg.pn) (hgo : ∀ h : Heap, h.get? a = some go → h.IsGen a g)
    (hend : ∀ s' pl σ' H' b, Inv Xg pl σ' H' s' → Q (.bl b) H' → R (.ok (.ret (.bool b))) s') :
    ∀ (n : Nat) (s : Shared), s.heap.IsGen a g → s.heap.NoLimit →
      (∃ gs, s.gens[g]? = some gs ∧ gs.Goes (model P w) A.in1.in1 (fun n s₀ r s₁ => r = .ok .next ∧ PEnd Xg false Q n s₀ s₁) (YG Xg false Q) n (.send .none) (s.setGen g .running)) →
      codeAny (model P w) A (.builtin "any.loop" ⟨[.ref a], []⟩) R s := by
  have pin : ∀ {pl σ' H' s'}, Inv Xg pl σ' H' s' → s'.heap.IsGen a g := fun {pl σ' H' s'} I => hgo _ (I.pin (a, go) (List.mem_append_left _ hpn)).1
  have regen : ∀ {pl σ' H' s'} {x : GenState}, Inv Xg pl σ' H' s' → x.bare = true → Inv Xg pl σ' H' (s'.setGen g x) := fun {pl σ' H' s' x} I hx => slept I ⟨rfl, bare_set I.bare hx, rfl⟩
  intro n
  induction n with
  | zero =>
    intro s hg hl ⟨gs, hgs, hgo'⟩
    refine codeAny_builtin F.entry_any_loop ?_
    rw [Around.under_plainId F.plain_any_loop _]
    show wpAny _ A.in1 (pyNext (.ref a) >>= _) _ _ s
    refine wpAny_bind (wpAny_pyNext_genexpQ (A := A.in1) hh hl hd hg hgs hgo' (fun v s₁ gs' hbare hv => ?_) (fun s₁ hp h' hk => ?_))
    · obtain ⟨b, pl, σ', H', rfl, I1, q1, q2⟩ := hv
      refine wpAny_bind (wpAny_holding (wpAny_truthy_bool ?_))
      refine wpAny_bind (wpAny_letGo ?_)
      cases b with
      | false => exact False.elim (q2 rfl s₁ ⟨rfl, I1.bare, rfl⟩)
      | true =>
        simp only [if_true]
        refine wpAny_bind (wpAny_rule (wpAny_pure ?_))
        exact hend _ pl σ' H' true (regen I1 hbare) (q1 (by decide))
    · obtain ⟨pl, σ', H', I1, q1⟩ := hp
      refine wpAny_bind (wpAny_rule (wpAny_pure ?_))
      exact hend _ pl σ' H' false ((regen I1 rfl).kept (t' := s₁.toks) hk) q1
  | succ n ih =>
    intro s hg hl ⟨gs, hgs, hgo'⟩
    have hgl : g < s.gens.size := (Array.getElem?_eq_some_iff.mp hgs).1
    refine codeAny_builtin F.entry_any_loop ?_
    rw [Around.under_plainId F.plain_any_loop _]
    show wpAny _ A.in1 (pyNext (.ref a) >>= _) _ _ s
    refine wpAny_bind (wpAny_gsz (n := g + 1) hgl (wpAny_mono (wpAny_pyNext_genexpQ (E := fun _ _ => False) (Q := fun r s' => g + 1 ≤ s'.gens.size → _) (A := A.in1) hh hl hd hg hgs hgo' (fun v s₁ gs' hbare hv => ?_) (fun s₁ hp h' hk => ?_)) (fun _ _ z => z) fun _ _ z => z.elim))
    · intro hsz
      obtain ⟨b, pl, σ', H', rfl, I1, q1, q2⟩ := hv
      refine wpAny_bind (wpAny_holding (wpAny_truthy_bool ?_))
      refine wpAny_bind (wpAny_letGo ?_)
      cases b with
      | false =>
        simp only [Bool.false_eq_true, if_false]
        have hsz1 : g < s₁.gens.size := by
          have q : (s₁.setGen g gs').gens.size = s₁.gens.size := setGen_size _ _ _
          have hsz' : g + 1 ≤ (s₁.setGen g gs').gens.size := hsz
          omega
        refine wpAny_pure ⟨plainId_quiet F.plain_any_loop _, ih (s₁.setGen g gs') (pin (regen I1 hbare)) (regen I1 hbare).nolimit ⟨gs', set_at hsz1, ?_⟩⟩
        exact q2 rfl _ ⟨rfl, bare_set (s := s₁.setGen g gs') (bare_set I1.bare hbare) rfl, rfl⟩
      | true =>
        simp only [if_true]
        refine wpAny_bind (wpAny_rule (wpAny_pure ?_))
        exact hend _ pl σ' H' true (regen I1 hbare) (q1 (by decide))
    · intro hsz
      obtain ⟨pl, σ', H', I1, q1⟩ := hp
      refine wpAny_bind (wpAny_rule (wpAny_pure ?_))
      exact hend _ pl σ' H' false ((regen I1 rfl).kept (t' := s₁.toks) hk) q1
end GX

/-! all(..), any(..) over a generator expression whose element may call defs of the program: the rules -/
namespace GX
open PySem PySem.Spec PyProof.Rows L2 GenW GxR

/-- a generator expression's own scope -/
structure GScp (N : List Str) (sc scope : Scope) (own : List (Str × Nat)) : Prop where
  blk : BlkOk N sc scope own
  co : scope.isCoroutine = false
  cell : ∀ y ∈ scope.names, y.2 ≠ .cell
  dot : scope.names.lookup (".0" : Str) = some NameKind.local
def gscC (N : List Str) (sc scope : Scope) (own : List (Str × Nat)) : Bool :=
  blkC N sc scope own && !scope.isCoroutine && (scope.names.all fun y => match y.2 with | .cell => false | _ => true) && (match scope.names.lookup (".0" : Str) with | some .local => true | _ => false)
theorem gsc_by {N : List Str} {sc scope : Scope} {own : List (Str × Nat)} (h : gscC N sc scope own = true) : GScp N sc scope own := by
  unfold gscC at h
  simp only [Bool.and_eq_true, List.all_eq_true, Bool.not_eq_true'] at h
  obtain ⟨⟨⟨h1, h2⟩, h3⟩, h4⟩ := h
  refine ⟨blkOk_by h1, h2, fun y hy e => ?_, ?_⟩
  · have := h3 y hy
    rw [e] at this
    cases this
  · split at h4
    · assumption
    · cases h4

abbrev gEnv (X : Cx) (scope : Scope) (cl : List (Str × Addr)) (C : Addr) (code : Value) : Env := genEnv scope cl C code builtinsNs X.env

/-- the reading -/
def tGen (cont : Bool) (P : Addr) (wi : TI) (g : TG) (te : TE) (vs : List Nat) : TE := fun σ H Q => wi σ H fun J H1 => TabG H1 P ∧ ∀ H2, Tabbed P H1 H2 → ∃ W : Nat → Nat → Hp → Prop, (∃ m, W 0 m H2) ∧ Turns J g te vs cont σ Q W

section
variable {X : Cx} {pins : List (Addr × Obj)} {σ : L2.St} {H : Hp} {s : Shared}
theorem gen_eval {c P : Addr} {elt tg iter : Expr} {gpos : Pos} {scope : Scope} {own : List (Str × Nat)} {wi : TI} {g : TG} {te : TE} {k : Nat} {cont : Bool} {Q : VK} {Q' : Value → Shared → Prop}
    (hr : Room k X.A) (hcm : X.calm = true) (hN : X.N.Nodup) (TB : TabB X.base X.mg c P) (hcode : X.env.code = .ref c) (S : GScp X.N X.env.scope scope own) (hi : PI X tg iter wi)
    (hg : ∀ (s : Shared) (H : Hp) (C : Addr) (cl : List (Str × Addr)) (code : Value) (fp : List Addr) (pn : List (Addr × Obj)), PG (gCx X s H (gEnv X scope cl C code) fp pn) tg g)
    (he : ∀ (s : Shared) (H : Hp) (C : Addr) (cl : List (Str × Addr)) (code : Value) (fp : List Addr) (pn : List (Addr × Obj)), PE (gCx X s H (gEnv X scope cl C code) fp pn) elt te)
    (hs : ∀ v, genFold iter X.env v = pure v) (I : Inv X pins σ H s) (h : tGen cont P wi g te (own.map (·.2)) σ H Q)
    (hQ : ∀ (a : Addr) (go : Obj) (gi n : Nat) (s5 : Shared) (Xg : Cx), (a, go) ∈ Xg.pn → (∀ h : Heap, h.get? a = some go → h.IsGen a gi) → s5.heap.get? a = some go → s5.heap.NoLimit →
      (∃ gs, s5.gens[gi]? = some gs ∧ gs.Goes (model X.prog X.w) X.A.in1.in1 (fun n s₀ r s₁ => r = .ok .next ∧ PEnd Xg cont Q n s₀ s₁) (YG Xg cont Q) n (.send .none) (s5.setGen gi .running)) →
      (∀ pl σ' H' s', Inv Xg pl σ' H' s' → Inv X pins σ H' s') → Q' (.ref a) s5) :
    wpAny (model X.prog X.w) X.A (eval (.GeneratorExp elt [⟨tg, iter, [], 0⟩] scope gpos) X.env) Q' X.xe s := by
  have hfree : ∀ y ∈ scope.names, y.2 = .free → ∃ c, X.env.cells.lookup y.1 = some c := fun y hy e => by
    rcases S.blk.free y hy e with k | k
    · exact I.ok.has _ (.inl k)
    · exact I.ok.has _ (.inr k)
  refine wpAny_GeneratorExp_make S.co (closure_ok hfree) S.cell S.dot S.blk.kind hr.depth ?_ hs
  refine thn (hi.run pins s σ H _ I h) fun xv s1 hx => thn hx fun itv s2 h2 => ?_
  obtain ⟨it, fp, tn, J, H2, rfl, I2, T, st2, f2, hT, q⟩ := h2
  refine ⟨I2.nolimit, ?_⟩
  refine code_run hr TB hcode I2 hT fun code s3 H3 hTb I3 os3 hb3 sz3 kp3 => ?_
  obtain ⟨bm, ob, e1, e2, e3, e4, e5, e6, e7, e8⟩ := TB.bm
  refine wpAny_builtinsFor (m := X.mg) (by rw [I3.ok.glob]; exact I3.mod.glob.keeps I3.bk) e1 e2 (I3.bk _ _ e5) e6 e7 e8 ?_
  intro h' hn' hs'
  obtain ⟨W, ⟨m0, w0⟩, turn⟩ := q H3 hTb
  have nP : ∀ b ∈ fp, b ≠ P := fun b hb z => by
    obtain ⟨ps, hP, _⟩ := hT
    have := (f2 b hb).1
    rw [z, hP] at this
    cases this
  have hsz : h'.objs.size = s3.heap.objs.size + 1 := by rw [hs'.1, Heap.size_push]
  have keep' : ∀ b o, s3.heap.get? b = some o → h'.get? b = some o := fun b o e => hs'.extBut b o (Nat.ne_of_lt (Heap.lt_size e)) (Heap.get?_push_of_some _ e)
  generalize hgo : ({ cls := .type "generator", data := .fields #[.int s3.gens.size 0, .str "<genexpr>" (s3.toks + 1), .str (X.env.qual ++ "<genexpr>") (s3.toks + 1 + 1)] } : Obj) = go
  have hpush : (h'.push go).get? h'.objs.size = some go := Heap.get?_push_size _ (by rw [← hgo]; rfl)
  have keep5 : ∀ b o, s3.heap.get? b = some o → (h'.push go).get? b = some o := fun b o e => Heap.get?_push_of_some _ (keep' b o e)
  have fz : ∀ b ∈ fp, b < s2.heap.objs.size := fun b hb => by
    obtain ⟨o, e, _⟩ := T.obj _ _ st2 b hb
    exact Heap.lt_size e
  have f3 : ∀ b ∈ fp, FpOk X pins H3 b ∧ b < s3.heap.objs.size := fun b hb => by
    refine ⟨⟨?_, (f2 b hb).2⟩, Nat.lt_of_lt_of_le (fz b hb) sz3⟩
    rw [hTb.2 b (nP b hb)]
    exact (f2 b hb).1
  have st3 : tn 0 s3.heap := T.keep _ _ _ st2 fun b hb o e => kp3 b o (nP b hb) e
  have st5 : tn 0 (h'.push go) := T.keep _ _ _ st3 fun b _ o e => keep5 b o e
  generalize hs5 : ({ s3 with gens := s3.gens.push (.fresh (.compStart (.GeneratorExp elt [⟨tg, iter, [], 0⟩] scope gpos) 0 (.ref it) .none (genEnv scope (cloFrom X.env.cells scope.names []) s3.heap.objs.size code builtinsNs X.env))), toks := s3.toks + 1 + 1 + 1, heap := h'.push go } : Shared) = s5
  have hh5 : s5.heap = h'.push go := by rw [← hs5]
  have hg5 : s5.gens = s3.gens.push (.fresh (.compStart (.GeneratorExp elt [⟨tg, iter, [], 0⟩] scope gpos) 0 (.ref it) .none (genEnv scope (cloFrom X.env.cells scope.names []) s3.heap.objs.size code builtinsNs X.env))) := by rw [← hs5]
  have ho5 : s5.os = s3.os := by rw [← hs5]
  have hb5 : AllBare s5.gens := by rw [hg5]; exact AllBare.push hb3 rfl
  have I5 : Inv (gCx X s3 H3 (gEnv X scope (cloFrom X.env.cells scope.names []) s3.heap.objs.size code) fp [(h'.objs.size, go)]) [] (wipe σ (own.map (·.2))) H3 s5 := by
    refine gen_start I3 S.blk hN S.cell f3 rfl rfl rfl rfl rfl rfl (fun b o e => by rw [hh5]; exact keep5 b o e) (by rw [hh5]; exact hn'.push _) (by rw [hh5]; exact hpush) (by rw [hsz]; exact Nat.lt_succ_self _) (fun v q => ?_) ho5 hb5
    rw [← hgo] at q
    cases q
  have back : ∀ pl σ' H' s', Inv (gCx X s3 H3 (gEnv X scope (cloFrom X.env.cells scope.names []) s3.heap.objs.size code) fp [(h'.objs.size, go)]) pl σ' H' s' → Inv X pins σ H' s' := fun pl σ' H' s' I6 =>
    I3.call' (ch := fp) I6.os I6.base I6.hok I6.bare fun b hb => ⟨(f3 b hb).1.2.2.2.1, (f3 b hb).1.2.1, (f3 b hb).1.2.2.2.2.1, (f3 b hb).1.2.2.2.2.2⟩
  have hpn : ∀ p ∈ [(h'.objs.size, go)], p.1 ∉ fp := fun p hp z => by
    rw [List.mem_singleton.mp hp] at z
    have := (f3 _ z).2
    rw [hsz] at this
    exact absurd (Nat.lt_trans (Nat.lt_succ_self _) this) (Nat.lt_irrefl _)
  have hgens : s5.gens[s3.gens.size]? = some (.fresh (.compStart (.GeneratorExp elt [⟨tg, iter, [], 0⟩] scope gpos) 0 (.ref it) .none (genEnv scope (cloFrom X.env.cells scope.names []) s3.heap.objs.size code builtinsNs X.env))) := by rw [hg5]; exact Array.getElem?_push_size ..
  refine hQ h'.objs.size go s3.gens.size (m0 + 1) s5 _ (List.mem_singleton.mpr rfl) (fun h0 e => ⟨go, _, _, e, by rw [← hgo], by rw [← hgo], by rw [← hgo]⟩) (by rw [hh5]; exact hpush) I5.nolimit ⟨_, hgens, rfl, ?_⟩ back
  refine gen_begin hcm T (hg _ _ _ _ _ _ _) (he _ _ _ _ _ _ _) S.co hpn turn (m0 + 1) m0 _ _ H3 (Nat.lt_succ_self _) (slept I5 ⟨rfl, bare_set hb5 rfl, rfl⟩) ?_ (fun b hb => (f3 b hb).1.1) w0
  show tn 0 s5.heap
  rw [hh5]; exact st5

theorem pe_allG {c P : Addr} {elt tg iter : Expr} {p pos gpos : Pos} {scope : Scope} {own : List (Str × Nat)} {wi : TI} {g : TG} {te : TE} {k : Nat}
    (hr : Room k X.A) (hcm : X.calm = true) (hN : X.N.Nodup) (hgl : Gl X "all") (hm : X.mg "all" = none) (hb : bootBuiltins "all" = some (.builtin "all")) (TB : TabB X.base X.mg c P) (hcode : X.env.code = .ref c) (S : GScp X.N X.env.scope scope own) (hi : PI X tg iter wi)
    (hg : ∀ (s : Shared) (H : Hp) (C : Addr) (cl : List (Str × Addr)) (code : Value) (fp : List Addr) (pn : List (Addr × Obj)), PG (gCx X s H (gEnv X scope cl C code) fp pn) tg g)
    (he : ∀ (s : Shared) (H : Hp) (C : Addr) (cl : List (Str × Addr)) (code : Value) (fp : List Addr) (pn : List (Addr × Obj)), PE (gCx X s H (gEnv X scope cl C code) fp pn) elt te)
    (hs : ∀ v, genFold iter X.env v = pure v)
    (hst : starEach [.GeneratorExp elt [⟨tg, iter, [], 0⟩] scope gpos] X.env = (false, eval (.GeneratorExp elt [⟨tg, iter, [], 0⟩] scope gpos) X.env) :: starEach [] X.env := by rfl) :
    PE X (.Call (.Name "all" p) [.GeneratorExp elt [⟨tg, iter, [], 0⟩] scope gpos] [] pos) (tGen true P wi g te (own.map (·.2))) := by
  refine ⟨fun pins s σ H Q I h => ?_⟩
  refine wpAny_Call_Name_kw (ld_blt I hgl hm hb ?_)
  refine PyProof.Rows.callWith_builtin1 ?_ hst (by rfl)
  rw [hst]
  show wpAny _ _ (spliced ((false, eval (.GeneratorExp elt [⟨tg, iter, [], 0⟩] scope gpos) X.env) :: backTo pos (starEach [] X.env))) _ _ s
  refine Calls.spliced_cons (gen_eval hr hcm hN TB hcode S hi hg he hs I h fun a go gi n s5 Xg hpn hgen hat hlim hgs back => ?_)
  refine Calls.spliced_nil ?_
  refine call_function_tree F.kind_all F.plain_all F.entry_all (F.args_all1 _) ?_
  unfold Builtin.«all»
  refine wpAny_bind (m := oneArg "all" _) (wpAny_pure ?_)
  refine wpAny_bind (wpAny_pyIter_gen (hgen _ hat) ?_)
  refine wpAny_pure ⟨plainId_quiet F.plain_all_loop _, ?_⟩
  refine drain_all (P := X.prog) (w := X.w) (A := X.A) (Xg := Xg) (Q := Q) hr.hd hr.depth hpn hgen (fun s' pl σ' H' b I6 q6 => ?_) n s5 (hgen _ hat) hlim hgs
  exact ⟨.bl b, H', back pl σ' H' s' I6, rfl, q6⟩

theorem pe_anyG {c P : Addr} {elt tg iter : Expr} {p pos gpos : Pos} {scope : Scope} {own : List (Str × Nat)} {wi : TI} {g : TG} {te : TE} {k : Nat}
    (hr : Room k X.A) (hcm : X.calm = true) (hN : X.N.Nodup) (hgl : Gl X "any") (hm : X.mg "any" = none) (TB : TabB X.base X.mg c P) (hcode : X.env.code = .ref c) (S : GScp X.N X.env.scope scope own) (hi : PI X tg iter wi)
    (hg : ∀ (s : Shared) (H : Hp) (C : Addr) (cl : List (Str × Addr)) (code : Value) (fp : List Addr) (pn : List (Addr × Obj)), PG (gCx X s H (gEnv X scope cl C code) fp pn) tg g)
    (he : ∀ (s : Shared) (H : Hp) (C : Addr) (cl : List (Str × Addr)) (code : Value) (fp : List Addr) (pn : List (Addr × Obj)), PE (gCx X s H (gEnv X scope cl C code) fp pn) elt te)
    (hs : ∀ v, genFold iter X.env v = pure v)
    (hst : starEach [.GeneratorExp elt [⟨tg, iter, [], 0⟩] scope gpos] X.env = (false, eval (.GeneratorExp elt [⟨tg, iter, [], 0⟩] scope gpos) X.env) :: starEach [] X.env := by rfl) :
    PE X (.Call (.Name "any" p) [.GeneratorExp elt [⟨tg, iter, [], 0⟩] scope gpos] [] pos) (tGen false P wi g te (own.map (·.2))) := by
  refine ⟨fun pins s σ H Q I h => ?_⟩
  refine wpAny_Call_Name_kw (ld_blt I hgl hm boot_any ?_)
  refine PyProof.Rows.callWith_builtin1 ?_ hst (by rfl)
  rw [hst]
  show wpAny _ _ (spliced ((false, eval (.GeneratorExp elt [⟨tg, iter, [], 0⟩] scope gpos) X.env) :: backTo pos (starEach [] X.env))) _ _ s
  refine Calls.spliced_cons (gen_eval hr hcm hN TB hcode S hi hg he hs I h fun a go gi n s5 Xg hpn hgen hat hlim hgs back => ?_)
  refine Calls.spliced_nil ?_
  refine call_function_tree F.kind_any F.plain_any F.entry_any (F.args_any1 _) ?_
  unfold Builtin.«any»
  refine wpAny_bind (m := oneArg "any" _) (wpAny_pure ?_)
  refine wpAny_bind (wpAny_pyIter_gen (hgen _ hat) ?_)
  refine wpAny_pure ⟨plainId_quiet F.plain_any_loop _, ?_⟩
  refine drain_any (P := X.prog) (w := X.w) (A := X.A) (Xg := Xg) (Q := Q) hr.hd hr.depth hpn hgen (fun s' pl σ' H' b I6 q6 => ?_) n s5 (hgen _ hat) hlim hgs
  exact ⟨.bl b, H', back pl σ' H' s' I6, rfl, q6⟩
end
end GX

/-! A functional layer: data, states, the relation between a state of data and the abstract heap -/
namespace FN
open PySem PySem.Spec PyProof.Rows L2 GX GxR

section
variable (K : PySem.W.Frag) (G : Hp)
mutual
/-- v is the datum, by what is frozen in G -/
def Rep : PyData → V → Prop
  | .none, v => v = .non
  | .bool b, v => v = .bl b
  | .int i, v => v = .int i
  | .str x, v => v = .str x
  | .tuple ds, v => ∃ a xs, v = .ref a ∧ SqT K G a xs ∧ RepL ds xs
  | .list ds, v => ∃ a xs, v = .ref a ∧ SqL K G a xs ∧ RepL ds xs
  | .dict _, _ => False
def RepL : List PyData → List V → Prop
  | [], [] => True
  | d :: ds, x :: xs => Rep d x ∧ RepL ds xs
  | [], _ :: _ => False
  | _ :: _, [] => False
end
end

theorem same_seqT {K : PySem.W.Frag} {H H' : Hp} {a : Addr} {xs : List V} (e : Same H H') (h : SqT K H a xs) : SqT K H' a xs := by
  rcases h with (h | ⟨o, h⟩) | h
  · exact .inl (.inl (e _ _ h))
  · exact .inl (.inr ⟨o, e _ _ h⟩)
  · exact .inr h
mutual
theorem Rep.mono {K : PySem.W.Frag} {G G' : Hp} (e : Same G G') : ∀ {d : PyData} {v : V}, Rep K G d v → Rep K G' d v
  | .none, _, h => h
  | .bool _, _, h => h
  | .int _, _, h => h
  | .str _, _, h => h
  | .tuple ds, v, h => by
    obtain ⟨a, xs, e1, e2, e3⟩ := h
    exact ⟨a, xs, e1, same_seqT e e2, RepL.mono e e3⟩
  | .list ds, v, h => by
    obtain ⟨a, xs, e1, e2, e3⟩ := h
    exact ⟨a, xs, e1, Same.seq e e2, RepL.mono e e3⟩
  | .dict _, _, h => h.elim
theorem RepL.mono {K : PySem.W.Frag} {G G' : Hp} (e : Same G G') : ∀ {ds : List PyData} {xs : List V}, RepL K G ds xs → RepL K G' ds xs
  | [], [], _ => trivial
  | _ :: _, _ :: _, h => ⟨Rep.mono e h.1, RepL.mono e h.2⟩
  | [], _ :: _, h => h.elim
  | _ :: _, [], h => h.elim
end
section
variable {K : PySem.W.Frag} {G : Hp}
theorem RepL.length : ∀ {ds : List PyData} {xs : List V}, RepL K G ds xs → ds.length = xs.length
  | [], [], _ => rfl
  | _ :: _, _ :: _, h => by rw [List.length_cons, List.length_cons, RepL.length h.2]
  | [], _ :: _, h => h.elim
  | _ :: _, [], h => h.elim
theorem RepL.get : ∀ {ds : List PyData} {xs : List V} {i : Nat} {d : PyData}, RepL K G ds xs → ds[i]? = some d → ∃ x, xs[i]? = some x ∧ Rep K G d x
  | [], [], _, _, _, e => by simp at e
  | _ :: _, x :: _, 0, _, h, e => by simp at e; subst e; exact ⟨x, rfl, h.1⟩
  | _ :: _, _ :: _, i + 1, d, h, e => by
    obtain ⟨x, h1, h2⟩ := RepL.get (i := i) (d := d) h.2 (by simpa using e)
    exact ⟨x, by simpa using h1, h2⟩
  | [], _ :: _, _, _, h, _ => h.elim
  | _ :: _, [], _, _, h, _ => h.elim
theorem RepL.append : ∀ {ds es : List PyData} {xs ys : List V}, RepL K G ds xs → RepL K G es ys → RepL K G (ds ++ es) (xs ++ ys)
  | [], _, [], _, _, q => q
  | _ :: _, _, _ :: _, _, h, q => ⟨h.1, RepL.append h.2 q⟩
  | [], _, _ :: _, _, h, _ => h.elim
  | _ :: _, _, [], _, h, _ => h.elim
theorem RepL.take : ∀ {ds : List PyData} {xs : List V} (n : Nat), RepL K G ds xs → RepL K G (ds.take n) (xs.take n)
  | _, _, 0, _ => by simp [RepL]
  | [], [], _ + 1, _ => by simp [RepL]
  | _ :: _, _ :: _, n + 1, h => ⟨h.1, RepL.take n h.2⟩
  | [], _ :: _, _ + 1, h => h.elim
  | _ :: _, [], _ + 1, h => h.elim
theorem RepL.drop : ∀ {ds : List PyData} {xs : List V} (n : Nat), RepL K G ds xs → RepL K G (ds.drop n) (xs.drop n)
  | _, _, 0, h => h
  | [], [], _ + 1, _ => by simp [RepL]
  | _ :: _, _ :: _, n + 1, h => RepL.drop n h.2
  | [], _ :: _, _ + 1, h => h.elim
  | _ :: _, [], _ + 1, h => h.elim
theorem RepL.set : ∀ {ds : List PyData} {xs : List V} (n : Nat) {d : PyData} {x : V}, RepL K G ds xs → Rep K G d x → RepL K G (ds.set n d) (xs.set n x)
  | [], [], _, _, _, _, _ => by simp [RepL]
  | _ :: _, _ :: _, 0, _, _, h, q => ⟨q, h.2⟩
  | _ :: _, _ :: _, n + 1, _, _, h, q => ⟨h.1, RepL.set n h.2 q⟩
  | [], _ :: _, _, _, _, h, _ => h.elim
  | _ :: _, [], _, _, _, h, _ => h.elim
theorem RepL.one {d : PyData} {x : V} (h : Rep K G d x) : RepL K G [d] [x] := ⟨h, trivial⟩
end

/-! ### the machine reads the datum -/
section
variable {X : Cx} {pins : List (Addr × Obj)} {σ : L2.St} {H G : Hp} {s : Shared}
mutual
theorem reads_of (I : Inv X pins σ H s) (hs : Same G H) : ∀ {d : PyData} {v : V} {u : Value}, Rep X.K G d v → RelV v u → ∃ as, Reads s.heap u d as
  | .none, _, _, h, r => by cases h; cases r; exact ⟨_, .none⟩
  | .bool b, _, _, h, r => by cases h; cases r; exact ⟨_, .bool b⟩
  | .int i, _, _, h, r => by cases h; obtain ⟨t, rfl⟩ := r; exact ⟨_, .int i t⟩
  | .str x, _, _, h, r => by cases h; obtain ⟨t, rfl⟩ := r; exact ⟨_, .str x t⟩
  | .tuple ds, _, _, h, r => by
    obtain ⟨a, xs, rfl, e2, e3⟩ := h
    cases r
    obtain ⟨its, rv, ⟨o, e, c, n, dd⟩, _⟩ := I.tuple (same_seqT hs e2)
    obtain ⟨as, ra⟩ := readsL_of I hs e3 rv
    exact ⟨_, .tuple e c dd ra⟩
  | .list ds, _, _, h, r => by
    obtain ⟨a, xs, rfl, e2, e3⟩ := h
    cases r
    obtain ⟨its, rv, ⟨o, n, e, c, _, dd⟩, _⟩ := I.list (Same.seq hs e2)
    obtain ⟨as, ra⟩ := readsL_of I hs e3 rv
    exact ⟨_, .list e c dd ra⟩
  | .dict _, _, _, h, _ => h.elim
theorem readsL_of (I : Inv X pins σ H s) (hs : Same G H) : ∀ {ds : List PyData} {xs : List V} {us : List Value}, RepL X.K G ds xs → Vals xs us → ∃ as, ReadsAll s.heap us ds as
  | [], [], _, _, r => by cases r; exact ⟨_, .nil⟩
  | _ :: _, _ :: _, _, h, r => by
    cases r with
    | cons r1 r2 =>
      obtain ⟨as, q1⟩ := reads_of I hs h.1 r1
      obtain ⟨bs, q2⟩ := readsL_of I hs h.2 r2
      exact ⟨_, .cons q1 q2⟩
  | [], _ :: _, _, h, _ => h.elim
  | _ :: _, [], _, h, _ => h.elim
end
end

/-! ### states -/
/-- a slot: nothing known; a datum (what it holds never changes); a list of its own (it alone leads there) -/
inductive SV where
  | no | im (d : PyData) | mu (ds : List PyData)
abbrev FEnv := List SV
def Mu (σ : L2.St) (env : FEnv) (b : Addr) : Prop := ∃ (i : Nat) (ds : List PyData), env[i]? = some (.mu ds) ∧ σ[i]? = some (some (.ref b))
structure StOk (K : PySem.W.Frag) (T : List Addr) (G : Hp) (σ : L2.St) (H : Hp) (env : FEnv) : Prop where
  len : env.length = σ.length
  same : Same G H
  tab : ∀ P ∈ T, TabG H P ∧ G P = none
  im : ∀ (i : Nat) (d : PyData), env[i]? = some (.im d) → ∃ v : V, σ[i]? = some (some v) ∧ Rep K G d v
  mu : ∀ (i : Nat) (ds : List PyData), env[i]? = some (.mu ds) → ∃ (a : Addr) (xs : List V), σ[i]? = some (some (.ref a)) ∧ G a = none ∧ H a = some (.lst xs) ∧ RepL K G ds xs
  inj : ∀ (i j : Nat) (ds es : List PyData), env[i]? = some (.mu ds) → env[j]? = some (.mu es) → σ[i]? = σ[j]? → i = j
/-- from one state to a later one; pin: slots that are never stored to -/
structure Ext (T : List Addr) (pin : List Nat) (G : Hp) (σ : L2.St) (H : Hp) (env : FEnv) (G' : Hp) (σ' : L2.St) (H' : Hp) (env' : FEnv) : Prop where
  same : Same G G'
  gfr : ∀ b, G b = none → H b ≠ none → ¬ Mu σ env b → G' b = none
  hfr : ∀ b o, H b = some o → ¬ Mu σ env b → b ∉ T → H' b = some o
  there : ∀ b, H b ≠ none → H' b ≠ none
  mus : ∀ b, Mu σ' env' b → Mu σ env b ∨ H b = none
  pins : ∀ i ∈ pin, σ'[i]? = σ[i]?
  pinv : ∀ i ∈ pin, ∀ (ds : List PyData) (a : Addr), env[i]? = some (.mu ds) → σ[i]? = some (some (.ref a)) → G' a = none → ∃ es : List PyData, env'[i]? = some (.mu es)
  pini : ∀ i ∈ pin, ∀ d : PyData, env[i]? = some (.im d) → env'[i]? = some (.im d)

section
variable {K : PySem.W.Frag} {T : List Addr} {pin : List Nat} {G G1 G2 : Hp} {σ σ1 σ2 : L2.St} {H H1 H2 : Hp} {env env1 env2 : FEnv}
theorem StOk.mu_no (S : StOk K T G σ H env) {b : Addr} (h : Mu σ env b) : G b = none ∧ b ∉ T ∧ ∃ xs, H b = some (.lst xs) := by
  obtain ⟨i, ds, e1, e2⟩ := h
  obtain ⟨a, xs, q1, q2, q3, _⟩ := S.mu i ds e1
  rw [e2] at q1
  cases q1
  refine ⟨q2, fun hb => ?_, xs, q3⟩
  obtain ⟨⟨ps, hP, _⟩, _⟩ := S.tab b hb
  rw [q3] at hP; cases hP
theorem Ext.refl (S : StOk K T G σ H env) : Ext T pin G σ H env G σ H env :=
  ⟨Same.refl _, fun _ h _ _ => h, fun _ _ h _ _ => h, fun _ h => h, fun _ h => .inl h, fun _ _ => rfl, fun i _ ds a e _ _ => ⟨ds, e⟩, fun _ _ _ e => e⟩
theorem Ext.trans (a : Ext T pin G σ H env G1 σ1 H1 env1) (b : Ext T pin G1 σ1 H1 env1 G2 σ2 H2 env2) : Ext T pin G σ H env G2 σ2 H2 env2 where
  same := a.same.trans b.same
  gfr := fun c h1 h2 h3 => b.gfr c (a.gfr c h1 h2 h3) (a.there c h2) fun hm => (a.mus c hm).elim h3 h2
  hfr := fun c o h1 h3 h4 => b.hfr c o (a.hfr c o h1 h3 h4) (fun hm => (a.mus c hm).elim h3 fun z => by rw [h1] at z; cases z) h4
  there := fun c h => b.there c (a.there c h)
  mus := fun c h => (b.mus c h).elim (a.mus c) fun z => .inr (by
    cases q : H c with
    | none => rfl
    | some o => exact absurd z (a.there c (by rw [q]; simp)))
  pins := fun i hi => (b.pins i hi).trans (a.pins i hi)
  pinv := fun i hi ds c e1 e2 e3 => by
    obtain ⟨es, q⟩ := a.pinv i hi ds c e1 e2 (Same.free b.same e3)
    exact b.pinv i hi es c q (by rw [a.pins i hi]; exact e2) e3
  pini := fun i hi d e => b.pini i hi d (a.pini i hi d e)
theorem Ext.mono {pin' : List Nat} (a : Ext T pin G σ H env G1 σ1 H1 env1) (h : ∀ i ∈ pin', i ∈ pin) : Ext T pin' G σ H env G1 σ1 H1 env1 :=
  ⟨a.same, a.gfr, a.hfr, a.there, a.mus, fun i hi => a.pins i (h i hi), fun i hi => a.pinv i (h i hi), fun i hi => a.pini i (h i hi)⟩
/-- fresh before, fresh ahead of it -/
theorem Ext.fresh (a : Ext T pin G σ H env G1 σ1 H1 env1) {b : Addr} (h : H1 b = none) : H b = none := by
  cases q : H b with
  | none => rfl
  | some o => exact absurd h (a.there b (by rw [q]; simp))

/-! ### what an expression gives -/
/-- a datum; a list that nothing else leads to; what stands in a slot -/
inductive EV where
  | im (d : PyData) | own (ds : List PyData) | slot (i : Nat)
/-- H0: the heap ahead of the expression -/
def EVOk (K : PySem.W.Frag) (G : Hp) (σ : L2.St) (H : Hp) (H0 : Hp) : EV → V → Prop
  | .im d, v => Rep K G d v
  | .own ds, v => ∃ a xs, v = .ref a ∧ G a = none ∧ H a = some (.lst xs) ∧ RepL K G ds xs ∧ H0 a = none
  | .slot i, v => σ[i]? = some (some v)
theorem notMu_fresh (a : Ext T pin G σ H env G1 σ1 H1 env1) (S : StOk K T G σ H env) {b : Addr} (h0 : H b = none) : ¬ Mu σ env b := fun hm => by
  obtain ⟨_, _, xs, q⟩ := S.mu_no hm
  rw [h0] at q; cases q
/-- a value stays while another expression is evaluated -/
theorem EVOk.stay {H0 : Hp} {ev : EV} {v : V} {G0 : Hp} {env0 : FEnv} (h : EVOk K G σ H H0 ev v) (S : StOk K T G σ H env) (h0 : ∀ b, Mu σ env b → Mu σ env0 b ∨ H0 b = none) (hn : ∀ ds a, ev = .own ds → v = .ref a → ¬ Mu σ env a) (a : Ext T pin G σ H env G1 σ H1 env1) : EVOk K G1 σ H1 H0 ev v := by
  cases ev with
  | im d => exact Rep.mono a.same h
  | slot i => exact h
  | own ds =>
    obtain ⟨p, xs, e1, e2, e3, e4, e5⟩ := h
    have nm := hn ds p rfl e1
    refine ⟨p, xs, e1, a.gfr p e2 (by rw [e3]; simp) nm, a.hfr p _ e3 nm (fun hT => ?_), RepL.mono a.same e4, e5⟩
    obtain ⟨⟨ps, hP, _⟩, _⟩ := S.tab p hT
    rw [e3] at hP; cases hP
end
end FN

/-! A functional layer: what expressions give; the rules -/
namespace FN
open PySem PySem.Spec PyProof.Rows L2 GX GxR

abbrev M (α : Type) := FEnv → Option (α × FEnv)
def retM {α : Type} (a : α) : M α := fun env => some (a, env)
def bindM {α β : Type} (f : M α) (g : α → M β) : M β := fun env => match f env with
  | some (a, env') => g a env'
  | none => none
def liftM {α : Type} (o : Option α) : M α := fun env => match o with
  | some a => some (a, env)
  | none => none
theorem retM_eq {α : Type} (a : α) (env : FEnv) : retM a env = some (a, env) := rfl
theorem bindM_eq {α β : Type} {f : M α} {g : α → M β} {env env' : FEnv} {a : α} (h : f env = some (a, env')) : bindM f g env = g a env' := by unfold bindM; rw [h]
theorem bindM_some {α β : Type} {f : M α} {g : α → M β} {env env2 : FEnv} {b : β} (h : bindM f g env = some (b, env2)) : ∃ a env1, f env = some (a, env1) ∧ g a env1 = some (b, env2) := by
  unfold bindM at h
  split at h
  · exact ⟨_, _, by assumption, h⟩
  · cases h
theorem liftM_some {α : Type} {o : Option α} {env env' : FEnv} {a : α} (h : liftM o env = some (a, env')) : o = some a ∧ env' = env := by
  unfold liftM at h
  split at h
  · cases h; exact ⟨rfl, rfl⟩
  · cases h

/-! ### new objects -/
structure Grow (G H G' H' : Hp) : Prop where
  same : Same G G'
  heap : Same H H'
  gh : Same G' H'
  gnew : ∀ b, G b = none → H b ≠ none → G' b = none
theorem Grow.refl {G H : Hp} (h : Same G H) : Grow G H G H := ⟨Same.refl _, Same.refl _, h, fun _ z _ => z⟩
theorem same_upd {H : Hp} {p : Addr} {o : HO} (h : H p = none) : Same H (upd H p o) := fun b u e => by rw [upd_ne (ne_of_none e h)]; exact e
/-- a frozen new object -/
theorem Grow.im {G H : Hp} {p : Addr} (o : HO) (hs : Same G H) (h : H p = none) : Grow G H (upd G p o) (upd H p o) where
  same := same_upd (hs.free h)
  heap := same_upd h
  gh := fun b u e => by
    by_cases hb : b = p
    · subst hb; rw [upd_same] at e ⊢; exact e
    · rw [upd_ne hb] at e ⊢; exact hs b u e
  gnew := fun b e hn => by rw [upd_ne (fun z => hn (by rw [z]; exact h))]; exact e
/-- a new list -/
theorem Grow.mu {G H : Hp} {p : Addr} (o : HO) (hs : Same G H) (h : H p = none) : Grow G H G (upd H p o) :=
  ⟨Same.refl _, same_upd h, fun b u e => by rw [upd_ne (ne_of_none (hs b u e) h)]; exact hs b u e, fun _ z _ => z⟩

section
variable {K : PySem.W.Frag} {T : List Addr} {pin : List Nat} {G G1 G2 : Hp} {σ : L2.St} {H H1 H2 : Hp} {env env1 env2 : FEnv}
theorem StOk.grow (S : StOk K T G σ H env) (g : Grow G H G1 H1) : StOk K T G1 σ H1 env where
  len := S.len
  same := g.gh
  tab := fun P hP => by
    obtain ⟨⟨ps, e, t⟩, e2⟩ := S.tab P hP
    exact ⟨⟨ps, g.heap _ _ e, t⟩, g.gnew P e2 (by rw [e]; simp)⟩
  im := fun i d e => by
    obtain ⟨v, h1, h2⟩ := S.im i d e
    exact ⟨v, h1, h2.mono g.same⟩
  mu := fun i ds e => by
    obtain ⟨a, xs, h1, h2, h3, h4⟩ := S.mu i ds e
    exact ⟨a, xs, h1, g.gnew a h2 (by rw [h3]; simp), g.heap _ _ h3, h4.mono g.same⟩
  inj := S.inj
theorem Ext.grow (S : StOk K T G σ H env) (g : Grow G H G1 H1) : Ext T pin G σ H env G1 σ H1 env where
  same := g.same
  gfr := fun b e hn _ => g.gnew b e hn
  hfr := fun b o e _ _ => g.heap b o e
  there := fun b hn => by
    cases q : H b with
    | none => exact absurd q hn
    | some o => rw [g.heap _ _ q]; simp
  mus := fun b h => .inl h
  pins := fun _ _ => rfl
  pinv := fun i _ ds a e _ _ => ⟨ds, e⟩
  pini := fun _ _ _ e => e
end

/-! ### views: what is read at a value -/
def view (ev : EV) (env : FEnv) : Option SV := match ev with
  | .im d => some (.im d)
  | .own ds => some (.mu ds)
  | .slot i => env[i]?
def VwOk (K : PySem.W.Frag) (G H : Hp) : SV → V → Prop
  | .no, _ => True
  | .im d, v => Rep K G d v
  | .mu ds, v => ∃ a xs, v = .ref a ∧ H a = some (.lst xs) ∧ RepL K G ds xs
/-- its items, if it is a list -/
def SV.asL : SV → Option (List PyData)
  | .im (.list ds) => some ds
  | .mu ds => some ds
  | _ => none
def SV.asT : SV → Option (List PyData)
  | .im (.tuple ds) => some ds
  | _ => none
/-- .. a list or a tuple -/
def SV.asQ : SV → Option (List PyData)
  | .im (.list ds) => some ds
  | .im (.tuple ds) => some ds
  | .mu ds => some ds
  | _ => none
def SV.asI : SV → Option Int
  | .im (.int i) => some i
  | _ => none
def SV.asS : SV → Option Str
  | .im (.str x) => some x
  | _ => none
def SV.asB : SV → Option Bool
  | .im (.bool x) => some x
  | _ => none
/-- the datum, whether it is frozen or not -/
def SV.dat : SV → Option PyData
  | .im d => some d
  | .mu ds => some (.list ds)
  | .no => none
section
variable {K : PySem.W.Frag} {T : List Addr} {pin : List Nat} {G G1 G2 : Hp} {σ : L2.St} {H H1 H2 : Hp} {env env1 env2 : FEnv} {sv : SV} {v : V}
theorem VwOk.list (h : VwOk K G H sv v) (hs : Same G H) {ds : List PyData} (e : sv.asL = some ds) : ∃ a xs, v = .ref a ∧ SqL K H a xs ∧ RepL K G ds xs := by
  cases sv with
  | no => cases e
  | mu es =>
    cases e
    obtain ⟨a, xs, e1, e2, e3⟩ := h
    exact ⟨a, xs, e1, SqL.of e2, e3⟩
  | im d =>
    cases d with
    | list es =>
      cases e
      obtain ⟨a, xs, e1, e2, e3⟩ := h
      exact ⟨a, xs, e1, Same.seq hs e2, e3⟩
    | _ => cases e
theorem VwOk.tup (h : VwOk K G H sv v) (hs : Same G H) {ds : List PyData} (e : sv.asT = some ds) : ∃ a xs, v = .ref a ∧ SqT K H a xs ∧ SqT K G a xs ∧ RepL K G ds xs := by
  cases sv with
  | no => cases e
  | mu es => cases e
  | im d =>
    cases d with
    | tuple es =>
      cases e
      obtain ⟨a, xs, e1, e2, e3⟩ := h
      exact ⟨a, xs, e1, same_seqT hs e2, e2, e3⟩
    | _ => cases e
theorem VwOk.seq (h : VwOk K G H sv v) (hs : Same G H) {ds : List PyData} (e : sv.asQ = some ds) : ∃ a xs, v = .ref a ∧ (SqL K H a xs ∨ SqT K H a xs) ∧ RepL K G ds xs := by
  cases sv with
  | no => cases e
  | mu es =>
    cases e
    obtain ⟨a, xs, e1, e2, e3⟩ := h
    exact ⟨a, xs, e1, .inl (SqL.of e2), e3⟩
  | im d =>
    cases d with
    | list es =>
      cases e
      obtain ⟨a, xs, e1, e2, e3⟩ := h
      exact ⟨a, xs, e1, .inl (Same.seq hs e2), e3⟩
    | tuple es =>
      cases e
      obtain ⟨a, xs, e1, e2, e3⟩ := h
      exact ⟨a, xs, e1, .inr (same_seqT hs e2), e3⟩
    | _ => cases e
theorem VwOk.int (h : VwOk K G H sv v) {i : Int} (e : sv.asI = some i) : v = .int i := by
  cases sv with
  | no => cases e
  | mu es => cases e
  | im d => cases d <;> first | (cases e; exact h) | cases e
theorem VwOk.str (h : VwOk K G H sv v) {i : Str} (e : sv.asS = some i) : v = .str i := by
  cases sv with
  | no => cases e
  | mu es => cases e
  | im d => cases d <;> first | (cases e; exact h) | cases e
theorem VwOk.bool (h : VwOk K G H sv v) {i : Bool} (e : sv.asB = some i) : v = .bl i := by
  cases sv with
  | no => cases e
  | mu es => cases e
  | im d => cases d <;> first | (cases e; exact h) | cases e
end

/-! ### an expression's value -/
/-- H0: the heap ahead of the expression -/
def ValOk (K : PySem.W.Frag) (G : Hp) (σ : L2.St) (H : Hp) (env : FEnv) (H0 : Hp) : EV → V → Prop
  | .im d, v => Rep K G d v
  | .own ds, v => ∃ a xs, v = .ref a ∧ G a = none ∧ H a = some (.lst xs) ∧ RepL K G ds xs ∧ H0 a = none ∧ ¬ Mu σ env a
  | .slot i, v => σ[i]? = some (some v)
section
variable {K : PySem.W.Frag} {T : List Addr} {pin : List Nat} {G G1 G2 : Hp} {σ : L2.St} {H H1 H2 H0 : Hp} {env env1 env2 : FEnv} {ev : EV} {v : V}
theorem ValOk.stay (h : ValOk K G σ H env H0 ev v) (S : StOk K T G σ H env) (a : Ext T pin G σ H env G1 σ H1 env1) : ValOk K G1 σ H1 env1 H0 ev v := by
  cases ev with
  | im d => exact Rep.mono a.same h
  | slot i => exact h
  | own ds =>
    obtain ⟨p, xs, e1, e2, e3, e4, e5, nm⟩ := h
    refine ⟨p, xs, e1, a.gfr p e2 (by rw [e3]; simp) nm, a.hfr p _ e3 nm (fun hT => ?_), RepL.mono a.same e4, e5, fun hm => ?_⟩
    · obtain ⟨⟨ps, hP, _⟩, _⟩ := S.tab p hT
      rw [e3] at hP; cases hP
    · rcases a.mus p hm with z | z
      · exact nm z
      · rw [e3] at z; cases z
/-- the heap ahead may be an earlier one -/
theorem ValOk.from (h : ValOk K G σ H env H1 ev v) {σ0 : L2.St} {env0 : FEnv} {G0 G9 : Hp} {σ9 : L2.St} {env9 : FEnv} (a : Ext T pin G0 σ0 H0 env0 G9 σ9 H1 env9) : ValOk K G σ H env H0 ev v := by
  cases ev with
  | im d => exact h
  | slot i => exact h
  | own ds =>
    obtain ⟨p, xs, e1, e2, e3, e4, e5, nm⟩ := h
    exact ⟨p, xs, e1, e2, e3, e4, a.fresh e5, nm⟩
theorem ValOk.view (h : ValOk K G σ H env H0 ev v) (S : StOk K T G σ H env) {sv : SV} (e : view ev env = some sv) : VwOk K G H sv v := by
  cases ev with
  | im d => cases e; exact h
  | own ds =>
    cases e
    obtain ⟨a, xs, e1, _, e3, e4, _⟩ := h
    exact ⟨a, xs, e1, e3, e4⟩
  | slot i =>
    have e : env[i]? = some sv := e
    have h : σ[i]? = some (some v) := h
    cases sv with
    | no => trivial
    | im d =>
      obtain ⟨w, h1, h2⟩ := S.im i d e
      rw [h] at h1; cases h1
      exact h2
    | mu ds =>
      obtain ⟨a, xs, h1, _, h3, h4⟩ := S.mu i ds e
      rw [h] at h1; cases h1
      exact ⟨a, xs, rfl, h3, h4⟩

/-- what is frozen from here on -/
def frz (ev : EV) : M PyData := fun env => match ev with
  | .im d => some (d, env)
  | .own ds => some (.list ds, env)
  | .slot i => match env[i]? with
    | some (.im d) => some (d, env)
    | some (.mu ds) => some (.list ds, env.set i (.im (.list ds)))
    | _ => none
theorem mu_upd {a : Addr} {xs : List V} (hs : Same G H) (hG : G a = none) (hH : H a = some (.lst xs)) : Same G (upd G a (.lst xs)) ∧ Same (upd G a (.lst xs)) H := by
  refine ⟨same_upd hG, fun b u e => ?_⟩
  by_cases hb : b = a
  · subst hb; rw [upd_same] at e; cases e; exact hH
  · rw [upd_ne hb] at e; exact hs b u e
theorem frz_ok {G0 : Hp} {env0 : FEnv} {d : PyData} (S0 : StOk K T G0 σ H0 env0) (S : StOk K T G σ H env) (a0 : Ext T pin G0 σ H0 env0 G σ H env) (h : ValOk K G σ H env H0 ev v) (e : frz ev env = some (d, env1)) :
    ∃ G1, StOk K T G1 σ H env1 ∧ Ext T pin G0 σ H0 env0 G1 σ H env1 ∧ Rep K G1 d v ∧ Same G G1 := by
  cases ev with
  | im d' => cases e; exact ⟨G, S, a0, h, Same.refl _⟩
  | own ds =>
    cases e
    obtain ⟨a, xs, rfl, e2, e3, e4, e5, nm⟩ := h
    obtain ⟨h1, h2⟩ := mu_upd S.same e2 e3
    refine ⟨upd G a (.lst xs), ⟨S.len, h2, fun P hP => ?_, fun i d' ei => ?_, fun i es ei => ?_, S.inj⟩, ⟨a0.same.trans h1, fun b q1 q2 q3 => ?_, a0.hfr, a0.there, a0.mus, a0.pins, fun i hi es b q1 q2 q3 => ?_, a0.pini⟩, ?_, h1⟩
    · obtain ⟨t1, t2⟩ := S.tab P hP
      refine ⟨t1, ?_⟩
      obtain ⟨ps, hp, _⟩ := t1
      rw [upd_ne (fun z => by rw [z, e3] at hp; cases hp)]; exact t2
    · obtain ⟨w, q1, q2⟩ := S.im i d' ei
      exact ⟨w, q1, q2.mono h1⟩
    · obtain ⟨b, ys, q1, q2, q3, q4⟩ := S.mu i es ei
      refine ⟨b, ys, q1, ?_, q3, q4.mono h1⟩
      rw [upd_ne (fun z => nm ⟨i, es, ei, by rw [← z]; exact q1⟩)]; exact q2
    · rw [upd_ne (fun z => q2 (by rw [z]; exact e5))]
      exact a0.gfr b q1 q2 q3
    · exact a0.pinv i hi es b q1 q2 (Same.free h1 q3)
    · exact ⟨a, xs, rfl, SqL.of upd_same, e4.mono h1⟩
  | slot i =>
    have h : σ[i]? = some (some v) := h
    unfold frz at e
    cases q : env[i]? with
    | none => simp only [q] at e; cases e
    | some sv =>
      cases sv with
      | no => simp only [q] at e; cases e
      | im d' =>
        simp only [q] at e
        cases e
        obtain ⟨w, h1, h2⟩ := S.im i d q
        rw [h] at h1; cases h1
        exact ⟨G, S, a0, h2, Same.refl _⟩
      | mu ds =>
        simp only [q] at e
        cases e
        obtain ⟨a, xs, p1, p2, p3, p4⟩ := S.mu i ds q
        rw [h] at p1; cases p1
        obtain ⟨h1, h2⟩ := mu_upd S.same p2 p3
        have hil : i < env.length := (List.getElem?_eq_some_iff.mp q).1
        have rep : Rep K (upd G a (.lst xs)) (.list ds) (.ref a) := ⟨a, xs, rfl, SqL.of upd_same, p4.mono h1⟩
        have muS : ∀ {j : Nat} {es : List PyData}, (env.set i (.im (.list ds)))[j]? = some (.mu es) → j ≠ i ∧ env[j]? = some (.mu es) := fun {j es} ej => by
          by_cases hj : i = j
          · subst hj; rw [List.getElem?_set_self hil] at ej; cases ej
          · rw [List.getElem?_set_ne hj] at ej; exact ⟨fun z => hj z.symm, ej⟩
        refine ⟨upd G a (.lst xs), ⟨by rw [List.length_set]; exact S.len, h2, fun P hP => ?_, fun j d' ej => ?_, fun j es ej => ?_, fun j k es fs ej ek e' => S.inj j k es fs (muS ej).2 (muS ek).2 e'⟩,
          ⟨a0.same.trans h1, fun b q1 q2 q3 => ?_, a0.hfr, a0.there, fun b hb => ?_, a0.pins, fun j hj es b q1 q2 q3 => ?_, fun j hj d' ej => ?_⟩, rep, h1⟩
        · obtain ⟨t1, t2⟩ := S.tab P hP
          refine ⟨t1, ?_⟩
          obtain ⟨ps, hp, _⟩ := t1
          rw [upd_ne (fun z => by rw [z, p3] at hp; cases hp)]; exact t2
        · by_cases hj : i = j
          · subst hj
            rw [List.getElem?_set_self hil] at ej
            cases ej
            exact ⟨.ref a, h, rep⟩
          · rw [List.getElem?_set_ne hj] at ej
            obtain ⟨w, q1, q2⟩ := S.im j d' ej
            exact ⟨w, q1, q2.mono h1⟩
        · obtain ⟨hj, ej⟩ := muS ej
          obtain ⟨b, ys, q1, q2, q3, q4⟩ := S.mu j es ej
          refine ⟨b, ys, q1, ?_, q3, q4.mono h1⟩
          rw [upd_ne (fun z => hj (S.inj j i es ds ej q (by rw [q1, h, z])))]; exact q2
        · have hba : b ≠ a := fun z => by
            rcases a0.mus a ⟨i, ds, q, h⟩ with z2 | z2
            · exact q3 (by rw [z]; exact z2)
            · exact q2 (by rw [z]; exact z2)
          rw [upd_ne hba]
          exact a0.gfr b q1 q2 q3
        · obtain ⟨j, es, ej, s1⟩ := hb
          exact a0.mus b ⟨j, es, (muS ej).2, s1⟩
        · obtain ⟨fs, ej⟩ := a0.pinv j hj es b q1 q2 (Same.free h1 q3)
          by_cases hij : i = j
          · subst hij
            rw [h] at q2; cases q2
            rw [upd_same] at q3; cases q3
          · exact ⟨fs, by rw [List.getElem?_set_ne hij]; exact ej⟩
        · have ej := a0.pini j hj d' ej
          by_cases hij : i = j
          · subst hij; rw [q] at ej; cases ej
          · rw [List.getElem?_set_ne hij]; exact ej
end
end FN

/-! A functional layer: readings, operators -/
namespace FN
open PySem PySem.Spec PyProof.Rows L2 GX GxR

theorem PE.imp {X : Cx} {e : Expr} {t t' : TE} (h : PE X e t) (k : ∀ σ H Q, t' σ H Q → t σ H Q) : PE X e t' := ⟨fun pins s σ H Q I q => h.run pins s σ H Q I (k σ H Q q)⟩
theorem PT.imp {X : Cx} {e : Expr} {t t' : TT} (h : PT X e t) (k : ∀ σ H Q, t' σ H Q → t σ H Q) : PT X e t' := ⟨fun pins s σ H Q I q => h.run pins s σ H Q I (k σ H Q q)⟩
theorem PA.imp {X : Cx} {e : List Expr} {t t' : TA} (h : PA X e t) (k : ∀ σ H Q, t' σ H Q → t σ H Q) : PA X e t' := ⟨fun pos pins s σ H Q I q => h.run pos pins s σ H Q I (k σ H Q q)⟩
theorem PS.imp {X : Cx} {e : Stmt} {t t' : TS} (h : PS X e t) (k : ∀ D σ H, t' D σ H → t D σ H) : PS X e t' := ⟨fun pins s σ H D I q => h.run pins s σ H D I (k D σ H q)⟩
theorem PSs.imp {X : Cx} {e : List Stmt} {t t' : TS} (h : PSs X e t) (k : ∀ D σ H, t' D σ H → t D σ H) : PSs X e t' := ⟨fun pins s σ H D I q => h.run pins s σ H D I (k D σ H q)⟩

def ownIs : EV → Bool
  | .own _ => true
  | _ => false
def ValsOk (K : PySem.W.Frag) (G : Hp) (σ : L2.St) (H : Hp) (env : FEnv) (H0 : Hp) : List EV → List V → Prop
  | [], [] => True
  | e :: es, v :: vs => ValOk K G σ H env H0 e v ∧ ValsOk K G σ H env H0 es vs ∧ (ownIs e = true → ∀ (j : Nat) (e' : EV), es[j]? = some e' → ownIs e' = true → vs[j]? ≠ some v)
  | [], _ :: _ => False
  | _ :: _, [] => False

section
variable (K : PySem.W.Frag) (T : List Addr) (pin : List Nat)
def rE (f : M EV) : TE := fun σ H Q => ∃ G env ev env', StOk K T G σ H env ∧ f env = some (ev, env') ∧ ∀ v G' H', StOk K T G' σ H' env' → Ext T pin G σ H env G' σ H' env' → ValOk K G' σ H' env' H ev v → Q v H'
def rD (f : M PyData) : TE := fun σ H Q => ∃ G env d env', StOk K T G σ H env ∧ f env = some (d, env') ∧ ∀ v G' H', StOk K T G' σ H' env' → Ext T pin G σ H env G' σ H' env' → Rep K G' d v → Q v H'
def rT (f : M Bool) : TT := fun σ H Q => ∃ G env b env', StOk K T G σ H env ∧ f env = some (b, env') ∧ ∀ G' H', StOk K T G' σ H' env' → Ext T pin G σ H env G' σ H' env' → Q b H'
def rA (f : M (List EV)) : TA := fun σ H Q => ∃ G env evs env', StOk K T G σ H env ∧ f env = some (evs, env') ∧ ∀ vs G' H', StOk K T G' σ H' env' → Ext T pin G σ H env G' σ H' env' → ValsOk K G' σ H' env' H evs vs → Q vs H'
def rDs (f : M (List PyData)) : TA := fun σ H Q => ∃ G env ds env', StOk K T G σ H env ∧ f env = some (ds, env') ∧ ∀ vs G' H', StOk K T G' σ H' env' → Ext T pin G σ H env G' σ H' env' → RepL K G' ds vs → Q vs H'
end
abbrev FE (X : Cx) (T : List Addr) (pin : List Nat) (e : Expr) (f : M EV) : Prop := PE X e (rE X.K T pin f)
abbrev FD (X : Cx) (T : List Addr) (pin : List Nat) (e : Expr) (f : M PyData) : Prop := PE X e (rD X.K T pin f)
abbrev FT (X : Cx) (T : List Addr) (pin : List Nat) (e : Expr) (f : M Bool) : Prop := PT X e (rT X.K T pin f)
abbrev FA (X : Cx) (T : List Addr) (pin : List Nat) (es : List Expr) (f : M (List EV)) : Prop := PA X es (rA X.K T pin f)
abbrev FDs (X : Cx) (T : List Addr) (pin : List Nat) (es : List Expr) (f : M (List PyData)) : Prop := PA X es (rDs X.K T pin f)

section
variable {X : Cx} {T : List Addr} {pin : List Nat} {e a b : Expr} {pos : Pos}

/-- .. frozen -/
theorem fd_of_fe {f : M EV} (h : FE X T pin e f) : FD X T pin e (bindM f frz) := by
  refine PE.imp h fun σ H Q ⟨G, env, d, env2, S, hf, k⟩ => ?_
  obtain ⟨ev, env1, h1, h2⟩ := bindM_some hf
  refine ⟨G, env, ev, env1, S, h1, fun v G1 H1 S1 x1 o1 => ?_⟩
  obtain ⟨G2, S2, x2, r2, _⟩ := frz_ok S S1 x1 o1 h2
  exact k v G2 H1 S2 x2 r2
theorem fe_of_fd {f : M PyData} (h : FD X T pin e f) : FE X T pin e (bindM f fun d => retM (.im d)) := by
  refine PE.imp h fun σ H Q ⟨G, env, d, env2, S, hf, k⟩ => ?_
  obtain ⟨ev, env1, h1, h2⟩ := bindM_some hf
  cases h2
  exact ⟨G, env, ev, _, S, h1, fun v G1 H1 S1 x1 o1 => k v G1 H1 S1 x1 o1⟩

/-! ### names, constants -/
def fVar (i : Nat) : M EV := fun env => match env[i]? with
  | some (.im d) => some (.im d, env)
  | some (.mu _) => some (.slot i, env)
  | _ => none
theorem fe_var {i : Nat} {x : Str} (hN : X.N[i]? = some x) (hv : Vis X.env.scope x) (hd : (x == ("__debug__" : Str)) = false := by decide) (hcd : (x == ("__classdict__" : Str)) = false := by decide) : FE X T pin (.Name x pos) (fVar i) := by
  refine PE.imp (pe_var hN hv hd hcd) fun σ H Q ⟨G, env, ev, env', S, hf, k⟩ => ?_
  unfold fVar at hf
  split at hf
  · cases hf
    rename_i d q
    obtain ⟨v, h1, h2⟩ := S.im i d q
    exact ⟨v, h1, k v G H S (Ext.refl S) h2⟩
  · cases hf
    rename_i ds q
    obtain ⟨a, xs, h1, _⟩ := S.mu i ds q
    exact ⟨_, h1, k _ G H S (Ext.refl S) h1⟩
  · cases hf
def fC (d : PyData) : M EV := retM (.im d)
theorem fe_int {i j pos} : FE X T pin (.Constant (.int i) j pos) (fC (.int i)) := PE.imp pe_int fun σ H Q ⟨G, env, ev, env', S, hf, k⟩ => by cases hf; exact k _ G H S (Ext.refl S) rfl
theorem fe_bl {i j pos} : FE X T pin (.Constant (.bool i) j pos) (fC (.bool i)) := PE.imp pe_bl fun σ H Q ⟨G, env, ev, env', S, hf, k⟩ => by cases hf; exact k _ G H S (Ext.refl S) rfl
theorem fe_str {i j pos} : FE X T pin (.Constant (.str i) j pos) (fC (.str i)) := PE.imp pe_str fun σ H Q ⟨G, env, ev, env', S, hf, k⟩ => by cases hf; exact k _ G H S (Ext.refl S) rfl
theorem fe_non {j pos} : FE X T pin (.Constant .none j pos) (fC .none) := PE.imp pe_non fun σ H Q ⟨G, env, ev, env', S, hf, k⟩ => by cases hf; exact k _ G H S (Ext.refl S) rfl
/-- a constant of the module -/
theorem fe_glob {x : Str} {v : V} {u : Value} {d : PyData} (hg : Gl X x) (hm : X.mg x = some u) (r : RelV v u) (hr : ∀ G, Rep X.K G d v) (hd : (x == ("__debug__" : Str)) = false := by decide) : FE X T pin (.Name x pos) (fC d) :=
  PE.imp (pe_glob hg hm r hd) fun σ H Q ⟨G, env, ev, env', S, hf, k⟩ => by cases hf; exact k _ G H S (Ext.refl S) (hr G)

/-! ### two operands -/
def ResOk (K : PySem.W.Frag) (G H H0 : Hp) : EV → V → Prop
  | .im d, v => Rep K G d v
  | .own ds, v => ∃ a xs, v = .ref a ∧ G a = none ∧ H a = some (.lst xs) ∧ RepL K G ds xs ∧ H0 a = none
  | .slot _, _ => False
theorem ResOk.val {K : PySem.W.Frag} {G H G0 : Hp} {σ : L2.St} {env : FEnv} {H0 H9 : Hp} {ev : EV} {v : V} (h : ResOk K G H H0 ev v) (S0 : StOk K T G0 σ H0 env) (hx : ∀ a, H0 a = none → H9 a = none) : ValOk K G σ H env H9 ev v := by
  cases ev with
  | im d => exact h
  | slot i => exact h.elim
  | own ds =>
    obtain ⟨a, xs, e1, e2, e3, e4, e5⟩ := h
    refine ⟨a, xs, e1, e2, e3, e4, hx a e5, fun hm => ?_⟩
    obtain ⟨_, _, ys, q⟩ := S0.mu_no hm
    rw [e5] at q; cases q
def Op2 (K : PySem.W.Frag) (r : R2) (o : SV → SV → Option EV) : Prop :=
  ∀ (x y : SV) (z : EV) (G H : Hp) (vx vy : V) (Q : VK), Same G H → o x y = some z → VwOk K G H x vx → VwOk K G H y vy → (∀ v G' H', Grow G H G' H' → ResOk K G' H' H z v → Q v H') → r vx vy H Q
def op2 (f g : M EV) (o : SV → SV → Option EV) : M EV := bindM f fun x => bindM g fun y => fun env => match view x env, view y env with
  | some p, some q => match o p q with
    | some z => some (z, env)
    | none => none
  | _, _ => none
theorem op2_ok {K : PySem.W.Frag} {f g : M EV} {o : SV → SV → Option EV} {r : R2} (hr : Op2 K r o) {σ : L2.St} {H : Hp} {Q : VK} (h : rE K T pin (op2 f g o) σ H Q) : rE K T pin f σ H fun x H1 => rE K T pin g σ H1 fun y H2 => r x y H2 Q := by
  obtain ⟨G, env, ev, env3, S, hf, k⟩ := h
  obtain ⟨x, env1, h1, hf⟩ := bindM_some hf
  obtain ⟨y, env2, h2, hf⟩ := bindM_some hf
  refine ⟨G, env, x, env1, S, h1, fun vx G1 H1 S1 x1 o1 => ⟨G1, env1, y, env2, S1, h2, fun vy G2 H2 S2 x2 o2 => ?_⟩⟩
  split at hf
  · rename_i p q e1 e2
    split at hf
    · rename_i z e3
      cases hf
      refine hr p q ev G2 H2 vx vy Q S2.same e3 ((o1.stay S1 x2).view S2 e1) (o2.view S2 e2) fun v G' H' gr ro => ?_
      exact k v G' H' (S2.grow gr) ((x1.trans x2).trans (Ext.grow S2 gr)) (ro.val S2 fun a e => x1.fresh (x2.fresh e))
    · cases hf
  · cases hf
theorem fe_bin {op : Operator} {r : R2} {o : SV → SV → Option EV} {f g : M EV} (hr : Op2 X.K r o) (ho : OpR X (binaryOp op) r) (ha : FE X T pin a f) (hb : FE X T pin b g) : FE X T pin (.BinOp a op b pos) (op2 f g o) :=
  PE.imp (pe_op ho ha hb) fun _ _ _ h => op2_ok hr h
theorem fe_cmp {op : CmpOp} {r : R2} {o : SV → SV → Option EV} {f g : M EV} (hr : Op2 X.K r o) (ho : OpR X (compareOp op) r) (ha : FE X T pin a f) (hb : FE X T pin b g) (hm : behindInMarks op b = false) : FE X T pin (.Compare a [op] [b] pos) (op2 f g o) :=
  PE.imp (pe_cmpR ho ha hb hm) fun _ _ _ h => op2_ok hr h
theorem fe_ix {r : R2} {o : SV → SV → Option EV} {f g : M EV} (hr : Op2 X.K r o) (ho : IxR X r) (ha : FE X T pin a f) (hb : FE X T pin b g) (hs : PlainIx b) : FE X T pin (.Subscript a b pos) (op2 f g o) :=
  PE.imp (pe_ix ho ha hb hs) fun _ _ _ h => op2_ok hr h
end

/-! ### the operators -/
def SV.asM : SV → Option (List PyData)
  | .mu ds => some ds
  | _ => none
theorem VwOk.own {K : PySem.W.Frag} {G H : Hp} {sv : SV} {v : V} (h : VwOk K G H sv v) {ds : List PyData} (e : sv.asM = some ds) : ∃ a xs, v = .ref a ∧ H a = some (.lst xs) ∧ RepL K G ds xs := by
  cases sv with
  | no => cases e
  | mu es => cases e; exact h
  | im d => cases e
theorem some_if {α : Type} {c : Prop} [Decidable c] {a z : α} (h : (if c then some a else none) = some z) : c ∧ a = z := by
  split at h
  · exact ⟨by assumption, Option.some.inj h⟩
  · cases h
def int1 (x y : SV) (f : Int → Int → Option PyData) : Option EV := match x.asI, y.asI with
  | some i, some j => match f i j with
    | some d => some (.im d)
    | none => none
  | _, _ => none
theorem int1_some {x y : SV} {f : Int → Int → Option PyData} {z : EV} (h : int1 x y f = some z) : ∃ i j d, x.asI = some i ∧ y.asI = some j ∧ f i j = some d ∧ z = .im d := by
  unfold int1 at h
  split at h
  · split at h
    · cases h
      exact ⟨_, _, _, by assumption, by assumption, by assumption, rfl⟩
    · cases h
  · cases h
section
variable {K : PySem.W.Frag}
/-- a result that is a plain value -/
theorem give {G H : Hp} {d : PyData} {v : V} {Q : VK} (hs : Same G H) (k : ∀ v G' H', Grow G H G' H' → ResOk K G' H' H (.im d) v → Q v H') (h : Rep K G d v) : Q v H := k v G H (Grow.refl hs) h
/-- a new tuple, a new list -/
theorem giveT {G H : Hp} {ds : List PyData} {xs : List V} {Q : VK} {p : Addr} (hs : Same G H) (k : ∀ v G' H', Grow G H G' H' → ResOk K G' H' H (.im (.tuple ds)) v → Q v H') (h : RepL K G ds xs) (hp : H p = none) : Q (.ref p) (upd H p (.tup xs)) :=
  k _ _ _ (Grow.im (.tup xs) hs hp) ⟨p, xs, rfl, SqT.of upd_same, h.mono (same_upd (hs.free hp))⟩
theorem giveL {G H : Hp} {ds : List PyData} {xs : List V} {Q : VK} {p : Addr} (hs : Same G H) (k : ∀ v G' H', Grow G H G' H' → ResOk K G' H' H (.own ds) v → Q v H') (h : RepL K G ds xs) (hp : H p = none) : Q (.ref p) (upd H p (.lst xs)) :=
  k _ _ _ (Grow.mu (.lst xs) hs hp) ⟨p, xs, rfl, hs.free hp, upd_same, h, hp⟩

/-- list + list, frozen or not -/
def rCatL (K : PySem.W.Frag) : R2 := fun x y H Q => ∃ l b xs zs, x = .ref l ∧ y = .ref b ∧ SqL K H l xs ∧ SqL K H b zs ∧ xs.length + zs.length ≤ sizeLine ∧ ∀ p, H p = none → Q (.ref p) (upd H p (.lst (xs ++ zs)))
theorem op_catL {X : Cx} : OpR X (binaryOp .Add) (rCatL X.K) := by
  intro pins s σ H x y v u Q I rx ry h
  obtain ⟨l, b, xs, zs, rfl, rfl, hH, hB, hz, q⟩ := h
  cases rx
  cases ry
  obtain ⟨its, r, p1, _⟩ := I.list hH
  obtain ⟨its2, r2, p2, _⟩ := I.list hB
  obtain ⟨⟨cls, dd, data, sl⟩, n, ho, hc, _, hd⟩ := p1
  obtain ⟨⟨cls2, dd2, data2, sl2⟩, n2, ho2, hc2, _, hd2⟩ := p2
  simp only at hc hd hc2 hd2
  subst hc hd hc2 hd2
  have l1 := r.length
  have l2 := r2.length
  have e : its.toArray ++ its2.toArray = (its ++ its2).toArray := by simp
  refine concat_meets ⟨_, ho, rfl⟩ ⟨_, ho2, rfl⟩ noFill_list_add seq_list_add PySem.F.slot_list_add PySem.F.entry_list_add (PySem.F.args_list_add_2 _ _) (list_addW l b its.toArray its2.toArray n n2 dd dd2 sl sl2 (by simp; omega)) ⟨ho, ho2, ?_⟩
  rw [e]
  exact ⟨.ref _, _, I.lnew (t' := s.toks) (r.append r2) (by rw [List.length_append]; omega), rfl, q _ I.fresh⟩
def oAdd (x y : SV) : Option EV := match x, y with
  | .im (.int i), .im (.int j) => some (.im (.int (i + j)))
  | .im (.str i), .im (.str j) => if i.length + j.length ≤ sizeLine then some (.im (.str (i ++ j))) else none
  | .im (.tuple i), .im (.tuple j) => if i.length + j.length ≤ sizeLine then some (.im (.tuple (i ++ j))) else none
  | x, y => match x.asL, y.asL with
    | some i, some j => if i.length + j.length ≤ sizeLine then some (.own (i ++ j)) else none
    | _, _ => none
def rAdd (K : PySem.W.Frag) : R2 := fun x y H Q => (((rI0 fun i j => .int (i + j)) x y H Q ∨ (∃ i j, x = .str i ∧ y = .str j ∧ i.length + j.length ≤ sizeLine ∧ Q (.str (i ++ j)) H)) ∨ rCatA K x y H Q) ∨ rCatL K x y H Q
theorem op_addA {X : Cx} : OpR X (binaryOp .Add) (rAdd X.K) := OpR.or (OpR.or (OpR.or op_add op_add_str) op_catA) op_catL
theorem o2_add : Op2 K (rAdd K) oAdd := by
  intro x y z G H vx vy Q hs h hx hy k
  unfold oAdd at h
  split at h
  · cases h
    cases hx; cases hy
    exact .inl (.inl (.inl ⟨_, _, rfl, rfl, give hs k rfl⟩))
  · obtain ⟨c, rfl⟩ := some_if h
    cases hx; cases hy
    exact .inl (.inl (.inr ⟨_, _, rfl, rfl, c, give hs k rfl⟩))
  · obtain ⟨c, rfl⟩ := some_if h
    rename_i i j
    obtain ⟨a, xs, rfl, e1, r1⟩ := hx
    obtain ⟨b, ys, rfl, e2, r2⟩ := hy
    refine .inl (.inr ⟨a, b, xs, ys, rfl, rfl, same_seqT hs e1, same_seqT hs e2, by rw [← r1.length, ← r2.length]; exact c, fun z => ?_, fun z1 z2 => ?_, fun z1 z2 p hp => ?_⟩)
    · subst z
      have : i = [] := List.length_eq_zero_iff.mp (by rw [r1.length]; rfl)
      subst this
      exact give hs k ⟨b, ys, rfl, e2, r2⟩
    · subst z2
      have : j = [] := List.length_eq_zero_iff.mp (by rw [r2.length]; rfl)
      subst this
      rw [List.append_nil] at k
      exact give hs k ⟨a, xs, rfl, e1, r1⟩
    · exact giveT hs k (r1.append r2) hp
  · split at h
    · rename_i q1 q2
      obtain ⟨c, rfl⟩ := some_if h
      obtain ⟨a, xs, rfl, e1, r1⟩ := hx.list hs q1
      obtain ⟨b, ys, rfl, e2, r2⟩ := hy.list hs q2
      exact .inr ⟨a, b, xs, ys, rfl, rfl, e1, e2, by rw [← r1.length, ← r2.length]; exact c, fun p hp => giveL hs k (r1.append r2) hp⟩
    · cases h

def oSub (x y : SV) : Option EV := int1 x y fun i j => some (.int (i - j))
theorem o2_sub : Op2 K (rI0 fun i j => .int (i - j)) oSub := by
  intro x y z G H vx vy Q hs h hx hy k
  obtain ⟨i, j, d, e1, e2, e3, rfl⟩ := int1_some h
  cases e3
  exact ⟨i, j, hx.int e1, hy.int e2, give hs k rfl⟩
def small (i : Int) : Bool := decide (i.natAbs < 18446744073709551616)
theorem small_of {i : Int} (h : small i = true) : -(2 ^ 64) < i ∧ i < 2 ^ 64 := by
  have h : i.natAbs < 18446744073709551616 := of_decide_eq_true h
  have e64 : (2 : Int) ^ 64 = 18446744073709551616 := by decide
  rw [e64]
  omega
theorem repL_rep {G : Hp} {ds : List PyData} {xs : List V} (h : RepL K G ds xs) : ∀ n : Nat, RepL K G (List.replicate n ds).flatten (List.replicate n xs).flatten
  | 0 => trivial
  | n + 1 => by
    rw [List.replicate_succ, List.replicate_succ, List.flatten_cons, List.flatten_cons]
    exact h.append (repL_rep h n)
def oMul (x y : SV) : Option EV := match x, y with
  | .im (.int i), .im (.int j) => if (small i || small j) = true then some (.im (.int (i * j))) else none
  | .mu i, .im (.int j) => if -(2 ^ 63) ≤ j ∧ j < 2 ^ 63 ∧ i.length * j.toNat ≤ sizeLine then some (.own (List.replicate j.toNat i).flatten) else none
  | _, _ => none
def rMul : R2 := fun x y H Q => (rI CMul fun i j => .int (i * j)) x y H Q ∨ rRep x y H Q
theorem op_mulA {X : Cx} : OpR X (binaryOp .Mult) rMul := OpR.or op_mul op_rep
theorem o2_mul : Op2 K rMul oMul := by
  intro x y z G H vx vy Q hs h hx hy k
  unfold oMul at h
  split at h
  · obtain ⟨c, rfl⟩ := some_if h
    cases hx; cases hy
    refine .inl ⟨_, _, rfl, rfl, ?_, give hs k rfl⟩
    rcases Bool.or_eq_true_iff.mp c with c | c
    · exact .inl (small_of c)
    · exact .inr (small_of c)
  · obtain ⟨⟨c1, c2, c3⟩, rfl⟩ := some_if h
    obtain ⟨a, xs, rfl, e1, r1⟩ := hx
    cases hy
    exact .inr ⟨a, _, xs, rfl, rfl, e1, c1, c2, by rw [← r1.length]; exact c3, fun p hp => giveL hs k (repL_rep r1 _) hp⟩
  · cases h
def oDiv (x y : SV) : Option EV := int1 x y fun i j => if 0 < j ∧ j < 1073741824 then some (.int (i / j)) else none
theorem o2_div : Op2 K (rI CDiv fun i j => .int (i / j)) oDiv := by
  intro x y z G H vx vy Q hs h hx hy k
  obtain ⟨i, j, d, e1, e2, e3, rfl⟩ := int1_some h
  obtain ⟨c, rfl⟩ := some_if e3
  exact ⟨i, j, hx.int e1, hy.int e2, c, give hs k rfl⟩
def oMod (x y : SV) : Option EV := int1 x y fun i j => if 0 < j then some (.int (i % j)) else none
theorem o2_mod : Op2 K (rI (fun _ j => 0 < j) fun i j => .int (i % j)) oMod := by
  intro x y z G H vx vy Q hs h hx hy k
  obtain ⟨i, j, d, e1, e2, e3, rfl⟩ := int1_some h
  obtain ⟨c, rfl⟩ := some_if e3
  exact ⟨i, j, hx.int e1, hy.int e2, c, give hs k rfl⟩
def oPow (x y : SV) : Option EV := int1 x y fun i j => if 0 ≤ j ∧ j ≤ 1000000 ∧ i.natAbs < 2 ^ 64 then some (.int (i ^ j.toNat)) else none
theorem o2_pow : Op2 K (rI CPow fun i j => .int (i ^ j.toNat)) oPow := by
  intro x y z G H vx vy Q hs h hx hy k
  obtain ⟨i, j, d, e1, e2, e3, rfl⟩ := int1_some h
  obtain ⟨c, rfl⟩ := some_if e3
  exact ⟨i, j, hx.int e1, hy.int e2, c, give hs k rfl⟩
def oLt (x y : SV) : Option EV := int1 x y fun i j => some (.bool (decide (i < j)))
def oLe (x y : SV) : Option EV := int1 x y fun i j => some (.bool (decide (i ≤ j)))
def oGt (x y : SV) : Option EV := int1 x y fun i j => some (.bool (decide (j < i)))
def oGe (x y : SV) : Option EV := int1 x y fun i j => some (.bool (decide (j ≤ i)))
theorem o2_cmpI {p : Int → Int → Bool} : Op2 K (rI0 fun i j => .bl (p i j)) fun x y => int1 x y fun i j => some (.bool (p i j)) := by
  intro x y z G H vx vy Q hs h hx hy k
  obtain ⟨i, j, d, e1, e2, e3, rfl⟩ := int1_some h
  cases e3
  exact ⟨i, j, hx.int e1, hy.int e2, give hs k rfl⟩
theorem o2_lt : Op2 K (rI0 fun i j => .bl (decide (i < j))) oLt := o2_cmpI
theorem o2_le : Op2 K (rI0 fun i j => .bl (decide (i ≤ j))) oLe := o2_cmpI
theorem o2_gt : Op2 K (rI0 fun i j => .bl (decide (j < i))) oGt := o2_cmpI
theorem o2_ge : Op2 K (rI0 fun i j => .bl (decide (j ≤ i))) oGe := o2_cmpI

mutual
theorem dp_of {G H : Hp} (hs : Same G H) : ∀ {d : PyData} {v : V}, Rep K G d v → Dp K H v d
  | .none, _, h => by cases h; exact .non
  | .bool b, _, h => by cases h; exact .bl b
  | .int i, _, h => by cases h; exact .int i
  | .str x, _, h => by cases h; exact .str x
  | .tuple ds, _, h => by
    obtain ⟨a, xs, rfl, e2, e3⟩ := h
    exact .tup (same_seqT hs e2) (dpAll_of hs e3)
  | .list ds, _, h => by
    obtain ⟨a, xs, rfl, e2, e3⟩ := h
    exact .lst (Same.seq hs e2) (dpAll_of hs e3)
  | .dict _, _, h => h.elim
theorem dpAll_of {G H : Hp} (hs : Same G H) : ∀ {ds : List PyData} {xs : List V}, RepL K G ds xs → DpAll K H xs ds
  | [], [], _ => .nil
  | _ :: _, _ :: _, h => .cons (dp_of hs h.1) (dpAll_of hs h.2)
  | [], _ :: _, h => h.elim
  | _ :: _, [], h => h.elim
end
theorem VwOk.dp {G H : Hp} {sv : SV} {v : V} (h : VwOk K G H sv v) (hs : Same G H) {d : PyData} (e : sv.dat = some d) : Dp K H v d := by
  cases sv with
  | no => cases e
  | mu ds =>
    cases e
    obtain ⟨a, xs, rfl, e1, e2⟩ := h
    exact .lst (SqL.of e1) (dpAll_of hs e2)
  | im d' => cases e; exact dp_of hs h
def dat2 (x y : SV) (f : PyData → PyData → Option PyData) : Option EV := match x.dat, y.dat with
  | some i, some j => match f i j with
    | some d => some (.im d)
    | none => none
  | _, _ => none
theorem dat2_some {x y : SV} {f : PyData → PyData → Option PyData} {z : EV} (h : dat2 x y f = some z) : ∃ i j d, x.dat = some i ∧ y.dat = some j ∧ f i j = some d ∧ z = .im d := by
  unfold dat2 at h
  split at h
  · split at h
    · cases h
      exact ⟨_, _, _, by assumption, by assumption, by assumption, rfl⟩
    · cases h
  · cases h
def oEq (x y : SV) : Option EV := dat2 x y fun d e => if (SeqAt.shaped d && SeqAt.shaped e) = true then some (.bool (PyData.eqv d e)) else none
def oNe (x y : SV) : Option EV := dat2 x y fun d e => if (SeqAt.shaped d && SeqAt.shaped e) = true then some (.bool (!PyData.eqv d e)) else none
theorem o2_eq : Op2 K (rEqD K) oEq := by
  intro x y z G H vx vy Q hs h hx hy k
  obtain ⟨i, j, d, e1, e2, e3, rfl⟩ := dat2_some h
  obtain ⟨c, rfl⟩ := some_if e3
  obtain ⟨c1, c2⟩ := Bool.and_eq_true_iff.mp c
  exact ⟨i, j, hx.dp hs e1, hy.dp hs e2, c1, c2, give hs k rfl⟩
theorem o2_ne : Op2 K (rNeD K) oNe := by
  intro x y z G H vx vy Q hs h hx hy k
  obtain ⟨i, j, d, e1, e2, e3, rfl⟩ := dat2_some h
  obtain ⟨c, rfl⟩ := some_if e3
  obtain ⟨c1, c2⟩ := Bool.and_eq_true_iff.mp c
  exact ⟨i, j, hx.dp hs e1, hy.dp hs e2, c1, c2, give hs k rfl⟩

/-! in, not in -/
def strIn (i j : Str) : Bool := !(Builtin.Str.occurrences j i 0 j.length 1).isEmpty
def inD (d : PyData) (ds : List PyData) : Bool := ds.any fun z => PyData.eqv z d
def oInB (neg : Bool) (x y : SV) : Option EV := match x, y with
  | .im (.str i), .im (.str j) => some (.im (.bool (if neg then !strIn i j else strIn i j)))
  | x, y => match x.dat, y.asQ with
    | some d, some ds => if (SeqAt.shaped d && SeqAt.shaped (.list ds)) = true then some (.im (.bool (if neg then !inD d ds else inD d ds))) else none
    | _, _ => none
def rInA (K : PySem.W.Frag) (neg : Bool) : R2 := fun x y H Q => (∃ i j, x = .str i ∧ y = .str j ∧ Q (.bl (if neg then !strIn i j else strIn i j)) H) ∨
  ∃ d ds, Dp K H x d ∧ (Dp K H y (.list ds) ∨ Dp K H y (.tuple ds)) ∧ SeqAt.shaped d = true ∧ SeqAt.shaped (.list ds) = true ∧ Q (.bl (if neg then !inD d ds else inD d ds)) H
end
theorem depth_list {ds : List PyData} (h : SeqAt.shaped (.list ds) = true) : PyData.canLayAll0 ds = true ∧ PyData.depthAll ds ≤ 64 := by
  have h1 := SeqAt.canLay_of_shaped h
  have h2 := SeqAt.depth_of_shaped h
  refine ⟨by simpa [PyData.canLay0] using h1, ?_⟩
  simp only [PyData.depth] at h2
  omega
theorem op_inA {X : Cx} (hu : X.A.units + 66 < cLine) : OpR X (compareOp .In) (rInA X.K false) := by
  intro pins s σ H x y v u Q I rx ry h
  rcases h with ⟨i, j, rfl, rfl, q⟩ | ⟨d, ds, hd, hl, sd, sl, q⟩
  · exact op_in_str pins s σ H _ _ v u Q I rx ry ⟨i, j, rfl, rfl, q⟩
  · obtain ⟨as, r1⟩ := Dp.reads I d x v hd rx
    obtain ⟨c1, c2⟩ := depth_list sl
    have hu' : X.A.units + 1 + min (PyData.depthAll ds) d.depth < cLine := by
      have := Nat.min_le_left (PyData.depthAll ds) d.depth
      omega
    rcases hl with hl | hl
    · obtain ⟨bs, r2⟩ := Dp.reads I _ y u hl ry
      exact SeqAt.in_list_reads r2 r1 c1 (SeqAt.canLay_of_shaped sd) hu' ⟨.bl _, H, I, rfl, q⟩
    · obtain ⟨bs, r2⟩ := Dp.reads I _ y u hl ry
      exact SeqAt.in_tuple_reads r2 r1 c1 (SeqAt.canLay_of_shaped sd) hu' ⟨.bl _, H, I, rfl, q⟩
theorem op_notInA {X : Cx} (hu : X.A.units + 66 < cLine) : OpR X (compareOp .NotIn) (rInA X.K true) := by
  intro pins s σ H x y v u Q I rx ry h
  rcases h with ⟨i, j, rfl, rfl, q⟩ | ⟨d, ds, hd, hl, sd, sl, q⟩
  · exact op_notin_str pins s σ H _ _ v u Q I rx ry ⟨i, j, rfl, rfl, q⟩
  · obtain ⟨as, r1⟩ := Dp.reads I d x v hd rx
    obtain ⟨c1, c2⟩ := depth_list sl
    have hu' : X.A.units + 1 + min (PyData.depthAll ds) d.depth < cLine := by
      have := Nat.min_le_left (PyData.depthAll ds) d.depth
      omega
    rcases hl with hl | hl
    · obtain ⟨bs, r2⟩ := Dp.reads I _ y u hl ry
      exact SeqAt.notIn_list_reads r2 r1 c1 (SeqAt.canLay_of_shaped sd) hu' ⟨.bl _, H, I, rfl, q⟩
    · obtain ⟨bs, r2⟩ := Dp.reads I _ y u hl ry
      exact SeqAt.notIn_tuple_reads r2 r1 c1 (SeqAt.canLay_of_shaped sd) hu' ⟨.bl _, H, I, rfl, q⟩
section
variable {K : PySem.W.Frag}
theorem asQ_dp {G H : Hp} {sv : SV} {v : V} (h : VwOk K G H sv v) (hs : Same G H) {ds : List PyData} (e : sv.asQ = some ds) : Dp K H v (.list ds) ∨ Dp K H v (.tuple ds) := by
  cases sv with
  | no => cases e
  | mu es => cases e; exact .inl (h.dp hs rfl)
  | im d =>
    cases d with
    | list es => cases e; exact .inl (h.dp hs rfl)
    | tuple es => cases e; exact .inr (h.dp hs rfl)
    | _ => cases e
theorem o2_inB {neg : Bool} : Op2 K (rInA K neg) (oInB neg) := by
  intro x y z G H vx vy Q hs h hx hy k
  unfold oInB at h
  split at h
  · cases h
    cases hx; cases hy
    exact .inl ⟨_, _, rfl, rfl, give hs k rfl⟩
  · split at h
    · rename_i d ds e1 e2
      obtain ⟨c, rfl⟩ := some_if h
      obtain ⟨c1, c2⟩ := Bool.and_eq_true_iff.mp c
      exact .inr ⟨d, ds, hx.dp hs e1, asQ_dp hy hs e2, c1, c2, give hs k rfl⟩
    · cases h

/-! is, is not: None, True, False -/
def oIsB (neg : Bool) (x y : SV) : Option EV := match y with
  | .im .none => match x with
    | .im d => some (.im (.bool (if neg then (match d with | .none => false | _ => true) else (match d with | .none => true | _ => false))))
    | .mu _ => some (.im (.bool neg))
    | .no => none
  | .im (.bool c) => match x with
    | .im (.bool b) => some (.im (.bool (if neg then !(b == c) else (b == c))))
    | _ => none
  | _ => none
def rIsA (neg : Bool) : R2 := fun x y H Q => (y = .non ∧ Q (.bl (if neg then !decide (x = .non) else decide (x = .non))) H) ∨ (∃ a b : Bool, x = .bl a ∧ y = .bl b ∧ Q (.bl (if neg then !decide (a = b) else decide (a = b))) H)
theorem op_isA {X : Cx} : OpR X (compareOp .Is) (rIsA false) := OpR.or op_isN op_isBl
theorem op_isNotA {X : Cx} : OpR X (compareOp .IsNot) (rIsA true) := OpR.or op_notN op_notBl
theorem rep_non {G : Hp} {d : PyData} {v : V} (h : Rep K G d v) : decide (v = .non) = (match d with | .none => true | _ => false) := by
  cases d with
  | none => cases h; rfl
  | bool b => cases h; rfl
  | int b => cases h; rfl
  | str b => cases h; rfl
  | tuple ds => obtain ⟨a, xs, rfl, _⟩ := h; rfl
  | list ds => obtain ⟨a, xs, rfl, _⟩ := h; rfl
  | dict ds => exact h.elim
theorem o2_isB {neg : Bool} : Op2 K (rIsA neg) (oIsB neg) := by
  intro x y z G H vx vy Q hs h hx hy k
  unfold oIsB at h
  split at h
  · split at h
    · cases h
      rename_i d
      have hy : vy = .non := hy
      subst hy
      refine .inl ⟨rfl, give hs k ?_⟩
      have e := rep_non (show Rep K G d vx from hx)
      rw [e]
      cases neg <;> cases d <;> rfl
    · cases h
      have hy : vy = .non := hy
      subst hy
      obtain ⟨a, xs, rfl, _⟩ := hx
      refine .inl ⟨rfl, give hs k ?_⟩
      cases neg <;> rfl
    · cases h
  · split at h
    · cases h
      rename_i b
      have hy : vy = .bl _ := hy
      have hx : vx = .bl b := hx
      subst hy hx
      refine .inr ⟨_, _, rfl, rfl, give hs k ?_⟩
      rename_i c
      cases neg <;> cases b <;> cases c <;> rfl
    · cases h
  · cases h
end
end FN

/-! A functional layer: items, slices, displays, calls of built-ins, tests -/
namespace FN
open PySem PySem.Spec PyProof.Rows L2 GX GxR

/-! ### items -/
section
variable {K : PySem.W.Frag}
theorem atI_rep {G : Hp} {ds : List PyData} {xs : List V} (h : RepL K G ds xs) {i : Int} {d : PyData} (e : atI ds i = some d) : ∃ x, atI xs i = some x ∧ Rep K G d x := by
  unfold atI at e ⊢
  rw [h.length] at e
  cases q : ixN xs.length i with
  | none => rw [q] at e; cases e
  | some j =>
    rw [q] at e
    exact h.get e
def oIx (x y : SV) : Option EV := match y.asI with
  | none => none
  | some i => match x with
    | .im (.str z) => if z.length ≤ sizeLine then (match atI z.cps.toList i with | some c => some (.im (.str ⟨#[c]⟩)) | none => none) else none
    | x => match x.asQ with
      | some ds => (match atI ds i with | some d => some (.im d) | none => none)
      | none => none
theorem o2_ix : Op2 K (rIx K) oIx := by
  intro x y z G H vx vy Q hs h hx hy k
  unfold oIx at h
  split at h
  · cases h
  · rename_i i e1
    have e2 := hy.int e1
    subst e2
    split at h
    · rename_i w
      obtain ⟨c, h⟩ := some_if (α := Unit) (a := ()) (z := ()) (c := w.length ≤ sizeLine) (by
        by_cases q : w.length ≤ sizeLine
        · rw [if_pos q]
        · rw [if_neg q] at h; cases h)
      rename_i h'
      rw [if_pos c] at h'
      split at h'
      · rename_i ch e3
        cases h'
        have hx : vx = .str w := hx
        subst hx
        exact .inr (.inr ⟨w, i, ch, rfl, rfl, c, e3, give hs k rfl⟩)
      · cases h'
    · split at h
      · rename_i ds e3
        split at h
        · rename_i d e4
          cases h
          obtain ⟨a, xs, rfl, q, r⟩ := hx.seq hs e3
          obtain ⟨v, e5, r2⟩ := atI_rep r e4
          rcases q with q | q
          · exact .inl ⟨a, xs, i, v, rfl, rfl, q, e5, give hs k r2⟩
          · exact .inr (.inl ⟨a, xs, i, v, rfl, rfl, q, e5, give hs k r2⟩)
        · cases h
      · cases h
end

/-! ### slices -/
def cutG {α : Type} (xs : List α) (lo hi : Option Int) : List α := (xs.drop (HT.sIx xs.length 0 lo)).take (HT.sIx xs.length xs.length hi - HT.sIx xs.length 0 lo)
theorem cut_rep {K : PySem.W.Frag} {G : Hp} {ds : List PyData} {xs : List V} (h : RepL K G ds xs) (lo hi : Option Int) : RepL K G (cutG ds lo hi) (cutV xs lo hi) := by
  unfold cutG cutV
  rw [h.length]
  exact (h.drop _).take _
def oSl (x : SV) (lo hi : Option Int) : Option EV := match x with
  | .im (.str z) => if z.length ≤ sizeLine then some (.im (.str (cutS z lo hi))) else none
  | .im (.tuple ds) => some (.im (.tuple (cutG ds lo hi)))
  | .im (.list ds) => some (.own (cutG ds lo hi))
  | .mu ds => some (.own (cutG ds lo hi))
  | _ => none
def rSlice (K : PySem.W.Frag) : V → Option Int → Option Int → Hp → VK → Prop := fun x lo hi H Q => (rSlL K x lo hi H Q ∨ rSlA K x lo hi H Q) ∨ rSlS x lo hi H Q
theorem sl_all {X : Cx} : SlR X (rSlice X.K) := SlR.or (SlR.or sl_list sl_tupA) sl_str
def OpS (K : PySem.W.Frag) (r : V → Option Int → Option Int → Hp → VK → Prop) (o : SV → Option Int → Option Int → Option EV) : Prop :=
  ∀ (x : SV) (lo hi : Option Int) (z : EV) (G H : Hp) (vx : V) (Q : VK), Same G H → o x lo hi = some z → VwOk K G H x vx → (∀ v G' H', Grow G H G' H' → ResOk K G' H' H z v → Q v H') → r vx lo hi H Q
theorem cutG_all {ds : List PyData} {n : Nat} {lo hi : Option Int} (hn : ds.length = n) (h : HT.sIx n 0 lo = 0 ∧ HT.sIx n n hi = n) : cutG ds lo hi = ds := by
  subst hn
  unfold cutG
  rw [h.1, h.2]
  simp
theorem os_sl {K : PySem.W.Frag} : OpS K (rSlice K) oSl := by
  intro x lo hi z G H vx Q hs h hx k
  unfold oSl at h
  split at h
  · obtain ⟨c, rfl⟩ := some_if h
    exact .inr ⟨_, hx, c, give hs k rfl⟩
  · cases h
    obtain ⟨a, xs, rfl, e1, r1⟩ := hx
    refine .inl (.inr ⟨a, xs, rfl, same_seqT hs e1, fun hw => ?_, fun _ p hp => giveT hs k (cut_rep r1 _ _) hp⟩)
    rw [cutG_all r1.length hw] at k
    exact give hs k ⟨a, xs, rfl, e1, r1⟩
  · cases h
    obtain ⟨a, xs, rfl, e1, r1⟩ := hx
    exact .inl (.inl ⟨a, xs, rfl, Same.seq hs e1, fun p hp => giveL hs k (cut_rep r1 _ _) hp⟩)
  · cases h
    obtain ⟨a, xs, rfl, e1, r1⟩ := hx
    exact .inl (.inl ⟨a, xs, rfl, SqL.of e1, fun p hp => giveL hs k (cut_rep r1 _ _) hp⟩)
  · cases h
def rO (K : PySem.W.Frag) (T : List Addr) (pin : List Nat) (f : M (Option Int)) : TO := fun σ H Q => ∃ G env o env', StOk K T G σ H env ∧ f env = some (o, env') ∧ ∀ G' H', StOk K T G' σ H' env' → Ext T pin G σ H env G' σ H' env' → Q o H'
theorem PO.imp {X : Cx} {e : Option Expr} {t t' : TO} (h : PO X e t) (k : ∀ σ H Q, t' σ H Q → t σ H Q) : PO X e t' := ⟨fun pins s σ H Q I q => h.run pins s σ H Q I (k σ H Q q)⟩
def evI (ev : EV) : M Int := fun env => match view ev env with
  | some sv => match sv.asI with
    | some i => some (i, env)
    | none => none
  | none => none
theorem evI_some {ev : EV} {env env' : FEnv} {i : Int} (h : evI ev env = some (i, env')) : env' = env ∧ ∃ sv, view ev env = some sv ∧ sv.asI = some i := by
  unfold evI at h
  split at h
  · split at h
    · cases h
      exact ⟨rfl, _, by assumption, by assumption⟩
    · cases h
  · cases h
section
variable {X : Cx} {T : List Addr} {pin : List Nat} {e a b : Expr} {es : List Expr} {pos : Pos}
theorem fo_none : PO X none (rO X.K T pin (retM none)) := by
  refine PO.imp po_none fun σ H Q ⟨G, env, o, env', S, hf, k⟩ => ?_
  cases hf
  exact k G H S (Ext.refl S)
theorem fo_some {f : M EV} (h : FE X T pin e f) : PO X (some e) (rO X.K T pin (bindM f fun ev => bindM (evI ev) fun i => retM (some i))) := by
  refine PO.imp (po_some h) fun σ H Q ⟨G, env, o, env', S, hf, k⟩ => ?_
  obtain ⟨ev, env1, h1, hf⟩ := bindM_some hf
  obtain ⟨i, env2, h2, hf⟩ := bindM_some hf
  cases hf
  obtain ⟨rfl, sv, e1, e2⟩ := evI_some h2
  exact ⟨G, env, ev, _, S, h1, fun v G1 H1 S1 x1 o1 => ⟨i, (o1.view S1 e1).int e2, k G1 H1 S1 x1⟩⟩
def slM (f : M EV) (l h : M (Option Int)) (o : SV → Option Int → Option Int → Option EV) : M EV := bindM f fun x => bindM l fun lo => bindM h fun hi => fun env => match view x env with
  | some sv => match o sv lo hi with
    | some z => some (z, env)
    | none => none
  | none => none
theorem fe_slice {f : M EV} {l h : M (Option Int)} {lo hi : Option Expr} {p2 : Pos} {r : V → Option Int → Option Int → Hp → VK → Prop} {o : SV → Option Int → Option Int → Option EV} (hr : OpS X.K r o) (ho : SlR X r)
    (he : FE X T pin e f) (hl : PO X lo (rO X.K T pin l)) (hh : PO X hi (rO X.K T pin h)) : FE X T pin (.Subscript e (.Slice lo hi none p2) pos) (slM f l h o) := by
  refine PE.imp (pe_slice ho he hl hh) fun σ H Q ⟨G, env, ev, env4, S, hf, k⟩ => ?_
  obtain ⟨x, env1, h1, hf⟩ := bindM_some hf
  obtain ⟨lo', env2, h2, hf⟩ := bindM_some hf
  obtain ⟨hi', env3, h3, hf⟩ := bindM_some hf
  refine ⟨G, env, x, env1, S, h1, fun vx G1 H1 S1 x1 o1 => ⟨G1, env1, lo', env2, S1, h2, fun G2 H2 S2 x2 => ⟨G2, env2, hi', env3, S2, h3, fun G3 H3 S3 x3 => ?_⟩⟩⟩
  split at hf
  · rename_i sv e1
    split at hf
    · rename_i z e2
      cases hf
      refine hr sv lo' hi' ev G3 H3 vx Q S3.same e2 (((o1.stay S1 x2).stay S2 x3).view S3 e1) fun v G' H' gr ro => ?_
      exact k v G' H' (S3.grow gr) (((x1.trans x2).trans x3).trans (Ext.grow S3 gr)) (ro.val S3 fun a e => x1.fresh (x2.fresh (x3.fresh e)))
    · cases hf
  · cases hf

/-! ### displays -/
theorem fds_nil : FDs X T pin [] (retM []) := by
  refine PA.imp pa_nil fun σ H Q ⟨G, env, ds, env', S, hf, k⟩ => ?_
  cases hf
  exact k [] G H S (Ext.refl S) trivial
theorem fds_cons {f : M PyData} {g : M (List PyData)} (h : FD X T pin e f) (h2 : FDs X T pin es g) (hs : starEach (e :: es) X.env = (false, eval e X.env) :: starEach es X.env := by rfl) :
    FDs X T pin (e :: es) (bindM f fun d => bindM g fun ds => retM (d :: ds)) := by
  refine PA.imp (pa_cons h h2 hs) fun σ H Q ⟨G, env, ds, env', S, hf, k⟩ => ?_
  obtain ⟨d, env1, h1, hf⟩ := bindM_some hf
  obtain ⟨ds', env2, h2, hf⟩ := bindM_some hf
  cases hf
  exact ⟨G, env, d, env1, S, h1, fun v G1 H1 S1 x1 r1 => ⟨G1, env1, ds', _, S1, h2, fun vs G2 H2 S2 x2 r2 => k (v :: vs) G2 H2 S2 (x1.trans x2) ⟨r1.mono x2.same, r2⟩⟩⟩
def mkT (ds : List PyData) : M EV := fun env => if ds.length ≤ sizeLine then some (.im (.tuple ds), env) else none
def mkL (ds : List PyData) : M EV := fun env => if ds.length ≤ sizeLine then some (.own ds, env) else none
theorem fe_tup {f : M (List PyData)} {x1} (h : FDs X T pin es f) : FE X T pin (.Tuple es x1 pos) (bindM f mkT) := by
  refine PE.imp (pe_tup h) fun σ H Q ⟨G, env, ev, env', S, hf, k⟩ => ?_
  obtain ⟨ds, env1, h1, hf⟩ := bindM_some hf
  obtain ⟨c, e⟩ := some_if hf
  cases e
  refine ⟨G, env, ds, _, S, h1, fun vs G1 H1 S1 x1 r1 => ⟨by rw [← r1.length]; exact c, fun p hp => ?_⟩⟩
  exact giveT S1.same (fun v G' H' gr ro => k v G' H' (S1.grow gr) (x1.trans (Ext.grow S1 gr)) (ro.val S1 fun a e => x1.fresh e)) r1 hp
theorem fe_lst {f : M (List PyData)} (h : FDs X T pin es f) : FE X T pin (.List es pos) (bindM f mkL) := by
  refine PE.imp (pe_lst h) fun σ H Q ⟨G, env, ev, env', S, hf, k⟩ => ?_
  obtain ⟨ds, env1, h1, hf⟩ := bindM_some hf
  obtain ⟨c, e⟩ := some_if hf
  cases e
  refine ⟨G, env, ds, _, S, h1, fun vs G1 H1 S1 x1 r1 => ⟨by rw [← r1.length]; exact c, fun p hp => ?_⟩⟩
  exact giveL S1.same (fun v G' H' gr ro => k v G' H' (S1.grow gr) (x1.trans (Ext.grow S1 gr)) (ro.val S1 fun a e => x1.fresh e)) r1 hp

/-! ### arguments -/
theorem ValsOk.stay {K : PySem.W.Frag} {G G1 : Hp} {σ : L2.St} {H H1 H0 : Hp} {env env1 : FEnv} (S : StOk K T G σ H env) (a : Ext T pin G σ H env G1 σ H1 env1) : ∀ {es : List EV} {vs : List V}, ValsOk K G σ H env H0 es vs → ValsOk K G1 σ H1 env1 H0 es vs
  | [], [], _ => trivial
  | _ :: _, _ :: _, h => ⟨h.1.stay S a, ValsOk.stay S a h.2.1, h.2.2⟩
  | [], _ :: _, h => h.elim
  | _ :: _, [], h => h.elim
theorem ValsOk.from {K : PySem.W.Frag} {G : Hp} {σ : L2.St} {H H1 H0 : Hp} {env : FEnv} {σ0 : L2.St} {env0 : FEnv} {G0 G9 : Hp} {σ9 : L2.St} {env9 : FEnv} (a : Ext T pin G0 σ0 H0 env0 G9 σ9 H1 env9) : ∀ {es : List EV} {vs : List V}, ValsOk K G σ H env H1 es vs → ValsOk K G σ H env H0 es vs
  | [], [], _ => trivial
  | _ :: _, _ :: _, h => ⟨h.1.from a, ValsOk.from a h.2.1, h.2.2⟩
  | [], _ :: _, h => h.elim
  | _ :: _, [], h => h.elim
theorem ValsOk.get {K : PySem.W.Frag} {G : Hp} {σ : L2.St} {H H0 : Hp} {env : FEnv} : ∀ {es : List EV} {vs : List V} {j : Nat} {e : EV}, ValsOk K G σ H env H0 es vs → es[j]? = some e → ∃ v, vs[j]? = some v ∧ ValOk K G σ H env H0 e v
  | [], [], _, _, _, q => by simp at q
  | e :: es, v :: vs, 0, e', h, q => by
    have q : e = e' := by simpa using q
    subst q
    exact ⟨v, rfl, h.1⟩
  | e :: es, v :: vs, j + 1, e', h, q => by
    obtain ⟨w, h1, h2⟩ := ValsOk.get (j := j) (e := e') h.2.1 (by simpa using q)
    exact ⟨w, by simpa using h1, h2⟩
  | [], _ :: _, _, _, h, _ => h.elim
  | _ :: _, [], _, _, h, _ => h.elim
theorem ValsOk.length {K : PySem.W.Frag} {G : Hp} {σ : L2.St} {H H0 : Hp} {env : FEnv} : ∀ {es : List EV} {vs : List V}, ValsOk K G σ H env H0 es vs → es.length = vs.length
  | [], [], _ => rfl
  | _ :: _, _ :: _, h => by rw [List.length_cons, List.length_cons, ValsOk.length h.2.1]
  | [], _ :: _, h => h.elim
  | _ :: _, [], h => h.elim
theorem fa_nil : FA X T pin [] (retM []) := by
  refine PA.imp pa_nil fun σ H Q ⟨G, env, ds, env', S, hf, k⟩ => ?_
  cases hf
  exact k [] G H S (Ext.refl S) trivial
theorem fa_cons {f : M EV} {g : M (List EV)} (h : FE X T pin e f) (h2 : FA X T pin es g) (hs : starEach (e :: es) X.env = (false, eval e X.env) :: starEach es X.env := by rfl) :
    FA X T pin (e :: es) (bindM f fun d => bindM g fun ds => retM (d :: ds)) := by
  refine PA.imp (pa_cons h h2 hs) fun σ H Q ⟨G, env, ds, env', S, hf, k⟩ => ?_
  obtain ⟨d, env1, h1, hf⟩ := bindM_some hf
  obtain ⟨ds', env2, h2, hf⟩ := bindM_some hf
  cases hf
  refine ⟨G, env, d, env1, S, h1, fun v G1 H1 S1 x1 o1 => ⟨G1, env1, ds', _, S1, h2, fun vs G2 H2 S2 x2 o2 => k (v :: vs) G2 H2 S2 (x1.trans x2) ⟨o1.stay S1 x2, ValsOk.from x1 o2, fun ho j e' ej he hv => ?_⟩⟩⟩
  cases d with
  | own ds1 =>
    obtain ⟨p, xs, rfl, _, q3, _⟩ := o1
    obtain ⟨w, w1, w2⟩ := o2.get ej
    rw [hv] at w1
    cases w1
    cases e' with
    | own ds2 =>
      obtain ⟨p', xs', z, _, _, _, q5, _⟩ := w2
      cases z
      rw [q3] at q5; cases q5
    | _ => cases he
  | _ => cases ho

/-! ### calls of built-ins -/
abbrev Vws (K : PySem.W.Frag) (G H : Hp) : List SV → List V → Prop := Paired (VwOk K G H)
def views : List EV → FEnv → Option (List SV)
  | [], _ => some []
  | e :: es, env => match view e env, views es env with
    | some s, some ss => some (s :: ss)
    | _, _ => none
theorem views_ok {K : PySem.W.Frag} {G : Hp} {σ : L2.St} {H H0 : Hp} {env : FEnv} (S : StOk K T G σ H env) : ∀ {es : List EV} {vs : List V} {ss : List SV}, ValsOk K G σ H env H0 es vs → views es env = some ss → Vws K G H ss vs
  | [], [], _, _, e => by cases e; exact .nil
  | _ :: _, _ :: _, ss, h, e => by
    unfold views at e
    split at e
    · cases e
      exact .cons (h.1.view S (by assumption)) (views_ok S h.2.1 (by assumption))
    · cases e
  | [], _ :: _, _, h, _ => h.elim
  | _ :: _, [], _, h, _ => h.elim
def OpN (K : PySem.W.Frag) (r : List V → Hp → VK → Prop) (o : List SV → Option EV) : Prop :=
  ∀ (xs : List SV) (z : EV) (G H : Hp) (vs : List V) (Q : VK), Same G H → o xs = some z → Vws K G H xs vs → (∀ v G' H', Grow G H G' H' → ResOk K G' H' H z v → Q v H') → r vs H Q
def opN (f : M (List EV)) (o : List SV → Option EV) : M EV := bindM f fun es => fun env => match views es env with
  | some ss => match o ss with
    | some z => some (z, env)
    | none => none
  | none => none
theorem opN_ok {K : PySem.W.Frag} {f : M (List EV)} {o : List SV → Option EV} {r : List V → Hp → VK → Prop} (hr : OpN K r o) {σ : L2.St} {H : Hp} {Q : VK} (h : rE K T pin (opN f o) σ H Q) : rA K T pin f σ H fun vs H1 => r vs H1 Q := by
  obtain ⟨G, env, ev, env3, S, hf, k⟩ := h
  obtain ⟨es, env1, h1, hf⟩ := bindM_some hf
  refine ⟨G, env, es, env1, S, h1, fun vs G1 H1 S1 x1 o1 => ?_⟩
  split at hf
  · rename_i ss e1
    split at hf
    · rename_i z e2
      cases hf
      exact hr ss ev G1 H1 vs Q S1.same e2 (views_ok S1 o1 e1) fun v G' H' gr ro => k v G' H' (S1.grow gr) (x1.trans (Ext.grow S1 gr)) (ro.val S1 fun a e => x1.fresh e)
    · cases hf
  · cases hf
theorem fe_callB {x : Str} {id : String} {p : Pos} {r : List V → Hp → VK → Prop} {o : List SV → Option EV} {f : M (List EV)} (hr : OpN X.K r o) (hc : CallR X (.builtin id) r) (hg : Gl X x) (hm : X.mg x = none) (hv : bootBuiltins x = some (.builtin id)) (ha : FA X T pin (e :: es) f)
    (hn : x ≠ "__name__" := by decide) (hdb : (x == ("__debug__" : Str)) = false := by decide) (he : starEach (e :: es) X.env = (false, eval e X.env) :: starEach es X.env := by rfl) (hpl : (backTo pos (starEach es X.env)).any (·.1) = false := by rfl) : FE X T pin (.Call (.Name x p) (e :: es) [] pos) (opN f o) :=
  PE.imp (pe_callB hc hg hm hv ha hn hdb he hpl) fun _ _ _ h => opN_ok hr h
theorem fe_callTy {x : Str} {id : String} {p : Pos} {r : List V → Hp → VK → Prop} {o : List SV → Option EV} {f : M (List EV)} (hr : OpN X.K r o) (hc : CallR X (.type id) r) (hg : Gl X x) (hm : X.mg x = none) (hv : bootBuiltins x = some (.type id)) (ha : FA X T pin (e :: es) f)
    (hn : x ≠ "__name__" := by decide) (hdb : (x == ("__debug__" : Str)) = false := by decide) (he : starEach (e :: es) X.env = (false, eval e X.env) :: starEach es X.env := by rfl) (hpl : (backTo pos (starEach es X.env)).any (·.1) = false := by rfl) : FE X T pin (.Call (.Name x p) (e :: es) [] pos) (opN f o) :=
  PE.imp (pe_callTy hc hg hm hv ha hn hdb he hpl) fun _ _ _ h => opN_ok hr h
end
section
variable {K : PySem.W.Frag}
theorem vws1 {G H : Hp} {x : SV} {vs : List V} (h : Vws K G H [x] vs) : ∃ v, vs = [v] ∧ VwOk K G H x v := by
  cases h with
  | cons a b => cases b; exact ⟨_, rfl, a⟩
theorem vws2 {G H : Hp} {x y : SV} {vs : List V} (h : Vws K G H [x, y] vs) : ∃ v w, vs = [v, w] ∧ VwOk K G H x v ∧ VwOk K G H y w := by
  cases h with
  | cons a b =>
    cases b with
    | cons c d => cases d; exact ⟨_, _, rfl, a, c⟩
/-- len -/
def oLen : List SV → Option EV
  | [.im (.str z)] => if z.length ≤ sizeLine then some (.im (.int z.length)) else none
  | [x] => match x.asQ with
    | some ds => some (.im (.int ds.length))
    | none => none
  | _ => none
theorem on_len : OpN K (fun xs H Q => ∃ x n, xs = [x] ∧ LenV K x H n ∧ Q (.int n) H) oLen := by
  intro xs z G H vs Q hs h hv k
  unfold oLen at h
  split at h
  · obtain ⟨c, rfl⟩ := some_if h
    obtain ⟨v, rfl, hx⟩ := vws1 hv
    have hx : v = .str _ := hx
    subst hx
    exact ⟨_, _, rfl, ⟨c, rfl⟩, give hs k rfl⟩
  · split at h
    · rename_i ds e
      cases h
      obtain ⟨v, rfl, hx⟩ := vws1 hv
      obtain ⟨a, xs, rfl, q, r⟩ := hx.seq hs e
      have e2 : ds.length = xs.length := r.length
      refine ⟨.ref a, ds.length, rfl, ?_, give hs k rfl⟩
      rcases q with q | q
      · exact .inl ⟨xs, q, e2⟩
      · exact .inr ⟨xs, q, e2⟩
    · cases h
  · cases h
/-- int(x) of an int or a bool -/
def oInt : List SV → Option EV
  | [.im (.int i)] => some (.im (.int i))
  | [.im (.bool b)] => some (.im (.int (if b then 1 else 0)))
  | _ => none
theorem on_int : OpN K (fun xs H Q => (∃ i, xs = [.int i] ∧ Q (.int i) H) ∨ ∃ k, xs = [.bl k] ∧ Q (.int (if k then 1 else 0)) H) oInt := by
  intro xs z G H vs Q hs h hv k
  unfold oInt at h
  split at h
  · cases h
    obtain ⟨v, rfl, hx⟩ := vws1 hv
    have hx : v = .int _ := hx
    subst hx
    exact .inl ⟨_, rfl, give hs k rfl⟩
  · cases h
    obtain ⟨v, rfl, hx⟩ := vws1 hv
    have hx : v = .bl _ := hx
    subst hx
    exact .inr ⟨_, rfl, give hs k rfl⟩
  · cases h
/-- tuple(x), list(x) of a list or a tuple -/
def oTuple : List SV → Option EV
  | [x] => match x.asQ with
    | some ds => some (.im (.tuple ds))
    | none => none
  | _ => none
theorem on_tuple : OpN K (fun xs H Q => ∃ p ys, xs = [.ref p] ∧ ((SqL K H p ys ∧ ∀ l, H l = none → Q (.ref l) (upd H l (.tup ys))) ∨ (SqT K H p ys ∧ Q (.ref p) H))) oTuple := by
  intro xs z G H vs Q hs h hv k
  unfold oTuple at h
  split at h
  · rename_i x
    split at h
    · rename_i ds e
      cases h
      obtain ⟨v, rfl, hx⟩ := vws1 hv
      cases e2 : x.asL with
      | some es =>
        have : es = ds := by
          cases x with
          | no => cases e
          | mu fs => cases e; cases e2; rfl
          | im d => cases d <;> first | (cases e; cases e2; rfl) | (cases e2)
        subst this
        obtain ⟨a, xs, rfl, q, r⟩ := hx.list hs e2
        exact ⟨a, xs, rfl, .inl ⟨q, fun l hl => giveT hs k r hl⟩⟩
      | none =>
        cases x with
        | no => cases e
        | mu fs => cases e2
        | im d =>
          cases d with
          | tuple fs =>
            cases e
            obtain ⟨a, xs, rfl, q, r⟩ := hx
            exact ⟨a, xs, rfl, .inr ⟨same_seqT hs q, give hs k ⟨a, xs, rfl, q, r⟩⟩⟩
          | list fs => cases e2
          | _ => cases e
    · cases h
  · cases h
def oList : List SV → Option EV
  | [x] => match x.asQ with
    | some ds => some (.own ds)
    | none => none
  | _ => none
theorem on_list : OpN K (fun xs H Q => ∃ p ys, xs = [.ref p] ∧ (SqL K H p ys ∨ SqT K H p ys) ∧ ∀ l, H l = none → Q (.ref l) (upd H l (.lst ys))) oList := by
  intro xs z G H vs Q hs h hv k
  unfold oList at h
  split at h
  · split at h
    · rename_i ds e
      cases h
      obtain ⟨v, rfl, hx⟩ := vws1 hv
      obtain ⟨a, xs, rfl, q, r⟩ := hx.seq hs e
      exact ⟨a, xs, rfl, q, fun l hl => giveL hs k r hl⟩
    · cases h
  · cases h
/-- min, max of two ints -/
def oMin2 : List SV → Option EV
  | [.im (.int i), .im (.int j)] => some (.im (.int (if j < i then j else i)))
  | _ => none
theorem on_min2 : OpN K (fun xs H Q => ∃ i j, xs = [.int i, .int j] ∧ Q (.int (if j < i then j else i)) H) oMin2 := by
  intro xs z G H vs Q hs h hv k
  unfold oMin2 at h
  split at h
  · cases h
    obtain ⟨v, w, rfl, hx, hy⟩ := vws2 hv
    have hx : v = .int _ := hx
    have hy : w = .int _ := hy
    subst hx hy
    exact ⟨_, _, rfl, give hs k rfl⟩
  · cases h
def oMax2 : List SV → Option EV
  | [.im (.int i), .im (.int j)] => some (.im (.int (if j > i then j else i)))
  | _ => none
theorem on_max2 : OpN K (fun xs H Q => ∃ i j, xs = [.int i, .int j] ∧ Q (.int (if j > i then j else i)) H) oMax2 := by
  intro xs z G H vs Q hs h hv k
  unfold oMax2 at h
  split at h
  · cases h
    obtain ⟨v, w, rfl, hx, hy⟩ := vws2 hv
    have hx : v = .int _ := hx
    have hy : w = .int _ := hy
    subst hx hy
    exact ⟨_, _, rfl, give hs k rfl⟩
  · cases h
/-- all, any of a list of bools; sum of a list of ints -/
def boolsOf : List PyData → Option (List Bool)
  | [] => some []
  | .bool b :: ds => match boolsOf ds with
    | some bs => some (b :: bs)
    | none => none
  | _ :: _ => none
theorem boolsOf_rep {G : Hp} : ∀ {ds : List PyData} {bs : List Bool} {xs : List V}, boolsOf ds = some bs → RepL K G ds xs → xs = bs.map V.bl
  | [], _, [], e, _ => by cases e; rfl
  | d :: ds, bs, x :: xs, e, h => by
    unfold boolsOf at e
    split at e
    · cases e
      rename_i q
      cases q
    · rename_i b ds' q
      cases q
      split at e
      · rename_i bs' e2
        cases e
        obtain ⟨h1, h2⟩ := h
        have h1 : x = .bl b := h1
        rw [h1, boolsOf_rep e2 h2]
        rfl
      · cases e
    · cases e
  | [], _, _ :: _, _, h => h.elim
  | _ :: _, _, [], _, h => h.elim
def oAllL (any : Bool) : List SV → Option EV
  | [x] => match x.asL with
    | some ds => match boolsOf ds with
      | some bs => some (.im (.bool (if any then bs.any id else bs.all id)))
      | none => none
    | none => none
  | _ => none
theorem on_allL : OpN K (rAll K) (oAllL false) := by
  intro xs z G H vs Q hs h hv k
  unfold oAllL at h
  split at h
  · split at h
    · rename_i ds e
      split at h
      · rename_i bs e2
        cases h
        obtain ⟨v, rfl, hx⟩ := vws1 hv
        obtain ⟨a, xs, rfl, q, r⟩ := hx.list hs e
        have e3 := boolsOf_rep e2 r
        subst e3
        exact ⟨a, bs, rfl, q, give hs k rfl⟩
      · cases h
    · cases h
  · cases h
theorem on_anyL : OpN K (rAny K) (oAllL true) := by
  intro xs z G H vs Q hs h hv k
  unfold oAllL at h
  split at h
  · split at h
    · rename_i ds e
      split at h
      · rename_i bs e2
        cases h
        obtain ⟨v, rfl, hx⟩ := vws1 hv
        obtain ⟨a, xs, rfl, q, r⟩ := hx.list hs e
        have e3 := boolsOf_rep e2 r
        subst e3
        exact ⟨a, bs, rfl, q, give hs k rfl⟩
      · cases h
    · cases h
  · cases h
/-- isinstance(x, T), T a built-in type -/
def tyName : PyData → String
  | .none => "NoneType"
  | .bool _ => "bool"
  | .int _ => "int"
  | .str _ => "str"
  | .tuple _ => "tuple"
  | .list _ => "list"
  | .dict _ => "dict"
theorem tyX_of {G H : Hp} (hs : Same G H) {d : PyData} {v : V} (h : Rep K G d v) : TyX K H v (.type (tyName d)) := by
  cases d with
  | none => cases h; exact .base .non
  | bool b => cases h; exact .base (.bl b)
  | int i => cases h; exact .base (.int i)
  | str x => cases h; exact .base (.str x)
  | dict _ => exact h.elim
  | tuple ds =>
    obtain ⟨a, xs, rfl, q, _⟩ := h
    rcases same_seqT hs q with (q | ⟨o, q⟩) | ⟨o, its, n, q, c, _⟩
    · exact .base (.tup q)
    · exact .fTuple q
    · exact .kTuple q c
  | list ds =>
    obtain ⟨a, xs, rfl, q, _⟩ := h
    rcases Same.seq hs q with (q | ⟨o, q⟩) | ⟨o, its, n, q, c, _⟩
    · exact .base (.lst q)
    · exact .base (.frz q)
    · exact .kList q c
end
def oIsi (n : String) (x : SV) : Option EV := match x.dat with
  | some d => match kitB (tyName d) n with
    | some b => some (.im (.bool b))
    | none => none
  | none => none
section
variable {X : Cx} {T : List Addr} {pin : List Nat} {e a b c : Expr} {es rest : List Expr} {pos : Pos}
def op1 (f : M EV) (o : SV → Option EV) : M EV := bindM f fun x => fun env => match view x env with
  | some sv => match o sv with
    | some z => some (z, env)
    | none => none
  | none => none
theorem fe_isi {f : M EV} {y : Str} {n : String} {p p2 : Pos} (hg : Gl X "isinstance") (hm : X.mg "isinstance" = none) (hv : bootBuiltins "isinstance" = some (.builtin "isinstance")) (hgy : Gl X y) (hmy : X.mg y = none) (hvy : bootBuiltins y = some (.type n)) (ha : FE X T pin e f)
    (hny : y ≠ "__name__" := by decide) (hdy : (y == ("__debug__" : Str)) = false := by decide)
    (he : starEach [e, .Name y p2] X.env = (false, eval e X.env) :: starEach [.Name y p2] X.env := by rfl) (hpl : (backTo pos (starEach [.Name y p2] X.env)).any (·.1) = false := by rfl)
    (he2 : starEach [.Name y p2] X.env = (false, eval (.Name y p2) X.env) :: starEach [] X.env := by rfl) :
    FE X T pin (.Call (.Name "isinstance" p) [e, .Name y p2] [] pos) (op1 f (oIsi n)) := by
  have h2 : PE X (.Name y p2) (tC (.ty n)) := pe_bltn hgy hmy hvy rfl hny hdy
  refine PE.imp (pe_callB call_isi hg hm hv (pa_cons ha (pa_cons h2 pa_nil he2) he) (by decide) (by decide) he hpl) fun σ H Q ⟨G, env, ev, env', S, hf, k⟩ => ?_
  obtain ⟨x, env1, h1, hf⟩ := bindM_some hf
  split at hf
  · rename_i sv e1
    split at hf
    · rename_i z e2
      cases hf
      refine ⟨G, env, x, _, S, h1, fun v G1 H1 S1 x1 o1 => ?_⟩
      show rIsi X.K [v, .ty n] H1 Q
      unfold oIsi at e2
      split at e2
      · rename_i d e3
        split at e2
        · rename_i r e4
          cases e2
          have vw := o1.view S1 e1
          have ty : TyX X.K H1 v (.type (tyName d)) := by
            cases sv with
            | no => cases e3
            | im d' => cases e3; exact tyX_of S1.same vw
            | mu ds =>
              cases e3
              obtain ⟨a, xs, rfl, q, _⟩ := vw
              exact .base (.lst q)
          exact ⟨v, .ty n, _, _, r, rfl, .ty n, ty, kit_ty e4, k _ G1 H1 S1 x1 rfl⟩
        · cases e2
      · cases e2
    · cases hf
  · cases hf

/-! ### tests -/
def truSV : SV → Option Bool
  | .im .none => some false
  | .im (.bool b) => some b
  | .im (.int i) => some (i != 0)
  | .im (.str y) => if y.length ≤ sizeLine then some ((y.length : Int) != 0) else none
  | .im (.list ds) => some !ds.isEmpty
  | .im (.tuple ds) => some !ds.isEmpty
  | .mu ds => some !ds.isEmpty
  | _ => none
theorem empty_of {K : PySem.W.Frag} {G : Hp} {ds : List PyData} {xs : List V} (h : RepL K G ds xs) : (!ds.isEmpty) = !xs.isEmpty := by
  have := h.length
  cases ds <;> cases xs <;> simp_all
theorem truSV_ok {K : PySem.W.Frag} {G H : Hp} {sv : SV} {v : V} (hs : Same G H) (h : VwOk K G H sv v) {b : Bool} (e : truSV sv = some b) : TruV K v H b := by
  cases sv with
  | no => cases e
  | mu ds =>
    cases e
    obtain ⟨a, xs, rfl, q, r⟩ := h
    exact .inl ⟨xs, SqL.of q, empty_of r⟩
  | im d =>
    cases d with
    | none => cases e; cases h; rfl
    | bool x => cases e; cases h; rfl
    | int i => cases e; cases h; rfl
    | str y =>
      obtain ⟨c, e⟩ := some_if (show (if y.length ≤ sizeLine then some ((y.length : Int) != 0) else none) = some b from e)
      cases h
      exact ⟨c, e.symm⟩
    | list ds =>
      cases e
      obtain ⟨a, xs, rfl, q, r⟩ := h
      exact .inl ⟨xs, Same.seq hs q, empty_of r⟩
    | tuple ds =>
      cases e
      obtain ⟨a, xs, rfl, q, r⟩ := h
      exact .inr (.inl ⟨xs, same_seqT hs q, empty_of r⟩)
    | dict _ => cases e
def truM (ev : EV) : M Bool := fun env => match view ev env with
  | some sv => match truSV sv with
    | some b => some (b, env)
    | none => none
  | none => none
theorem truM_some {ev : EV} {env env' : FEnv} {b : Bool} (h : truM ev env = some (b, env')) : env' = env ∧ ∃ sv, view ev env = some sv ∧ truSV sv = some b := by
  unfold truM at h
  split at h
  · split at h
    · cases h
      exact ⟨rfl, _, by assumption, by assumption⟩
    · cases h
  · cases h
theorem ft_val {f : M EV} (h : FE X T pin e f) (he : ∀ whole, isTrue e X.env whole = (do let v ← whole; standAt e.pos; holding [v] (truthy v)) := by intro _; rfl) : FT X T pin e (bindM f truM) := by
  refine PT.imp (pt_truth h he) fun σ H Q ⟨G, env, b, env', S, hf, k⟩ => ?_
  obtain ⟨ev, env1, h1, hf⟩ := bindM_some hf
  obtain ⟨rfl, sv, e1, e2⟩ := truM_some hf
  exact ⟨G, env, ev, _, S, h1, fun v G1 H1 S1 x1 o1 => ⟨b, truSV_ok S1.same (o1.view S1 e1) e2, k G1 H1 S1 x1⟩⟩
def evB (ev : EV) : M Bool := fun env => match ev with
  | .im (.bool b) => some (b, env)
  | _ => none
theorem evB_some {ev : EV} {env env' : FEnv} {b : Bool} (h : evB ev env = some (b, env')) : env' = env ∧ ev = .im (.bool b) := by
  unfold evB at h
  split at h
  · cases h; exact ⟨rfl, rfl⟩
  · cases h
/-- a reading of a bool's value from one of a test -/
theorem rE_bool {K : PySem.W.Frag} {f : M EV} {σ : L2.St} {H : Hp} {Q : Bool → Hp → Prop} (h : rT K T pin (bindM f evB) σ H Q) : rE K T pin f σ H fun v H' => ∃ b, v = .bl b ∧ Q b H' := by
  obtain ⟨G, env, b, env', S, hf, k⟩ := h
  obtain ⟨ev, env1, h1, hf⟩ := bindM_some hf
  obtain ⟨rfl, rfl⟩ := evB_some hf
  exact ⟨G, env, _, _, S, h1, fun v G1 H1 S1 x1 o1 => ⟨b, o1, k G1 H1 S1 x1⟩⟩
theorem ft_cmp {op : CmpOp} {r : R2} {o : SV → SV → Option EV} {f g : M EV} (hr : Op2 X.K r o) (ho : OpR X (compareOp op) r) (ha : FE X T pin a f) (hb : FE X T pin b g) (hm : behindInMarks op b = false) : FT X T pin (.Compare a [op] [b] pos) (bindM (op2 f g o) evB) :=
  PT.imp (pt_cmpR ho ha hb hm) fun _ _ _ h => op2_ok hr (rE_bool h)
theorem ft_not {f : M Bool} (h : FT X T pin e f) : FT X T pin (.UnaryOp .Not e pos) (bindM f fun b => retM !b) := by
  refine PT.imp (pt_not h) fun σ H Q ⟨G, env, b, env', S, hf, k⟩ => ?_
  obtain ⟨c, env1, h1, hf⟩ := bindM_some hf
  cases hf
  exact ⟨G, env, c, _, S, h1, fun G1 H1 S1 x1 => k G1 H1 S1 x1⟩
theorem PW.imp {t t' : TT} (h : PW X e t) (k : ∀ σ H Q, t' σ H Q → t σ H Q) : PW X e t' := ⟨fun wh pins s σ H Q I q => h.run wh pins s σ H Q I (k σ H Q q)⟩
abbrev FW (X : Cx) (T : List Addr) (pin : List Nat) (e : Expr) (f : M Bool) : Prop := PW X e (rT X.K T pin f)
theorem fw_and1 {f : M Bool} (h : FT X T pin a f) : FW X T pin (.BoolOp .And [a] pos) f := pw_and1 h
theorem fw_or1 {f : M Bool} (h : FT X T pin a f) : FW X T pin (.BoolOp .Or [a] pos) f := pw_or1 h
def andM (f g : M Bool) : M Bool := bindM f fun b => if b = true then g else retM false
def orM (f g : M Bool) : M Bool := bindM f fun b => if b = true then retM true else g
theorem fw_and {f g : M Bool} (h : FT X T pin a f) (h2 : FW X T pin (.BoolOp .And (b :: rest) pos) g) : FW X T pin (.BoolOp .And (a :: b :: rest) pos) (andM f g) := by
  refine PW.imp (pw_and h h2) fun σ H Q ⟨G, env, c, env', S, hf, k⟩ => ?_
  obtain ⟨d, env1, h1, hf⟩ := bindM_some hf
  refine ⟨G, env, d, env1, S, h1, fun G1 H1 S1 x1 => ?_⟩
  cases d with
  | true => exact ⟨G1, env1, c, env', S1, hf, fun G2 H2 S2 x2 => k G2 H2 S2 (x1.trans x2)⟩
  | false =>
    cases hf
    exact k G1 H1 S1 x1
theorem fw_or {f g : M Bool} (h : FT X T pin a f) (h2 : FW X T pin (.BoolOp .Or (b :: rest) pos) g) : FW X T pin (.BoolOp .Or (a :: b :: rest) pos) (orM f g) := by
  refine PW.imp (pw_or h h2) fun σ H Q ⟨G, env, c, env', S, hf, k⟩ => ?_
  obtain ⟨d, env1, h1, hf⟩ := bindM_some hf
  refine ⟨G, env, d, env1, S, h1, fun G1 H1 S1 x1 => ?_⟩
  cases d with
  | false => exact ⟨G1, env1, c, env', S1, hf, fun G2 H2 S2 x2 => k G2 H2 S2 (x1.trans x2)⟩
  | true =>
    cases hf
    exact k G1 H1 S1 x1
theorem ft_w {f : M Bool} (h : FW X T pin e f) : FT X T pin e f := h.pt
/-! .. as values, of bools -/
theorem fe_one {op} {f : M EV} (h : FE X T pin a f) : FE X T pin (.BoolOp op [a] pos) f := pe_one h
def andV (f g : M EV) : M EV := bindM (bindM f evB) fun b => if b = true then g else retM (.im (.bool false))
def orV (f g : M EV) : M EV := bindM (bindM f evB) fun b => if b = true then retM (.im (.bool true)) else g
theorem bindM_assoc {α β γ : Type} (f : M α) (g : α → M β) (h : β → M γ) : bindM (bindM f g) h = bindM f fun x => bindM (g x) h := by
  funext env
  unfold bindM
  cases f env with
  | none => rfl
  | some p => rfl
theorem fe_and {f g : M EV} (h : FE X T pin a f) (h2 : FE X T pin (.BoolOp .And (b :: rest) pos) g) : FE X T pin (.BoolOp .And (a :: b :: rest) pos) (andV f g) := by
  refine PE.imp (pe_and h h2) fun σ H Q ⟨G, env, c, env', S, hf, k⟩ => ?_
  obtain ⟨d, env1, h1, hf⟩ := bindM_some hf
  obtain ⟨ev, env2, h1, h3⟩ := bindM_some h1
  obtain ⟨rfl, rfl⟩ := evB_some h3
  refine ⟨G, env, _, _, S, h1, fun v G1 H1 S1 x1 o1 => ⟨d, o1, ?_⟩⟩
  cases d with
  | true => exact ⟨G1, _, c, env', S1, hf, fun v2 G2 H2 S2 x2 o2 => k v2 G2 H2 S2 (x1.trans x2) (o2.from x1)⟩
  | false =>
    cases hf
    exact k _ G1 H1 S1 x1 rfl
theorem fe_or {f g : M EV} (h : FE X T pin a f) (h2 : FE X T pin (.BoolOp .Or (b :: rest) pos) g) : FE X T pin (.BoolOp .Or (a :: b :: rest) pos) (orV f g) := by
  refine PE.imp (pe_or h h2) fun σ H Q ⟨G, env, c, env', S, hf, k⟩ => ?_
  obtain ⟨d, env1, h1, hf⟩ := bindM_some hf
  obtain ⟨ev, env2, h1, h3⟩ := bindM_some h1
  obtain ⟨rfl, rfl⟩ := evB_some h3
  refine ⟨G, env, _, _, S, h1, fun v G1 H1 S1 x1 o1 => ⟨d, o1, ?_⟩⟩
  cases d with
  | false => exact ⟨G1, _, c, env', S1, hf, fun v2 G2 H2 S2 x2 o2 => k v2 G2 H2 S2 (x1.trans x2) (o2.from x1)⟩
  | true =>
    cases hf
    exact k _ G1 H1 S1 x1 rfl
theorem fe_not {f : M EV} (h : FE X T pin a f) : FE X T pin (.UnaryOp .Not a pos) (bindM (bindM f evB) fun b => retM (.im (.bool !b))) := by
  refine PE.imp (pe_not h) fun σ H Q ⟨G, env, c, env', S, hf, k⟩ => ?_
  obtain ⟨d, env1, h1, hf⟩ := bindM_some hf
  obtain ⟨ev, env2, h1, h3⟩ := bindM_some h1
  obtain ⟨rfl, rfl⟩ := evB_some h3
  cases hf
  exact ⟨G, env, _, _, S, h1, fun v G1 H1 S1 x1 o1 => ⟨d, o1, k _ G1 H1 S1 x1 rfl⟩⟩
def ifM {α : Type} (t : M Bool) (f g : M α) : M α := bindM t fun b => if b = true then f else g
theorem fe_if {t : M Bool} {f g : M EV} (hc : FT X T pin c t) (h : FE X T pin a f) (h2 : FE X T pin b g) : FE X T pin (.IfExp c a b pos) (ifM t f g) := by
  refine PE.imp (pe_ifExp hc h h2) fun σ H Q ⟨G, env, ev, env', S, hf, k⟩ => ?_
  obtain ⟨d, env1, h1, hf⟩ := bindM_some hf
  refine ⟨G, env, d, env1, S, h1, fun G1 H1 S1 x1 => ?_⟩
  cases d with
  | true => exact ⟨G1, _, ev, env', S1, hf, fun v2 G2 H2 S2 x2 o2 => k v2 G2 H2 S2 (x1.trans x2) (o2.from x1)⟩
  | false => exact ⟨G1, _, ev, env', S1, hf, fun v2 G2 H2 S2 x2 o2 => k v2 G2 H2 S2 (x1.trans x2) (o2.from x1)⟩
/-! a op b op' c, of ints -/
def chM (f g h : M EV) (o o' : SV → SV → Option EV) : M EV := bindM f fun x => bindM g fun y => bindM (fun env => match view x env, view y env with
  | some p, some q => match o p q with
    | some (.im (.bool k)) => some (k, env)
    | _ => none
  | _, _ => none) fun k => if k = true then bindM h fun w => fun env => match view y env, view w env with
    | some p, some q => match o' p q with
      | some z => some (z, env)
      | none => none
    | _, _ => none
    else retM (.im (.bool false))
theorem ch_ok {K : PySem.W.Frag} {f g h : M EV} {o o' : SV → SV → Option EV} {r r' : R2} (hr : Op2 K r o) (hr' : Op2 K r' o') {σ : L2.St} {H : Hp} {Q : VK} (hh : rE K T pin (chM f g h o o') σ H Q) : tChain r r' (rE K T pin f) (rE K T pin g) (rE K T pin h) σ H Q := by
  obtain ⟨G, env, ev, env5, S, hf, k⟩ := hh
  obtain ⟨x, env1, h1, hf⟩ := bindM_some hf
  obtain ⟨y, env2, h2, hf⟩ := bindM_some hf
  obtain ⟨b, env3, h3, hf⟩ := bindM_some hf
  refine ⟨G, env, x, env1, S, h1, fun vx G1 H1 S1 x1 o1 => ⟨G1, env1, y, env2, S1, h2, fun vy G2 H2 S2 x2 o2 => ?_⟩⟩
  split at h3
  · rename_i p q e1 e2
    split at h3
    · rename_i kk e3
      cases h3
      refine hr p q _ G2 H2 vx vy _ S2.same e3 ((o1.stay S1 x2).view S2 e1) (o2.view S2 e2) fun v G3 H3 gr ro => ⟨b, ro, ?_⟩
      have S3 := S2.grow gr
      have x3 := (x1.trans x2).trans (Ext.grow (pin := pin) S2 gr)
      cases b with
      | false =>
        cases hf
        exact k _ G3 H3 S3 x3 rfl
      | true =>
        obtain ⟨w, env4, h4, hf⟩ := bindM_some hf
        refine ⟨G3, _, w, env4, S3, h4, fun vw G4 H4 S4 x4 o4 => ?_⟩
        split at hf
        · rename_i p' q' e4 e5
          split at hf
          · rename_i z e6
            cases hf
            refine hr' p' q' ev G4 H4 vy vw Q S4.same e6 (((o2.stay S2 (Ext.grow (pin := pin) S2 gr)).stay S3 x4).view S4 e4) (o4.view S4 e5) fun v' G' H' gr' ro' => ?_
            exact k v' G' H' (S4.grow gr') ((x3.trans x4).trans (Ext.grow S4 gr')) (ro'.val S4 fun a e => x3.fresh (x4.fresh e))
          · cases hf
        · cases hf
    · cases h3
  · cases h3
theorem fe_chain {op op' : CmpOp} {r r' : R2} {o o' : SV → SV → Option EV} {f g h : M EV} (hr : Op2 X.K r o) (ho : OpR X (compareOp op) r) (hr' : Op2 X.K r' o') (ho' : OpR X (compareOp op') r') (ha : FE X T pin a f) (hb : FE X T pin b g) (hc : FE X T pin c h)
    (hm : lastMarks [op, op'] [b, c] = false := by with_unfolding_all rfl) : FE X T pin (.Compare a [op, op'] [b, c] pos) (chM f g h o o') :=
  PE.imp (pe_chain ho ho' ha hb hc hm) fun _ _ _ hh => ch_ok hr hr' hh
theorem ft_chain {op op' : CmpOp} {r r' : R2} {o o' : SV → SV → Option EV} {f g h : M EV} (hr : Op2 X.K r o) (ho : OpR X (compareOp op) r) (hr' : Op2 X.K r' o') (ho' : OpR X (compareOp op') r') (ha : FE X T pin a f) (hb : FE X T pin b g) (hc : FE X T pin c h)
    (hm : lastMarks [op, op'] [b, c] = false := by with_unfolding_all rfl) : FT X T pin (.Compare a [op, op'] [b, c] pos) (bindM (chM f g h o o') evB) :=
  PT.imp (pt_chain ho ho' ha hb hc hm) fun _ _ _ hh => ch_ok hr hr' (rE_bool hh)
end
end FN

/-! A functional layer: statements -/
namespace FN
open PySem PySem.Spec PyProof.Rows L2 GX GxR

/-! ### storing to a slot -/
section
variable {K : PySem.W.Frag} {T : List Addr} {pin : List Nat} {G G0 G1 G2 : Hp} {σ σ0 σ1 : L2.St} {H H0 H1 H2 : Hp} {env env0 env1 env2 : FEnv}
theorem get_set {α : Type} {l : List α} {i j : Nat} {a b : α} (h : (l.set i a)[j]? = some b) : (j = i ∧ i < l.length ∧ b = a) ∨ (j ≠ i ∧ l[j]? = some b) := by
  by_cases hj : i = j
  · subst hj
    by_cases hl : i < l.length
    · rw [List.getElem?_set_self hl] at h
      cases h
      exact .inl ⟨rfl, hl, rfl⟩
    · rw [List.getElem?_eq_none (by rw [List.length_set]; omega)] at h
      cases h
  · rw [List.getElem?_set_ne hj] at h
    exact .inr ⟨fun z => hj z.symm, h⟩
theorem StOk.setIm (S : StOk K T G σ H env) {d : PyData} {v : V} (r : Rep K G d v) (i : Nat) : StOk K T G (σ.set i (some v)) H (env.set i (.im d)) where
  len := by rw [List.length_set, List.length_set]; exact S.len
  same := S.same
  tab := S.tab
  im := fun j d' e => by
    rcases get_set e with ⟨rfl, hl, e⟩ | ⟨hj, e⟩
    · cases e
      exact ⟨v, List.getElem?_set_self (by rw [← S.len]; exact hl), r⟩
    · obtain ⟨w, h1, h2⟩ := S.im j d' e
      exact ⟨w, by rw [List.getElem?_set_ne (Ne.symm hj)]; exact h1, h2⟩
  mu := fun j ds e => by
    rcases get_set e with ⟨rfl, hl, e⟩ | ⟨hj, e⟩
    · cases e
    · obtain ⟨a, xs, h1, h2⟩ := S.mu j ds e
      exact ⟨a, xs, by rw [List.getElem?_set_ne (Ne.symm hj)]; exact h1, h2⟩
  inj := fun j k ds es e1 e2 e3 => by
    rcases get_set e1 with ⟨rfl, _, e1⟩ | ⟨hj, e1⟩
    · cases e1
    · rcases get_set e2 with ⟨rfl, _, e2⟩ | ⟨hk, e2⟩
      · cases e2
      · rw [List.getElem?_set_ne (Ne.symm hj), List.getElem?_set_ne (Ne.symm hk)] at e3
        exact S.inj j k ds es e1 e2 e3
theorem mu_set_im {d : PyData} {v : V} {i : Nat} {b : Addr} (h : Mu (σ.set i (some v)) (env.set i (.im d)) b) : Mu σ env b := by
  obtain ⟨j, ds, e1, e2⟩ := h
  rcases get_set e1 with ⟨rfl, _, e1⟩ | ⟨hj, e1⟩
  · cases e1
  · rw [List.getElem?_set_ne (Ne.symm hj)] at e2
    exact ⟨j, ds, e1, e2⟩
theorem StOk.setMu (S : StOk K T G σ H env) {ds : List PyData} {xs : List V} {a : Addr} (h1 : G a = none) (h2 : H a = some (.lst xs)) (h3 : RepL K G ds xs) (nm : ¬ Mu σ env a) (i : Nat) : StOk K T G (σ.set i (some (.ref a))) H (env.set i (.mu ds)) where
  len := by rw [List.length_set, List.length_set]; exact S.len
  same := S.same
  tab := S.tab
  im := fun j d' e => by
    rcases get_set e with ⟨rfl, hl, e⟩ | ⟨hj, e⟩
    · cases e
    · obtain ⟨w, h1, h2⟩ := S.im j d' e
      exact ⟨w, by rw [List.getElem?_set_ne (Ne.symm hj)]; exact h1, h2⟩
  mu := fun j es e => by
    rcases get_set e with ⟨rfl, hl, e⟩ | ⟨hj, e⟩
    · cases e
      exact ⟨a, xs, List.getElem?_set_self (by rw [← S.len]; exact hl), h1, h2, h3⟩
    · obtain ⟨b, ys, q1, q2⟩ := S.mu j es e
      exact ⟨b, ys, by rw [List.getElem?_set_ne (Ne.symm hj)]; exact q1, q2⟩
  inj := fun j k es fs e1 e2 e3 => by
    rcases get_set e1 with ⟨rfl, hl, _⟩ | ⟨hj, e1'⟩
    · rcases get_set e2 with ⟨rfl, _, _⟩ | ⟨hk, e2⟩
      · rfl
      · rw [List.getElem?_set_self (by rw [← S.len]; exact hl), List.getElem?_set_ne (Ne.symm hk)] at e3
        exact absurd ⟨k, fs, e2, e3.symm⟩ nm
    · rcases get_set e2 with ⟨z, hl, _⟩ | ⟨hk, e2⟩
      · subst z
        rw [List.getElem?_set_self (l := σ) (by rw [← S.len]; exact hl), List.getElem?_set_ne (Ne.symm hj)] at e3
        exact absurd ⟨j, es, e1', e3⟩ nm
      · rw [List.getElem?_set_ne (Ne.symm hj), List.getElem?_set_ne (Ne.symm hk)] at e3
        exact S.inj j k es fs e1' e2 e3
theorem Ext.setIm (a : Ext T pin G0 σ0 H0 env0 G σ H env) {d : PyData} {v : V} {i : Nat} (hi : i ∉ pin) : Ext T pin G0 σ0 H0 env0 G (σ.set i (some v)) H (env.set i (.im d)) where
  same := a.same
  gfr := a.gfr
  hfr := a.hfr
  there := a.there
  mus := fun b h => a.mus b (mu_set_im h)
  pins := fun j hj => by rw [List.getElem?_set_ne (fun z => hi (by rw [z]; exact hj))]; exact a.pins j hj
  pinv := fun j hj ds b e1 e2 e3 => by
    obtain ⟨es, q⟩ := a.pinv j hj ds b e1 e2 e3
    exact ⟨es, by rw [List.getElem?_set_ne (fun z => hi (by rw [z]; exact hj))]; exact q⟩
  pini := fun j hj d' e => by rw [List.getElem?_set_ne (fun z => hi (by rw [z]; exact hj))]; exact a.pini j hj d' e
theorem Ext.setMu (a : Ext T pin G0 σ0 H0 env0 G σ H env) {ds : List PyData} {p : Addr} {i : Nat} (hi : i ∉ pin) (hp : Mu σ0 env0 p ∨ H0 p = none) : Ext T pin G0 σ0 H0 env0 G (σ.set i (some (.ref p))) H (env.set i (.mu ds)) where
  same := a.same
  gfr := a.gfr
  hfr := a.hfr
  there := a.there
  mus := fun b h => by
    obtain ⟨j, es, e1, e2⟩ := h
    rcases get_set e1 with ⟨rfl, hl, _⟩ | ⟨hj, e1⟩
    · rcases get_set e2 with ⟨_, _, e2⟩ | ⟨hj, _⟩
      · cases e2; exact hp
      · exact absurd rfl hj
    · rw [List.getElem?_set_ne (Ne.symm hj)] at e2
      exact a.mus b ⟨j, es, e1, e2⟩
  pins := fun j hj => by rw [List.getElem?_set_ne (fun z => hi (by rw [z]; exact hj))]; exact a.pins j hj
  pinv := fun j hj es b e1 e2 e3 => by
    obtain ⟨fs, q⟩ := a.pinv j hj es b e1 e2 e3
    exact ⟨fs, by rw [List.getElem?_set_ne (fun z => hi (by rw [z]; exact hj))]; exact q⟩
  pini := fun j hj d' e => by rw [List.getElem?_set_ne (fun z => hi (by rw [z]; exact hj))]; exact a.pini j hj d' e
def store (pin : List Nat) (i : Nat) (ev : EV) (env : FEnv) : Option FEnv := if i ∈ pin then none else match ev with
  | .own ds => some (env.set i (.mu ds))
  | ev => match frz ev env with
    | some (d, env1) => some (env1.set i (.im d))
    | none => none
theorem store_ok' {i : Nat} {ev : EV} {v : V} (S0 : StOk K T G0 σ H0 env0) (S : StOk K T G σ H env) (a0 : Ext T pin G0 σ H0 env0 G σ H env) (h : ValOk K G σ H env H0 ev v) (e : store pin i ev env = some env2) :
    ∃ G2, StOk K T G2 (σ.set i (some v)) H env2 ∧ Ext T pin G0 σ H0 env0 G2 (σ.set i (some v)) H env2 := by
  unfold store at e
  split at e
  · cases e
  · rename_i hi
    split at e
    · cases e
      rename_i ds
      obtain ⟨a, xs, rfl, e2, e3, e4, e5, nm⟩ := h
      exact ⟨G, S.setMu e2 e3 e4 nm i, a0.setMu hi (.inr e5)⟩
    · split at e
      · rename_i d env1 q
        cases e
        obtain ⟨G1, S1, x1, r1, _⟩ := frz_ok S0 S a0 h q
        exact ⟨G1, S1.setIm r1 i, x1.setIm hi⟩
      · cases e
end

/-! ### statements -/
inductive Out where
  | nx | bk | ct | rt (ev : EV)
abbrev SS := FEnv → Option (Out × FEnv)
/-- what is handed back, relative to the state (σ0, env0, H0) ahead -/
def RetOk (K : PySem.W.Frag) (G : Hp) (σ : L2.St) (H : Hp) (env : FEnv) (σ0 : L2.St) (env0 : FEnv) (H0 : Hp) : EV → V → Prop
  | .im d, v => Rep K G d v
  | .own ds, v => ∃ a xs, v = .ref a ∧ G a = none ∧ H a = some (.lst xs) ∧ RepL K G ds xs ∧ ¬ Mu σ env a ∧ (Mu σ0 env0 a ∨ H0 a = none)
  | .slot _, _ => False
def EndOf (D : Ends) (K : PySem.W.Frag) (G : Hp) (σ : L2.St) (H : Hp) (env : FEnv) (σ0 : L2.St) (env0 : FEnv) (H0 : Hp) : Out → Prop
  | .nx => D.nx σ H
  | .bk => D.bk σ H
  | .ct => D.ct σ H
  | .rt ev => ∀ v, RetOk K G σ H env σ0 env0 H0 ev v → D.rt v H
end FN

/-! A functional layer: statements, loops -/
namespace FN
open PySem PySem.Spec PyProof.Rows L2 GX GxR

def rS (K : PySem.W.Frag) (T : List Addr) (pin : List Nat) (f : SS) : TS := fun D σ H => ∃ G env out env', StOk K T G σ H env ∧ f env = some (out, env') ∧
  ∀ σ' G' H', StOk K T G' σ' H' env' → Ext T pin G σ H env G' σ' H' env' → EndOf D K G' σ' H' env' σ env H out
abbrev FS (X : Cx) (T : List Addr) (pin : List Nat) (st : Stmt) (f : SS) : Prop := PS X st (rS X.K T pin f)
abbrev FSs (X : Cx) (T : List Addr) (pin : List Nat) (sts : List Stmt) (f : SS) : Prop := PSs X sts (rS X.K T pin f)

section
variable {K : PySem.W.Frag} {T : List Addr} {pin : List Nat} {G G0 G1 G2 : Hp} {σ σ0 σ1 : L2.St} {H H0 H1 H2 : Hp} {env env0 env1 env2 : FEnv}
theorem RetOk.from {ev : EV} {v : V} (h : RetOk K G σ H env σ1 env1 H1 ev v) (a : Ext T pin G0 σ0 H0 env0 G1 σ1 H1 env1) : RetOk K G σ H env σ0 env0 H0 ev v := by
  cases ev with
  | im d => exact h
  | slot i => exact h
  | own ds =>
    obtain ⟨p, xs, e1, e2, e3, e4, e5, e6⟩ := h
    refine ⟨p, xs, e1, e2, e3, e4, e5, ?_⟩
    rcases e6 with z | z
    · exact a.mus p z
    · exact .inr (a.fresh z)
theorem EndOf.from {D : Ends} {out : Out} (h : EndOf D K G σ H env σ0 env0 H0 out) (a : Ext T pin G0 σ0 H0 env0 G1 σ1 H1 env1) : EndOf D K G σ H env σ1 env1 H1 out := by
  cases out with
  | rt ev => exact fun v r => h v (r.from a)
  | nx => exact h
  | bk => exact h
  | ct => exact h
end

section
variable {X : Cx} {T : List Addr} {pin : List Nat} {st : Stmt} {rest sts body : List Stmt} {e a b c o i : Expr} {es : List Expr} {pos p2 : Pos}
def nxS : SS := fun env => some (.nx, env)
def neverS : SS := fun _ => none
theorem fss_nil : FSs X T pin [] nxS := by
  refine PSs.imp pss_nil fun D σ H ⟨G, env, out, env', S, hf, k⟩ => ?_
  cases hf
  exact k σ G H S (Ext.refl S)
def seqS (f g : SS) : SS := fun env => match f env with
  | some (.nx, env1) => g env1
  | r => r
theorem fss_cons {f g : SS} (h1 : FS X T pin st f) (h2 : FSs X T pin rest g) : FSs X T pin (st :: rest) (seqS f g) := by
  refine PSs.imp (pss_cons h1 h2) fun D σ H ⟨G, env, out, env', S, hf, k⟩ => ?_
  unfold seqS at hf
  cases q : f env with
  | none => rw [q] at hf; cases hf
  | some p =>
    obtain ⟨o1, env1⟩ := p
    rw [q] at hf
    refine ⟨G, env, o1, env1, S, q, fun σ1 G1 H1 S1 x1 => ?_⟩
    cases o1 with
    | nx =>
      refine ⟨G1, env1, out, env', S1, hf, fun σ2 G2 H2 S2 x2 => ?_⟩
      have := k σ2 G2 H2 S2 (x1.trans x2)
      exact this.from x1
    | bk => cases hf; exact k σ1 G1 H1 S1 x1
    | ct => cases hf; exact k σ1 G1 H1 S1 x1
    | rt ev => cases hf; exact k σ1 G1 H1 S1 x1
theorem fss_one {f : SS} (h1 : FS X T pin st f) : FSs X T pin [st] f := PSs.imp (pss_one h1) fun _ _ _ h => h
theorem fs_pass : FS X T pin (.Pass pos) nxS := by
  refine PS.imp ps_pass fun D σ H ⟨G, env, out, env', S, hf, k⟩ => ?_
  cases hf
  exact k σ G H S (Ext.refl S)
def bkS : SS := fun env => some (.bk, env)
def ctS : SS := fun env => some (.ct, env)
theorem fs_break : FS X T pin (.Break pos) bkS := by
  refine PS.imp ps_break fun D σ H ⟨G, env, out, env', S, hf, k⟩ => ?_
  cases hf
  exact k σ G H S (Ext.refl S)
theorem fs_continue : FS X T pin (.Continue pos) ctS := by
  refine PS.imp ps_continue fun D σ H ⟨G, env, out, env', S, hf, k⟩ => ?_
  cases hf
  exact k σ G H S (Ext.refl S)
theorem fs_never : FS X T pin st neverS := by
  refine PS.imp ps_never fun D σ H ⟨G, env, out, env', S, hf, k⟩ => ?_
  cases hf
theorem fss_never : FSs X T pin sts neverS := by
  refine PSs.imp pss_never fun D σ H ⟨G, env, out, env', S, hf, k⟩ => ?_
  cases hf
def dropS (f : M EV) : SS := fun env => match f env with
  | some (_, env1) => some (.nx, env1)
  | none => none
theorem fs_expr {f : M EV} (h : FE X T pin e f) (hs : swapsWith e none pos.line X.env = pure false := by rfl) : FS X T pin (.Expr e pos) (dropS f) := by
  refine PS.imp (ps_expr h hs) fun D σ H ⟨G, env, out, env', S, hf, k⟩ => ?_
  unfold dropS at hf
  split at hf
  · rename_i ev env1 q
    cases hf
    exact ⟨G, env, ev, _, S, q, fun v G1 H1 S1 x1 _ => k σ G1 H1 S1 x1⟩
  · cases hf
/-- the value handed back: a list of its own goes along -/
def retE (pin : List Nat) (ev : EV) : M EV := fun env => match ev with
  | .im d => some (.im d, env)
  | .own ds => some (.own ds, env)
  | .slot i => if i ∈ pin then (match frz (.slot i) env with
      | some (d, env1) => some (.im d, env1)
      | none => none)
    else match env[i]? with
      | some (.mu ds) => some (.own ds, env.set i .no)
      | some (.im d) => some (.im d, env)
      | _ => none
def retS (pin : List Nat) (f : M EV) : SS := fun env => match bindM f (retE pin) env with
  | some (ev, env1) => some (.rt ev, env1)
  | none => none
theorem StOk.forget {K : PySem.W.Frag} {G : Hp} {σ : L2.St} {H : Hp} {env : FEnv} (S : StOk K T G σ H env) (i : Nat) : StOk K T G σ H (env.set i .no) where
  len := by rw [List.length_set]; exact S.len
  same := S.same
  tab := S.tab
  im := fun j d e => by
    rcases get_set e with ⟨_, _, e⟩ | ⟨_, e⟩
    · cases e
    · exact S.im j d e
  mu := fun j ds e => by
    rcases get_set e with ⟨_, _, e⟩ | ⟨_, e⟩
    · cases e
    · exact S.mu j ds e
  inj := fun j k ds es e1 e2 e3 => by
    rcases get_set e1 with ⟨_, _, e1⟩ | ⟨_, e1⟩
    · cases e1
    · rcases get_set e2 with ⟨_, _, e2⟩ | ⟨_, e2⟩
      · cases e2
      · exact S.inj j k ds es e1 e2 e3
theorem mu_forget {σ : L2.St} {env : FEnv} {i : Nat} {b : Addr} (h : Mu σ (env.set i .no) b) : ∃ j ds, j ≠ i ∧ env[j]? = some (.mu ds) ∧ σ[j]? = some (some (.ref b)) := by
  obtain ⟨j, ds, e1, e2⟩ := h
  rcases get_set e1 with ⟨_, _, e1⟩ | ⟨hj, e1⟩
  · cases e1
  · exact ⟨j, ds, hj, e1, e2⟩
theorem Ext.forget {G G0 : Hp} {σ σ0 : L2.St} {H H0 : Hp} {env env0 : FEnv} (a : Ext T pin G0 σ0 H0 env0 G σ H env) {i : Nat} (hi : i ∉ pin) : Ext T pin G0 σ0 H0 env0 G σ H (env.set i .no) where
  same := a.same
  gfr := a.gfr
  hfr := a.hfr
  there := a.there
  mus := fun b h => by
    obtain ⟨j, ds, _, e1, e2⟩ := mu_forget h
    exact a.mus b ⟨j, ds, e1, e2⟩
  pins := a.pins
  pinv := fun j hj es b e1 e2 e3 => by
    obtain ⟨fs, q⟩ := a.pinv j hj es b e1 e2 e3
    exact ⟨fs, by rw [List.getElem?_set_ne (fun z => hi (by rw [z]; exact hj))]; exact q⟩
  pini := fun j hj d' e => by rw [List.getElem?_set_ne (fun z => hi (by rw [z]; exact hj))]; exact a.pini j hj d' e
theorem fs_ret {f : M EV} (h : FE X T pin e f) : FS X T pin (.Return (some e) pos) (retS pin f) := by
  refine PS.imp (ps_ret h) fun D σ H ⟨G, env, out, env', S, hf, k⟩ => ?_
  unfold retS at hf
  split at hf
  · cases hf
    rename_i ev2 env2 q
    obtain ⟨ev, env1, h1, h2⟩ := bindM_some q
    refine ⟨G, env, ev, env1, S, h1, fun v G1 H1 S1 x1 o1 => ?_⟩
    unfold retE at h2
    cases ev with
    | im d => cases h2; exact k σ G1 H1 S1 x1 v o1
    | own ds =>
      cases h2
      obtain ⟨p, xs, e1, e2, e3, e4, e5, nm⟩ := o1
      exact k σ G1 H1 S1 x1 v ⟨p, xs, e1, e2, e3, e4, nm, .inr e5⟩
    | slot i =>
      have o1' : σ[i]? = some (some v) := o1
      dsimp only at h2
      split at h2
      · split at h2
        · rename_i d env3 q2
          cases h2
          obtain ⟨G2, S2, x2, r2, _⟩ := frz_ok S S1 x1 o1 q2
          exact k σ G2 H1 S2 x2 v r2
        · cases h2
      · rename_i hi
        split at h2
        · rename_i ds q2
          cases h2
          obtain ⟨p, xs, e1, e2, e3, e4⟩ := S1.mu i ds q2
          rw [o1'] at e1
          cases e1
          refine k σ G1 H1 (S1.forget i) (x1.forget hi) _ ⟨p, xs, rfl, e2, e3, e4, fun hm => ?_, x1.mus p ⟨i, ds, q2, o1'⟩⟩
          obtain ⟨j, es, hj, e5, e6⟩ := mu_forget hm
          exact hj (S1.inj j i es ds e5 q2 (by rw [e6, o1']))
        · rename_i d q2
          cases h2
          obtain ⟨w, e1, e2⟩ := S1.im i d q2
          rw [o1'] at e1
          cases e1
          exact k σ G1 H1 S1 x1 v e2
        · cases h2
  · cases hf
def retN : SS := fun env => some (.rt (.im .none), env)
theorem fs_retN : FS X T pin (.Return none pos) retN := by
  refine PS.imp ps_retN fun D σ H ⟨G, env, out, env', S, hf, k⟩ => ?_
  cases hf
  exact k σ G H S (Ext.refl S) .non rfl
def ifS (t : M Bool) (f g : SS) : SS := fun env => match t env with
  | some (true, env1) => f env1
  | some (false, env1) => g env1
  | none => none
theorem fs_if {t : M Bool} {f g : SS} {as bs : List Stmt} (hc : FT X T pin c t) (h : FSs X T pin as f) (h2 : FSs X T pin bs g) : FS X T pin (.If c as bs pos) (ifS t f g) := by
  refine PS.imp (ps_if hc h h2) fun D σ H ⟨G, env, out, env', S, hf, k⟩ => ?_
  unfold ifS at hf
  split at hf
  · rename_i env1 q
    refine ⟨G, env, true, env1, S, q, fun G1 H1 S1 x1 => ?_⟩
    exact ⟨G1, env1, out, env', S1, hf, fun σ2 G2 H2 S2 x2 => (k σ2 G2 H2 S2 (x1.trans x2)).from x1⟩
  · rename_i env1 q
    refine ⟨G, env, false, env1, S, q, fun G1 H1 S1 x1 => ?_⟩
    exact ⟨G1, env1, out, env', S1, hf, fun σ2 G2 H2 S2 x2 => (k σ2 G2 H2 S2 (x1.trans x2)).from x1⟩
  · cases hf
def setS (pin : List Nat) (i : Nat) (f : M EV) : SS := fun env => match f env with
  | some (ev, env1) => match store pin i ev env1 with
    | some env2 => some (.nx, env2)
    | none => none
  | none => none
theorem set_read {K : PySem.W.Frag} {f : M EV} {i : Nat} {D : Ends} {σ : L2.St} {H : Hp} (h : rS K T pin (setS pin i f) D σ H) : rE K T pin f σ H fun x H1 => D.nx (σ.set i (some x)) H1 := by
  obtain ⟨G, env, out, env', S, hf, k⟩ := h
  unfold setS at hf
  split at hf
  · split at hf
    · cases hf
      rename_i ev env1 q env2 q2
      refine ⟨G, env, ev, env1, S, q, fun v G1 H1 S1 x1 o1 => ?_⟩
      obtain ⟨G2, S2, x2⟩ := store_ok' S S1 x1 o1 q2
      exact k _ G2 H1 S2 x2
    · cases hf
  · cases hf
theorem fs_set {f : M EV} {n : Nat} {x : Str} (hN : X.N.Nodup) (hi : X.N[n]? = some x) (hx : Loc X.env.scope x) (h : FE X T pin e f) (hs : swapsWith e (some (.Name x p2)) pos.line X.env = pure false := by rfl)
    (hf : X.fn x = true ∨ X.env.scope.names.lookup x = some .local := by first | exact .inl rfl | exact .inr rfl | assumption) : FS X T pin (.Assign [.Name x p2] e pos) (setS pin n f) :=
  PS.imp (ps_set hN hi hx h hs hf) fun _ _ _ h => set_read h

/-! ### targets of data -/
/-- the datum d is stored -/
def rG (K : PySem.W.Frag) (T : List Addr) (pin ws : List Nat) (u : PyData → FEnv → Option FEnv) : TG := fun x σ H Q => ∃ G env d env', StOk K T G σ H env ∧ Rep K G d x ∧ u d env = some env' ∧
  ∀ σ' G' H', StOk K T G' σ' H' env' → Ext T pin G σ H env G' σ' H' env' → (∀ j, j ∉ ws → σ'[j]? = σ[j]?) → Q σ' H'
theorem PG.imp {t t' : TG} (h : PG X e t) (k : ∀ x σ H Q, t' x σ H Q → t x σ H Q) : PG X e t' := ⟨fun pins s σ H v u Q I r q => h.run pins s σ H v u Q I r (k v σ H Q q)⟩
abbrev FG (X : Cx) (T : List Addr) (pin ws : List Nat) (tg : Expr) (u : PyData → FEnv → Option FEnv) : Prop := PG X tg (rG X.K T pin ws u)
def uName (pin : List Nat) (i : Nat) (d : PyData) (env : FEnv) : Option FEnv := if i ∈ pin then none else some (env.set i (.im d))
theorem fg_name {ws : List Nat} {n : Nat} {x : Str} (hN : X.N.Nodup) (hi : X.N[n]? = some x) (hx : Loc X.env.scope x) (hw : n ∈ ws := by decide) (hf : X.fn x = true ∨ X.env.scope.names.lookup x = some .local := by first | exact .inl rfl | exact .inr rfl | assumption) : FG X T pin ws (.Name x pos) (uName pin n) := by
  refine PG.imp (pg_name hN hi hx hf) fun v σ H Q ⟨G, env, d, env', S, r, hu, k⟩ => ?_
  unfold uName at hu
  split at hu
  · cases hu
  · cases hu
    rename_i hp
    exact k _ G H (S.setIm r n) ((Ext.refl S).setIm hp) fun j hj => by rw [List.getElem?_set_ne (fun z => hj (by rw [← z]; exact hw))]
/-- a, b, .. = a tuple -/
def uTup (us : List (PyData → FEnv → Option FEnv)) (d : PyData) (env : FEnv) : Option FEnv := match d with
  | .tuple ds => go us ds env
  | _ => none
where go : List (PyData → FEnv → Option FEnv) → List PyData → FEnv → Option FEnv
  | [], [], env => some env
  | u :: us, d :: ds, env => match u d env with
    | some env1 => go us ds env1
    | none => none
  | _, _, _ => none
def rGs (K : PySem.W.Frag) (T : List Addr) (pin ws : List Nat) (us : List (PyData → FEnv → Option FEnv)) : TGs := fun xs σ H Q => ∃ G env ds env', StOk K T G σ H env ∧ RepL K G ds xs ∧ uTup.go us ds env = some env' ∧
  ∀ σ' G' H', StOk K T G' σ' H' env' → Ext T pin G σ H env G' σ' H' env' → (∀ j, j ∉ ws → σ'[j]? = σ[j]?) → Q σ' H'
theorem PGs.imp {t t' : TGs} (h : PGs X es t) (k : ∀ x σ H Q, t' x σ H Q → t x σ H Q) : PGs X es t' := ⟨fun pins s σ H v u Q I r q => h.run pins s σ H v u Q I r (k v σ H Q q)⟩
theorem fgs_nil {ws : List Nat} : PGs X [] (rGs X.K T pin ws []) := by
  refine PGs.imp pgs_nil fun vs σ H Q ⟨G, env, ds, env', S, r, hu, k⟩ => ?_
  cases ds with
  | nil =>
    cases vs with
    | nil => cases hu; exact ⟨rfl, k σ G H S (Ext.refl S) fun _ _ => rfl⟩
    | cons v vs => exact r.elim
  | cons d ds => cases hu
theorem fgs_cons {ws : List Nat} {u : PyData → FEnv → Option FEnv} {us : List (PyData → FEnv → Option FEnv)} (h1 : FG X T pin ws e u) (h2 : PGs X es (rGs X.K T pin ws us)) (hs : (assignEach (e :: es) X.env).map (·.2) = assign e X.env :: (assignEach es X.env).map (·.2) := by rfl) :
    PGs X (e :: es) (rGs X.K T pin ws (u :: us)) := by
  refine PGs.imp (pgs_cons h1 h2 hs) fun vs σ H Q ⟨G, env, ds, env', S, r, hu, k⟩ => ?_
  cases ds with
  | nil => cases hu
  | cons d ds =>
    cases vs with
    | nil => exact r.elim
    | cons v vs =>
      unfold uTup.go at hu
      split at hu
      · rename_i env1 q
        refine ⟨v, vs, rfl, G, env, d, env1, S, r.1, q, fun σ1 G1 H1 S1 x1 w1 => ?_⟩
        exact ⟨G1, env1, ds, env', S1, r.2.mono x1.same, hu, fun σ2 G2 H2 S2 x2 w2 => k σ2 G2 H2 S2 (x1.trans x2) fun j hj => (w2 j hj).trans (w1 j hj)⟩
      · cases hu
theorem go_length : ∀ {us : List (PyData → FEnv → Option FEnv)} {ds : List PyData} {env env' : FEnv}, uTup.go us ds env = some env' → ds.length = us.length
  | [], [], _, _, _ => rfl
  | u :: us, d :: ds, env, env', h => by
    unfold uTup.go at h
    split at h
    · rw [List.length_cons, List.length_cons, go_length h]
    · cases h
  | [], _ :: _, _, _, h => by cases h
  | _ :: _, [], _, _, h => by cases h
theorem fg_tup {ws : List Nat} {us : List (PyData → FEnv → Option FEnv)} {k n : Nat} (hc : X.calm = true) (h : PGs X es (rGs X.K T pin ws us)) (hl : us.length = n := by rfl)
    (hn : (assignEach es X.env).length = n := by rfl) (hst : (assignEach es X.env).findIdx? (·.1) = none := by rfl) : FG X T pin ws (.Tuple es k pos) (uTup us) := by
  refine PG.imp (pg_tup hc h hn hst) fun v σ H Q ⟨G, env, d, env', S, r, hu, k⟩ => ?_
  cases d with
  | tuple ds =>
    obtain ⟨a, xs, rfl, q, rl⟩ := r
    have hu : uTup.go us ds env = some env' := hu
    exact ⟨a, xs, rfl, same_seqT S.same q, by rw [← rl.length, go_length hu]; exact hl, G, env, ds, env', S, rl, hu, k⟩
  | _ => cases hu
def setG (f : M PyData) (u : PyData → FEnv → Option FEnv) : SS := fun env => match f env with
  | some (d, env1) => match u d env1 with
    | some env2 => some (.nx, env2)
    | none => none
  | none => none
theorem fs_setG {ws : List Nat} {f : M PyData} {u : PyData → FEnv → Option FEnv} (h : FD X T pin e f) (hg : FG X T pin ws a u) (hs : swapsWithSole [a] e pos.line X.env = pure false := by rfl) (hw : swappedStores [a] e X.env = pure none := by rfl)
    (h1 : (assignEach [a] X.env).map (·.2) = [assign a X.env] := by rfl) : FS X T pin (.Assign [a] e pos) (setG f u) := by
  refine PS.imp (ps_asg h hg hs hw h1) fun D σ H ⟨G, env, out, env', S, hf, k⟩ => ?_
  unfold setG at hf
  split at hf
  · rename_i d env1 q
    split at hf
    · rename_i env2 q2
      cases hf
      refine ⟨G, env, d, env1, S, q, fun v G1 H1 S1 x1 r1 => ?_⟩
      exact ⟨G1, env1, d, _, S1, r1, q2, fun σ2 G2 H2 S2 x2 _ => k σ2 G2 H2 S2 (x1.trans x2)⟩
    · cases hf
  · cases hf

/-! ### a list of its own is changed -/
theorem StOk.mut {K : PySem.W.Frag} {G : Hp} {σ : L2.St} {H : Hp} {env : FEnv} (S : StOk K T G σ H env) {i : Nat} {ds es : List PyData} {a : Addr} {ys : List V} (hi : env[i]? = some (.mu ds)) (ha : σ[i]? = some (some (.ref a))) (r : RepL K G es ys) :
    StOk K T G σ (upd H a (.lst ys)) (env.set i (.mu es)) := by
  obtain ⟨a', xs, e1, e2, e3, e4⟩ := S.mu i ds hi
  rw [ha] at e1
  cases e1
  refine ⟨by rw [List.length_set]; exact S.len, fun b o e => by rw [upd_ne (ne_of_none e e2)]; exact S.same b o e, fun P hP => ?_, fun j d e => ?_, fun j fs e => ?_, fun j k fs gs q1 q2 q3 => ?_⟩
  · obtain ⟨⟨ps, q, t⟩, q2⟩ := S.tab P hP
    exact ⟨⟨ps, by rw [upd_ne (fun z => by rw [z, e3] at q; cases q)]; exact q, t⟩, q2⟩
  · rcases get_set e with ⟨_, _, e⟩ | ⟨_, e⟩
    · cases e
    · exact S.im j d e
  · rcases get_set e with ⟨rfl, _, e⟩ | ⟨hj, e⟩
    · cases e
      exact ⟨a, ys, ha, e2, upd_same, r⟩
    · obtain ⟨b, zs, q1, q2, q3, q4⟩ := S.mu j fs e
      refine ⟨b, zs, q1, q2, ?_, q4⟩
      rw [upd_ne (fun z => hj (S.inj j i fs ds e hi (by rw [q1, ha, z])))]; exact q3
  · have m : ∀ {j : Nat} {fs : List PyData}, (env.set i (.mu es))[j]? = some (.mu fs) → ∃ gs, env[j]? = some (.mu gs) := fun {j fs} e => by
      rcases get_set e with ⟨rfl, _, _⟩ | ⟨_, e⟩
      · exact ⟨ds, hi⟩
      · exact ⟨fs, e⟩
    obtain ⟨fs', m1⟩ := m q1
    obtain ⟨gs', m2⟩ := m q2
    exact S.inj j k fs' gs' m1 m2 q3
theorem Ext.mut {K : PySem.W.Frag} {G G0 : Hp} {σ σ0 : L2.St} {H H0 : Hp} {env env0 : FEnv} (x : Ext T pin G0 σ0 H0 env0 G σ H env) (S : StOk K T G σ H env) {i : Nat} {ds es : List PyData} {a : Addr} {ys : List V} (hi : env[i]? = some (.mu ds)) (ha : σ[i]? = some (some (.ref a))) :
    Ext T pin G0 σ0 H0 env0 G σ (upd H a (.lst ys)) (env.set i (.mu es)) where
  same := x.same
  gfr := x.gfr
  hfr := fun b o e1 e2 e3 => by
    rw [upd_ne (fun z => ?_)]
    · exact x.hfr b o e1 e2 e3
    · subst z
      rcases x.mus b ⟨i, ds, hi, ha⟩ with q | q
      · exact e2 q
      · rw [q] at e1; cases e1
  there := fun b h => by
    by_cases hb : b = a
    · subst hb; rw [upd_same]; simp
    · rw [upd_ne hb]; exact x.there b h
  mus := fun b h => by
    obtain ⟨j, fs, e1, e2⟩ := h
    rcases get_set e1 with ⟨rfl, _, _⟩ | ⟨_, e1⟩
    · exact x.mus b ⟨j, ds, hi, e2⟩
    · exact x.mus b ⟨j, fs, e1, e2⟩
  pins := x.pins
  pinv := fun j hj fs b e1 e2 e3 => by
    obtain ⟨gs, q⟩ := x.pinv j hj fs b e1 e2 e3
    by_cases hij : i = j
    · subst hij
      exact ⟨es, List.getElem?_set_self ((List.getElem?_eq_some_iff.mp hi).1)⟩
    · exact ⟨gs, by rw [List.getElem?_set_ne hij]; exact q⟩
  pini := fun j hj d e => by
    have q := x.pini j hj d e
    by_cases hij : i = j
    · subst hij; rw [hi] at q; cases q
    · rw [List.getElem?_set_ne hij]; exact q
/-- x.append(e), x the slot n -/
def appS (n : Nat) (f : M PyData) : SS := fun env => match env[n]? with
  | some (.mu _) => match f env with
    | some (d, env1) => match env1[n]? with
      | some (.mu ds) => if ds.length < sizeLine then some (.nx, env1.set n (.mu (ds ++ [d]))) else none
      | _ => none
    | none => none
  | _ => none
theorem fs_append {f : M PyData} {n : Nat} {x : Str} {np apos cpos : Pos} (hN : X.N[n]? = some x) (hv : Vis X.env.scope x) (h : FD X T pin e f) (hd : (x == ("__debug__" : Str)) = false := by decide) (hcd : (x == ("__classdict__" : Str)) = false := by decide)
    (hbase : attributeBase (.Name x np) "append" X.env (eval (.Name x np) X.env) = eval (.Name x np) X.env := by rfl)
    (hfew : ((backTo cpos (starEach [e] X.env)).all (fun x => !x.1) && (backToKw cpos (keywordEach [] X.env)).all (fun x => x.1.isSome)
      && decide ([e].length + ([] : List Keyword).length + (if ([] : List Keyword).isEmpty then 0 else 1) < 30)) = true := by rfl)
    (hline : (apos.endLine == cpos.line) = true := by rfl) (hs : starEach [e] X.env = (false, eval e X.env) :: starEach [] X.env := by rfl) (hplain : (backTo cpos (starEach [] X.env)).any (·.1) = false := by rfl)
    (hsw : swapsWith (.Call (.Attribute (.Name x np) "append" apos) [e] [] cpos) none pos.line X.env = pure false := by rfl) :
    FS X T pin (.Expr (.Call (.Attribute (.Name x np) "append" apos) [e] [] cpos) pos) (appS n f) := by
  refine PS.imp (ps_expr (pe_bm PySem.F.plainAttrs_list PySem.F.slot_list_append PySem.F.type_list_append mt_append (pe_var hN hv hd hcd) (pa_cons h pa_nil hs) hbase hfew hline hs hplain) hsw) fun D σ H ⟨G, env, out, env', S, hf, k⟩ => ?_
  unfold appS at hf
  split at hf
  · rename_i ds0 q0
    split at hf
    · rename_i d env1 q1
      split at hf
      · rename_i ds q2
        obtain ⟨c, hf⟩ := some_if hf
        cases hf
        obtain ⟨a, xs0, e1, _, e3, _⟩ := S.mu n ds0 q0
        refine ⟨.ref a, e1, .inl ⟨rfl, xs0, SqL.of e3⟩, G, env, d, env1, S, q1, fun v G1 H1 S1 x1 r1 => ?_⟩
        obtain ⟨a', xs, e1', e2', e3', e4'⟩ := S1.mu n ds q2
        rw [e1] at e1'
        cases e1'
        exact ⟨a, xs, v, rfl, rfl, e3', by rw [← e4'.length]; exact c, k σ G1 _ (S1.mut q2 e1 (e4'.append (RepL.one r1))) (x1.mut S1 q2 e1)⟩
      · cases hf
    · cases hf
  · cases hf
theorem lt63 {i : Int} (h : i.natAbs < 9223372036854775808) : i < 2 ^ 63 := by
  have e63 : (2 : Int) ^ 63 = 9223372036854775808 := by decide
  rw [e63]
  omega
/-- x.insert(i, e) -/
def insS (n : Nat) (g : M EV) (f : M PyData) : SS := fun env => match env[n]? with
  | some (.mu _) => match bindM g evI env with
    | some (i, env1) => match f env1 with
      | some (d, env2) => match env2[n]? with
        | some (.mu ds) => if ds.length < sizeLine ∧ 0 ≤ i ∧ i.natAbs < 9223372036854775808 then some (.nx, env2.set n (.mu (ds.take i.toNat ++ [d] ++ ds.drop i.toNat))) else none
        | _ => none
      | none => none
    | none => none
  | _ => none
theorem fs_insert {g : M EV} {f : M PyData} {n : Nat} {x : Str} {np apos cpos : Pos} (hN : X.N[n]? = some x) (hv : Vis X.env.scope x) (hi : FE X T pin i g) (h : FD X T pin e f) (hd : (x == ("__debug__" : Str)) = false := by decide) (hcd : (x == ("__classdict__" : Str)) = false := by decide)
    (hbase : attributeBase (.Name x np) "insert" X.env (eval (.Name x np) X.env) = eval (.Name x np) X.env := by rfl)
    (hfew : ((backTo cpos (starEach [i, e] X.env)).all (fun x => !x.1) && (backToKw cpos (keywordEach [] X.env)).all (fun x => x.1.isSome)
      && decide ([i, e].length + ([] : List Keyword).length + (if ([] : List Keyword).isEmpty then 0 else 1) < 30)) = true := by rfl)
    (hline : (apos.endLine == cpos.line) = true := by rfl) (hs : starEach [i, e] X.env = (false, eval i X.env) :: starEach [e] X.env := by rfl) (hs2 : starEach [e] X.env = (false, eval e X.env) :: starEach [] X.env := by rfl) (hplain : (backTo cpos (starEach [e] X.env)).any (·.1) = false := by rfl)
    (hsw : swapsWith (.Call (.Attribute (.Name x np) "insert" apos) [i, e] [] cpos) none pos.line X.env = pure false := by rfl) :
    FS X T pin (.Expr (.Call (.Attribute (.Name x np) "insert" apos) [i, e] [] cpos) pos) (insS n g f) := by
  refine PS.imp (ps_expr (pe_bm PySem.F.plainAttrs_list PySem.F.slot_list_insert PySem.F.type_list_insert mt_insert (pe_var hN hv hd hcd) (pa_cons hi (pa_cons h pa_nil hs2) hs) hbase hfew hline hs hplain) hsw) fun D σ H ⟨G, env, out, env', S, hf, k⟩ => ?_
  unfold insS at hf
  split at hf
  · rename_i ds0 q0
    split at hf
    · rename_i j env1 q1
      split at hf
      · rename_i d env2 q2
        split at hf
        · rename_i ds q3
          obtain ⟨⟨c1, c2, c3⟩, hf⟩ := some_if hf
          cases hf
          obtain ⟨ev, env1', h1, h2⟩ := bindM_some q1
          obtain ⟨rfl, sv, e5, e6⟩ := evI_some h2
          obtain ⟨a, xs0, e1, _, e3, _⟩ := S.mu n ds0 q0
          refine ⟨.ref a, e1, .inl ⟨rfl, xs0, SqL.of e3⟩, G, env, ev, _, S, h1, fun w G1 H1 S1 x1 o1 => ⟨G1, _, d, env2, S1, q2, fun v G2 H2 S2 x2 r2 => ?_⟩⟩
          obtain ⟨a', xs, e1', e2', e3', e4'⟩ := S2.mu n ds q3
          rw [e1] at e1'
          cases e1'
          have ew := (o1.view S1 e5).int e6
          subst ew
          exact ⟨a, xs, j, v, rfl, rfl, e3', by rw [← e4'.length]; exact c1, c2, lt63 c3, k σ G2 _ (S2.mut q3 e1 (((e4'.take _).append (RepL.one r2)).append (e4'.drop _))) ((x1.trans x2).mut S2 q3 e1)⟩
        · cases hf
      · cases hf
    · cases hf
  · cases hf
/-- x[i] = .., x the slot n -/
def uIx (n : Nat) (g : M EV) (d : PyData) (env : FEnv) : Option FEnv := match env[n]? with
  | some (.mu _) => match bindM g evI env with
    | some (i, env1) => match env1[n]? with
      | some (.mu ds) => match ixN ds.length i with
        | some j => some (env1.set n (.mu (ds.set j d)))
        | none => none
      | _ => none
    | none => none
  | _ => none
theorem fg_ix {ws : List Nat} {g : M EV} {n : Nat} {x : Str} {np : Pos} (hN : X.N[n]? = some x) (hv : Vis X.env.scope x) (hi : FE X T pin i g) (hd : (x == ("__debug__" : Str)) = false := by decide) (hcd : (x == ("__classdict__" : Str)) = false := by decide)
    (ha : ∀ v, assign (.Subscript (.Name x np) i pos) X.env v = (do
      let ov ← holding [v] (eval (.Name x np) X.env)
      let iv ← holding [v, ov] (eval i X.env)
      standAt pos
      holding [v, ov, iv] (setItem ov iv v)
      release [v, ov, iv] []) := by intro _; rfl) : FG X T pin ws (.Subscript (.Name x np) i pos) (uIx n g) := by
  refine PG.imp (pg_sub (pe_var hN hv hd hcd) hi set_list ha) fun v σ H Q ⟨G, env, d, env', S, r, hu, k⟩ => ?_
  unfold uIx at hu
  split at hu
  · rename_i ds0 q0
    split at hu
    · rename_i j env1 q1
      split at hu
      · rename_i ds q2
        split at hu
        · rename_i m q3
          cases hu
          obtain ⟨ev, env1', h1, h2⟩ := bindM_some q1
          obtain ⟨rfl, sv, e5, e6⟩ := evI_some h2
          obtain ⟨a, xs0, e1, _, e3, _⟩ := S.mu n ds0 q0
          refine ⟨.ref a, e1, G, env, ev, _, S, h1, fun w G1 H1 S1 x1 o1 => ?_⟩
          obtain ⟨a', xs, e1', e2', e3', e4'⟩ := S1.mu n ds q2
          rw [e1] at e1'
          cases e1'
          have ew := (o1.view S1 e5).int e6
          subst ew
          exact ⟨a, xs, j, m, rfl, rfl, e3', by rw [← e4'.length]; exact q3, k σ G1 _ (S1.mut q2 e1 (e4'.set m (r.mono x1.same))) (x1.mut S1 q2 e1) fun _ _ => rfl⟩
        · cases hu
      · cases hu
    · cases hu
  · cases hu
end
end FN

/-! A functional layer: what is walked; for, comprehensions, generator expressions -/
namespace FN
open PySem PySem.Spec PyProof.Rows L2 GX GxR

/-- the walk yields the items ds -/
def IterOk (K : PySem.W.Frag) (G : Hp) (J : It) (ds : List PyData) : Prop :=
  (∀ H, Same G H → J.stop ds.length H) ∧ ∀ k H d, Same G H → ds[k]? = some d → J.go k H ∧ ∀ x H', J.yld k H x H' → ∀ G', Same G G' → Same G' H → ∃ G'', Grow G' H G'' H' ∧ Rep K G'' d x
def rI (K : PySem.W.Frag) (T : List Addr) (pin : List Nat) (f : M (List PyData)) : TI := fun σ H R => ∃ G env ds env', StOk K T G σ H env ∧ f env = some (ds, env') ∧
  ∀ J G' H', StOk K T G' σ H' env' → Ext T pin G σ H env G' σ H' env' → IterOk K G' J ds → R J H'
abbrev FI (X : Cx) (T : List Addr) (pin : List Nat) (tg iter : Expr) (f : M (List PyData)) : Prop := PI X tg iter (rI X.K T pin f)

section
variable {K : PySem.W.Frag} {G : Hp}
theorem iter_list {a : Addr} {xs : List V} {ds : List PyData} (h : SqL K G a xs) (r : RepL K G ds xs) : IterOk K G (Itl K a) ds := by
  refine ⟨fun H hs => ⟨xs, Same.seq hs h, by rw [r.length]; exact Nat.le_refl _⟩, fun k H d hs e => ?_⟩
  obtain ⟨x, h1, h2⟩ := r.get e
  refine ⟨⟨xs, x, Same.seq hs h, h1⟩, fun y H' hy G' g1 g2 => ?_⟩
  obtain ⟨rfl, hy⟩ := hy
  have := hy xs (Same.seq hs h)
  rw [h1] at this
  cases this
  exact ⟨G', Grow.refl g2, h2.mono g1⟩
theorem iter_tup {a : Addr} {xs : List V} {ds : List PyData} (h : SqT K G a xs) (r : RepL K G ds xs) : IterOk K G (Itt K a) ds := by
  refine ⟨fun H hs => ⟨xs, same_seqT hs h, by rw [r.length]; exact Nat.le_refl _⟩, fun k H d hs e => ?_⟩
  obtain ⟨x, h1, h2⟩ := r.get e
  refine ⟨⟨xs, x, same_seqT hs h, h1⟩, fun y H' hy G' g1 g2 => ?_⟩
  obtain ⟨rfl, hy⟩ := hy
  have := hy xs (same_seqT hs h)
  rw [h1] at this
  cases this
  exact ⟨G', Grow.refl g2, h2.mono g1⟩
def charsD (z : Str) : List PyData := z.cps.toList.map fun c => .str ⟨#[c]⟩
theorem iter_str {z : Str} : IterOk K G (Its z) (charsD z) := by
  refine ⟨fun H hs => ?_, fun k H d hs e => ?_⟩
  · show z.cps.size ≤ (charsD z).length
    simp [charsD]
  · unfold charsD at e
    rw [List.getElem?_map] at e
    cases q : z.cps.toList[k]? with
    | none => rw [q] at e; cases e
    | some c =>
      rw [q] at e
      cases e
      have hk : k < z.cps.size := by
        have := (List.getElem?_eq_some_iff.mp q).1
        simpa using this
      refine ⟨hk, fun y H' hy G' g1 g2 => ?_⟩
      obtain ⟨rfl, c', e1, rfl⟩ := hy
      have e2 : z.cps[k]? = some c := by rw [← Array.getElem?_toList]; exact q
      rw [e2] at e1
      cases e1
      exact ⟨G', Grow.refl g2, rfl⟩
def rangeD (lo : Int) (n : Nat) : List PyData := (List.range n).map fun k => .int (lo + (k : Nat))
theorem iter_range {lo : Int} {n : Nat} : IterOk K G (Itr lo n) (rangeD lo n) := by
  refine ⟨fun H hs => ?_, fun k H d hs e => ?_⟩
  · show n ≤ (rangeD lo n).length
    simp [rangeD]
  · unfold rangeD at e
    rw [List.getElem?_map] at e
    cases q : (List.range n)[k]? with
    | none => rw [q] at e; cases e
    | some c =>
      rw [q] at e
      cases e
      obtain ⟨h1, h2⟩ := List.getElem?_eq_some_iff.mp q
      rw [List.getElem_range] at h2
      subst h2
      have h3 : k < n := by simpa using h1
      refine ⟨h3, fun y H' hy G' g1 g2 => ?_⟩
      obtain ⟨rfl, rfl⟩ := hy
      exact ⟨G', Grow.refl g2, rfl⟩
end

section
variable {X : Cx} {T : List Addr} {pin : List Nat} {e a b c iter tg elt : Expr} {es ifs : List Expr} {body : List Stmt} {pos p : Pos}
/-- a list, a tuple, a text -/
def itemsOf (d : PyData) : M (List PyData) := fun env => match d with
  | .list ds => some (ds, env)
  | .tuple ds => some (ds, env)
  | .str z => some (charsD z, env)
  | _ => none
theorem fi_seq {f : M PyData} (h : FD X T pin e f) : FI X T pin tg e (bindM f itemsOf) := by
  refine ⟨fun pins s σ H R I ⟨G, env, ds, env', S, hf, k⟩ => ?_⟩
  obtain ⟨d, env1, h1, h2⟩ := bindM_some hf
  cases d with
  | list es =>
    cases h2
    refine (pi_list h).run pins s σ H R I ⟨G, env, _, _, S, h1, fun v G1 H1 S1 x1 r1 => ?_⟩
    obtain ⟨a, xs, rfl, q, rl⟩ := r1
    exact ⟨a, rfl, ⟨xs, Same.seq S1.same q⟩, k _ G1 H1 S1 x1 (iter_list q rl)⟩
  | tuple es =>
    cases h2
    refine (pi_tup h).run pins s σ H R I ⟨G, env, _, _, S, h1, fun v G1 H1 S1 x1 r1 => ?_⟩
    obtain ⟨a, xs, rfl, q, rl⟩ := r1
    exact ⟨a, rfl, ⟨xs, same_seqT S1.same q⟩, k _ G1 H1 S1 x1 (iter_tup q rl)⟩
  | str z =>
    cases h2
    refine (pi_str h).run pins s σ H R I ⟨G, env, _, _, S, h1, fun v G1 H1 S1 x1 r1 => ?_⟩
    exact ⟨z, r1, k _ G1 H1 S1 x1 iter_str⟩
  | _ => cases h2
def rng1 (f : M EV) : M (List PyData) := bindM (bindM f evI) fun j env => if j.natAbs < 4611686018427387904 then some (rangeD 0 j.toNat, env) else none
def rng2 (f g : M EV) : M (List PyData) := bindM (bindM f evI) fun i => bindM (bindM g evI) fun j env => if i.natAbs < 4611686018427387904 ∧ j.natAbs < 4611686018427387904 then some (rangeD i (j - i).toNat, env) else none
theorem bindI_some {f : M EV} {env env2 : FEnv} {i : Int} (h : bindM f evI env = some (i, env2)) : ∃ ev sv, f env = some (ev, env2) ∧ view ev env2 = some sv ∧ sv.asI = some i := by
  obtain ⟨ev, env1, h1, h2⟩ := bindM_some h
  obtain ⟨rfl, sv, e1, e2⟩ := evI_some h2
  exact ⟨ev, sv, h1, e1, e2⟩
theorem fi_range1 {f : M EV} (hg : Gl X "range") (hm : X.mg "range" = none) (h : FE X T pin e f) (hs : starEach [e] X.env = [(false, eval e X.env)] := by rfl) : FI X T pin tg (.Call (.Name "range" p) [e] [] pos) (rng1 f) := by
  refine ⟨fun pins s σ H R I ⟨G, env, ds, env', S, hf, k⟩ => ?_⟩
  obtain ⟨j, env1, h1, h2⟩ := bindM_some hf
  obtain ⟨c, h2⟩ := some_if h2
  cases h2
  obtain ⟨ev, sv, q1, q2, q3⟩ := bindI_some h1
  refine (pi_range1 hg hm (pa_cons h pa_nil hs) hs).run pins s σ H R I ⟨G, env, ev, _, S, q1, fun v G1 H1 S1 x1 o1 => ?_⟩
  have ev1 := (o1.view S1 q2).int q3
  subst ev1
  have e62 : (2 : Int) ^ 62 = 4611686018427387904 := by decide
  refine ⟨j, rfl, by rw [e62]; omega, by rw [e62]; omega, ?_⟩
  exact k _ G1 H1 S1 x1 iter_range
theorem fi_range2 {f g : M EV} (hg : Gl X "range") (hm : X.mg "range" = none) (h : FE X T pin a f) (h' : FE X T pin b g) (hs : starEach [a, b] X.env = [(false, eval a X.env), (false, eval b X.env)] := by rfl) (hs2 : starEach [b] X.env = (false, eval b X.env) :: starEach [] X.env := by rfl)
    (hs3 : starEach [a, b] X.env = (false, eval a X.env) :: starEach [b] X.env := by rfl) : FI X T pin tg (.Call (.Name "range" p) [a, b] [] pos) (rng2 f g) := by
  refine ⟨fun pins s σ H R I ⟨G, env, ds, env', S, hf, k⟩ => ?_⟩
  obtain ⟨i, env1, h1, hf⟩ := bindM_some hf
  obtain ⟨j, env2, h2, hf⟩ := bindM_some hf
  obtain ⟨c, hf⟩ := some_if hf
  cases hf
  obtain ⟨ev, sv, q1, q2, q3⟩ := bindI_some h1
  obtain ⟨ev', sv', q4, q5, q6⟩ := bindI_some h2
  refine (pi_range2 hg hm (pa_cons h (pa_cons h' pa_nil hs2) hs3) hs hs2).run pins s σ H R I ⟨G, env, ev, _, S, q1, fun v G1 H1 S1 x1 o1 => ⟨G1, _, ev', _, S1, q4, fun w G2 H2 S2 x2 o2 => ?_⟩⟩
  have e1 := (o1.view S1 q2).int q3
  have e2 := (o2.view S2 q5).int q6
  subst e1 e2
  have e62 : (2 : Int) ^ 62 = 4611686018427387904 := by decide
  exact ⟨i, j, rfl, by rw [e62]; omega, k _ G2 H2 S2 (x1.trans x2) iter_range⟩

/-! ### for -/
def loopS (u : PyData → FEnv → Option FEnv) (body : SS) : List PyData → SS
  | [], env => some (.nx, env)
  | d :: ds, env => match u d env with
    | none => none
    | some env1 => match body env1 with
      | some (.nx, env2) => loopS u body ds env2
      | some (.ct, env2) => loopS u body ds env2
      | some (.bk, env2) => some (.nx, env2)
      | some (.rt ev, env2) => some (.rt ev, env2)
      | none => none
def forS (items : M (List PyData)) (u : PyData → FEnv → Option FEnv) (body : SS) : SS := fun env => match items env with
  | some (ds, env1) => loopS u body ds env1
  | none => none
theorem drop_get {α : Type} {l : List α} {k : Nat} (h : k < l.length) : ∃ d, l[k]? = some d ∧ l.drop k = d :: l.drop (k + 1) := ⟨l[k], List.getElem?_eq_getElem h, List.drop_eq_getElem_cons h⟩
theorem fs_for {ws : List Nat} {items : M (List PyData)} {u : PyData → FEnv → Option FEnv} {f : SS} (hp : PassesOwn (model X.prog X.w) X.A X.env X.xe) (hc : X.calm = true) (hi : FI X T pin tg iter items) (hg : FG X T pin ws tg u) (hb : FSs X T pin body f)
    (hs : ∀ x, foldedSetIterable iter X.env x = pure x := by intro _; rfl) : FS X T pin (.For tg iter body [] pos) (forS items u f) := by
  refine PS.imp (ps_for hp hc hi hg hb hs) fun D σ H ⟨G, env, out, env', S, hf, kk⟩ => ?_
  unfold forS at hf
  split at hf
  · rename_i ds env1 q
    refine ⟨G, env, ds, env1, S, q, fun J G1 H1 S1 x1 io => ?_⟩
    obtain ⟨ioS, ioG⟩ := io
    refine ⟨fun k m σ' H' => m = ds.length - k ∧ k ≤ ds.length ∧ ∃ Gk envk, StOk X.K T Gk σ' H' envk ∧ Ext T pin G1 σ H1 env1 Gk σ' H' envk ∧ loopS u f (ds.drop k) envk = some (out, env'), ⟨ds.length, by simp, Nat.zero_le _, G1, env1, S1, Ext.refl S1, by simpa using hf⟩, ?_⟩
    rintro k m σ' H' ⟨rfl, hk, Gk, envk, Sk, xk, hl⟩
    by_cases hlt : k < ds.length
    · obtain ⟨d, e1, e2⟩ := drop_get hlt
      rw [e2] at hl
      obtain ⟨jg, jy⟩ := ioG k H' d (xk.same.trans Sk.same) e1
      refine .inr ⟨jg, fun σ3 H3 => (∃ Gk envk, StOk X.K T Gk σ3 H3 envk ∧ Ext T pin G1 σ H1 env1 Gk σ3 H3 envk ∧ loopS u f (ds.drop (k + 1)) envk = some (out, env')), fun σ3 H3 h3 => ⟨ds.length - (k + 1), by omega, rfl, hlt, h3⟩, fun x H'' hy => ?_⟩
      obtain ⟨G2, gr, rx⟩ := jy x H'' hy Gk xk.same Sk.same
      have S2 := Sk.grow gr
      have x2 := xk.trans (Ext.grow (pin := pin) Sk gr)
      unfold loopS at hl
      split at hl
      · cases hl
      · rename_i envu qu
        refine ⟨G2, envk, d, envu, S2, rx, qu, fun σ3 G3 H3 S3 x3 _ => ?_⟩
        have x03 := x2.trans x3
        split at hl
        · rename_i env4 q4
          exact ⟨G3, envu, .nx, env4, S3, q4, fun σ4 G4 H4 S4 x4 => ⟨G4, env4, S4, x03.trans x4, hl⟩⟩
        · rename_i env4 q4
          exact ⟨G3, envu, .ct, env4, S3, q4, fun σ4 G4 H4 S4 x4 => ⟨G4, env4, S4, x03.trans x4, hl⟩⟩
        · rename_i env4 q4
          cases hl
          exact ⟨G3, envu, .bk, _, S3, q4, fun σ4 G4 H4 S4 x4 => kk σ4 G4 H4 S4 (x1.trans (x03.trans x4))⟩
        · rename_i ev env4 q4
          cases hl
          refine ⟨G3, envu, .rt ev, _, S3, q4, fun σ4 G4 H4 S4 x4 v rv => ?_⟩
          exact kk σ4 G4 H4 S4 (x1.trans (x03.trans x4)) v (rv.from (x1.trans x03))
        · cases hl
    · have ek : k = ds.length := by omega
      subst ek
      rw [List.drop_length] at hl
      cases hl
      exact .inl ⟨ioS H' (xk.same.trans Sk.same), kk σ' Gk H' Sk (x1.trans xk)⟩
  · cases hf
end
end FN

/-! A functional layer: comprehensions, all and any over generator expressions -/
namespace FN
open PySem PySem.Spec PyProof.Rows L2 GX GxR

/-- a block's own slots, forgotten -/
def wipeE (env : FEnv) : List Nat → FEnv
  | [] => env
  | v :: vs => (wipeE env vs).set v .no
/-- .. as they were -/
def backE (env0 env : FEnv) : List Nat → FEnv
  | [] => env
  | v :: vs => (backE env0 env vs).set v (env0.getD v .no)
def noMu (vs : List Nat) (env : FEnv) : Bool := vs.all fun v => match env[v]? with
  | some (.mu _) => false
  | _ => true
theorem wipeE_length (env : FEnv) : ∀ vs : List Nat, (wipeE env vs).length = env.length
  | [] => rfl
  | v :: vs => by unfold wipeE; rw [List.length_set, wipeE_length env vs]
theorem backE_length (env0 env : FEnv) : ∀ vs : List Nat, (backE env0 env vs).length = env.length
  | [] => rfl
  | v :: vs => by unfold backE; rw [List.length_set, backE_length env0 env vs]
theorem wipeE_get {env : FEnv} {i : Nat} {x : SV} : ∀ {vs : List Nat}, (wipeE env vs)[i]? = some x → x = .no ∨ (i ∉ vs ∧ env[i]? = some x)
  | [], h => .inr ⟨by simp, h⟩
  | v :: vs, h => by
    unfold wipeE at h
    rcases get_set h with ⟨_, _, e⟩ | ⟨hj, e⟩
    · exact .inl e
    · rcases wipeE_get e with z | ⟨z1, z2⟩
      · exact .inl z
      · exact .inr ⟨by simp only [List.mem_cons, not_or]; exact ⟨hj, z1⟩, z2⟩
theorem wipeE_ne {env : FEnv} {i : Nat} : ∀ {vs : List Nat}, i ∉ vs → (wipeE env vs)[i]? = env[i]?
  | [], _ => rfl
  | v :: vs, h => by
    unfold wipeE
    rw [List.getElem?_set_ne (fun z => h (by rw [z]; exact List.mem_cons_self))]
    exact wipeE_ne fun z => h (List.mem_cons_of_mem _ z)
theorem wipe_ne {σ : L2.St} {i : Nat} : ∀ {vs : List Nat}, i ∉ vs → (wipe σ vs)[i]? = σ[i]?
  | [], _ => rfl
  | v :: vs, h => by
    unfold wipe
    rw [List.getElem?_set_ne (fun z => h (by rw [z]; exact List.mem_cons_self))]
    exact wipe_ne fun z => h (List.mem_cons_of_mem _ z)
theorem backE_ne {env0 env : FEnv} {i : Nat} : ∀ {vs : List Nat}, i ∉ vs → (backE env0 env vs)[i]? = env[i]?
  | [], _ => rfl
  | v :: vs, h => by
    unfold backE
    rw [List.getElem?_set_ne (fun z => h (by rw [z]; exact List.mem_cons_self))]
    exact backE_ne fun z => h (List.mem_cons_of_mem _ z)
theorem backE_in {env0 env : FEnv} {i : Nat} {x : SV} : ∀ {vs : List Nat}, i ∈ vs → (backE env0 env vs)[i]? = some x → x = env0.getD i .no
  | [], h, _ => by cases h
  | v :: vs, h, e => by
    unfold backE at e
    rcases get_set e with ⟨rfl, _, e⟩ | ⟨hj, e⟩
    · exact e
    · rcases List.mem_cons.mp h with z | z
      · exact absurd z hj
      · exact backE_in z e
theorem getD_some {env0 : FEnv} {i : Nat} {x : SV} (h : x = env0.getD i .no) (hx : x ≠ .no) : env0[i]? = some x := by
  rw [List.getD_eq_getElem?_getD] at h
  cases q : env0[i]? with
  | none => rw [q] at h; exact absurd h hx
  | some y => rw [q] at h; rw [h]; rfl
theorem noMu_at {vs : List Nat} {env : FEnv} (h : noMu vs env = true) {i : Nat} (hi : i ∈ vs) {ds : List PyData} (e : env[i]? = some (.mu ds)) : False := by
  have := List.all_eq_true.mp h i hi
  rw [e] at this
  cases this

section
variable {K : PySem.W.Frag} {T : List Addr} {pin : List Nat} {G G0 G1 G2 : Hp} {σ σ0 σ1 σ2 : L2.St} {H H0 H1 H2 : Hp} {env env0 env1 env2 : FEnv} {vs : List Nat}
theorem mu_wipe {b : Addr} (h : Mu (wipe σ vs) (wipeE env vs) b) : Mu σ env b := by
  obtain ⟨i, ds, e1, e2⟩ := h
  rcases wipeE_get e1 with z | ⟨z1, z2⟩
  · cases z
  · rw [wipe_ne z1] at e2
    exact ⟨i, ds, z2, e2⟩
theorem StOk.wipe (S : StOk K T G σ H env) (vs : List Nat) : StOk K T G (wipe σ vs) H (wipeE env vs) where
  len := by rw [wipeE_length, wipe_length]; exact S.len
  same := S.same
  tab := S.tab
  im := fun i d e => by
    rcases wipeE_get e with z | ⟨z1, z2⟩
    · cases z
    · rw [wipe_ne z1]; exact S.im i d z2
  mu := fun i ds e => by
    rcases wipeE_get e with z | ⟨z1, z2⟩
    · cases z
    · rw [wipe_ne z1]; exact S.mu i ds z2
  inj := fun i j ds es e1 e2 e3 => by
    rcases wipeE_get e1 with z | ⟨z1, z2⟩
    · cases z
    · rcases wipeE_get e2 with y | ⟨y1, y2⟩
      · cases y
      · rw [wipe_ne z1, wipe_ne y1] at e3
        exact S.inj i j ds es z2 y2 e3
theorem Ext.wipeR (x : Ext T pin G0 σ0 H0 env0 G σ H env) (vs : List Nat) (hp : ∀ i ∈ pin, i ∉ vs) : Ext T pin G0 σ0 H0 env0 G (wipe σ vs) H (wipeE env vs) where
  same := x.same
  gfr := x.gfr
  hfr := x.hfr
  there := x.there
  mus := fun b h => x.mus b (mu_wipe h)
  pins := fun i hi => by rw [wipe_ne (hp i hi)]; exact x.pins i hi
  pinv := fun i hi ds a e1 e2 e3 => by rw [wipeE_ne (hp i hi)]; exact x.pinv i hi ds a e1 e2 e3
  pini := fun i hi d e => by rw [wipeE_ne (hp i hi)]; exact x.pini i hi d e
theorem StOk.back (S1 : StOk K T G1 σ H1 env1) (S : StOk K T G (L2.wipe σ vs) H env) (hs : Same G1 G) (hn : noMu vs env1 = true) : StOk K T G σ H (backE env1 env vs) where
  len := by rw [backE_length, S.len, wipe_length]
  same := S.same
  tab := S.tab
  im := fun i d e => by
    by_cases hi : i ∈ vs
    · obtain ⟨v, h1, h2⟩ := S1.im i d (getD_some (backE_in hi e) (fun z => by cases z))
      exact ⟨v, h1, h2.mono hs⟩
    · rw [backE_ne hi] at e
      obtain ⟨v, h1, h2⟩ := S.im i d e
      rw [wipe_ne hi] at h1
      exact ⟨v, h1, h2⟩
  mu := fun i ds e => by
    by_cases hi : i ∈ vs
    · exact (noMu_at hn hi (getD_some (backE_in hi e) (fun z => by cases z))).elim
    · rw [backE_ne hi] at e
      have := S.mu i ds e
      rw [wipe_ne hi] at this
      exact this
  inj := fun i j ds es e1 e2 e3 => by
    by_cases hi : i ∈ vs
    · exact (noMu_at hn hi (getD_some (backE_in hi e1) (fun z => by cases z))).elim
    · by_cases hj : j ∈ vs
      · exact (noMu_at hn hj (getD_some (backE_in hj e2) (fun z => by cases z))).elim
      · rw [backE_ne hi] at e1
        rw [backE_ne hj] at e2
        exact S.inj i j ds es e1 e2 (by rw [wipe_ne hi, wipe_ne hj]; exact e3)
theorem mu_back (hn : noMu vs env1 = true) {b : Addr} (h : Mu σ (backE env1 env vs) b) : Mu (L2.wipe σ vs) env b := by
  obtain ⟨i, ds, e1, e2⟩ := h
  by_cases hi : i ∈ vs
  · exact (noMu_at hn hi (getD_some (backE_in hi e1) (fun z => by cases z))).elim
  · rw [backE_ne hi] at e1
    exact ⟨i, ds, e1, by rw [wipe_ne hi]; exact e2⟩
theorem Ext.back (hp : ∀ i ∈ pin, i ∉ vs) (hn : noMu vs env1 = true) (x : Ext T pin G1 (L2.wipe σ vs) H1 (wipeE env1 vs) G (L2.wipe σ vs) H env) : Ext T pin G1 σ H1 env1 G σ H (backE env1 env vs) where
  same := x.same
  gfr := fun b e1 e2 e3 => x.gfr b e1 e2 fun h => e3 (mu_wipe h)
  hfr := fun b o e1 e2 e3 => x.hfr b o e1 (fun h => e2 (mu_wipe h)) e3
  there := x.there
  mus := fun b h => (x.mus b (mu_back hn h)).imp mu_wipe id
  pins := fun _ _ => rfl
  pinv := fun i hi ds a e1 e2 e3 => by
    rw [backE_ne (hp i hi)]
    exact x.pinv i hi ds a (by rw [wipeE_ne (hp i hi)]; exact e1) (by rw [wipe_ne (hp i hi)]; exact e2) e3
  pini := fun i hi d e => by
    rw [backE_ne (hp i hi)]
    exact x.pini i hi d (by rw [wipeE_ne (hp i hi)]; exact e)
/-- a list of its own that no slot holds -/
structure Lone (K : PySem.W.Frag) (G : Hp) (σ : L2.St) (H : Hp) (env : FEnv) (D : Addr) (es : List PyData) (ys : List V) : Prop where
  gh : G D = none
  at' : H D = some (.lst ys)
  rep : RepL K G es ys
  nm : ¬ Mu σ env D
theorem Lone.ext {D : Addr} {es : List PyData} {ys : List V} (L : Lone K G σ H env D es ys) (S : StOk K T G σ H env) (x : Ext T pin G σ H env G1 σ1 H1 env1) : Lone K G1 σ1 H1 env1 D es ys where
  gh := x.gfr D L.gh (by rw [L.at']; simp) L.nm
  at' := x.hfr D _ L.at' L.nm fun hT => by
    obtain ⟨⟨ps, hP, _⟩, _⟩ := S.tab D hT
    rw [L.at'] at hP; cases hP
  rep := L.rep.mono x.same
  nm := fun h => (x.mus D h).elim L.nm fun z => by rw [L.at'] at z; cases z
theorem Lone.wipe {D : Addr} {es : List PyData} {ys : List V} (L : Lone K G σ H env D es ys) (vs : List Nat) : Lone K G (wipe σ vs) H (wipeE env vs) D es ys := ⟨L.gh, L.at', L.rep, fun h => L.nm (mu_wipe h)⟩
theorem StOk.updL {D : Addr} {es : List PyData} {ys zs : List V} (S : StOk K T G σ H env) (L : Lone K G σ H env D es ys) : StOk K T G σ (upd H D (.lst zs)) env where
  len := S.len
  same := fun b o e => by rw [upd_ne (ne_of_none e L.gh)]; exact S.same b o e
  tab := fun P hP => by
    obtain ⟨⟨ps, q, t⟩, q2⟩ := S.tab P hP
    exact ⟨⟨ps, by rw [upd_ne (fun z => by rw [z, L.at'] at q; cases q)]; exact q, t⟩, q2⟩
  im := S.im
  mu := fun i ds e => by
    obtain ⟨a, xs, q1, q2, q3, q4⟩ := S.mu i ds e
    exact ⟨a, xs, q1, q2, by rw [upd_ne (fun z => L.nm ⟨i, ds, e, by rw [← z]; exact q1⟩)]; exact q3, q4⟩
  inj := S.inj
theorem Ext.updL {D : Addr} {zs : List V} (x : Ext T pin G0 σ0 H0 env0 G σ H env) (h : H0 D = none) : Ext T pin G0 σ0 H0 env0 G σ (upd H D (.lst zs)) env where
  same := x.same
  gfr := x.gfr
  hfr := fun b o e1 e2 e3 => by rw [upd_ne (ne_of_none e1 h)]; exact x.hfr b o e1 e2 e3
  there := fun b hb => by
    by_cases q : b = D
    · subst q; exact absurd h hb
    · rw [upd_ne q]; exact x.there b hb
  mus := x.mus
  pins := x.pins
  pinv := x.pinv
  pini := x.pini
/-- D is laid anew -/
theorem StOk.lay {D : Addr} {zs : List V} (S : StOk K T G σ H env) (h : H D = none) : StOk K T G σ (upd H D (.lst zs)) env := S.grow (Grow.mu _ S.same h)
theorem StOk.notMu (S : StOk K T G σ H env) {D : Addr} (h : H D = none) : ¬ Mu σ env D := fun hm => by
  obtain ⟨_, _, ys, q⟩ := S.mu_no hm
  rw [h] at q; cases q
theorem StOk.gnone (S : StOk K T G σ H env) {D : Addr} (h : H D = none) : G D = none := S.same.free h
theorem StOk.tabbed {P : Addr} (S : StOk K T G σ H env) (hP : P ∈ T) (t : Tabbed P H H1) : StOk K T G σ H1 env ∧ Ext T pin G σ H env G σ H1 env := by
  obtain ⟨⟨ps, p1, p2⟩, p3⟩ := S.tab P hP
  have ne : ∀ b, G b ≠ none → b ≠ P := fun b h z => h (by rw [z]; exact p3)
  refine ⟨⟨S.len, fun b o e => by rw [t.2 b (ne b (by rw [e]; simp))]; exact S.same b o e, fun Q hQ => ?_, S.im, fun i ds e => ?_, S.inj⟩, ⟨Same.refl _, fun b e _ _ => e, fun b o e _ h => ?_, fun b h => ?_, fun b h => .inl h, fun _ _ => rfl, fun i hi ds a e1 e2 e3 => ⟨ds, e1⟩, fun _ _ _ e => e⟩⟩
  · by_cases hq : Q = P
    · subst hq; exact ⟨t.1, p3⟩
    · obtain ⟨⟨qs, q1, q2⟩, q3⟩ := S.tab Q hQ
      exact ⟨⟨qs, by rw [t.2 Q hq]; exact q1, q2⟩, q3⟩
  · obtain ⟨a, xs, q1, q2, q3, q4⟩ := S.mu i ds e
    exact ⟨a, xs, q1, q2, by rw [t.2 a (fun z => by rw [z, p1] at q3; cases q3)]; exact q3, q4⟩
  · rw [t.2 b (fun z => h (by rw [z]; exact hP))]; exact e
  · by_cases hq : b = P
    · subst hq; obtain ⟨qs, q1, _⟩ := t.1; rw [q1]; simp
    · rw [t.2 b hq]; exact h
end

/-! ### [.. for .. in .. if ..] -/
def lcGo (vs : List Nat) (u : PyData → FEnv → Option FEnv) (test : M Bool) (elt : M PyData) : List PyData → List PyData → M (List PyData)
  | [], acc, env => some (acc, env)
  | d :: ds, acc, env => match u d env with
    | none => none
    | some env1 => match test env1 with
      | none => none
      | some (false, env2) => lcGo vs u test elt ds acc (wipeE env2 vs)
      | some (true, env2) => match elt env2 with
        | none => none
        | some (e, env3) => if acc.length < sizeLine then lcGo vs u test elt ds (acc ++ [e]) (wipeE env3 vs) else none
def lcM (vs : List Nat) (items : M (List PyData)) (u : PyData → FEnv → Option FEnv) (test : M Bool) (elt : M PyData) : M EV := fun env => match items env with
  | none => none
  | some (ds, env1) => if noMu vs env1 = true then match lcGo vs u test elt ds [] (wipeE env1 vs) with
    | some (es, env2) => some (.own es, backE env1 env2 vs)
    | none => none else none
abbrev FTs (X : Cx) (T : List Addr) (pin : List Nat) (ifs : List Expr) (f : M Bool) : Prop := PTs X ifs (rT X.K T pin f)
theorem PTs.imp {X : Cx} {e : List Expr} {t t' : TT} (h : PTs X e t) (k : ∀ σ H Q, t' σ H Q → t σ H Q) : PTs X e t' := ⟨fun pins s σ H Q I q => h.run pins s σ H Q I (k σ H Q q)⟩
theorem fts_nil {X : Cx} {T : List Addr} {pin : List Nat} : FTs X T pin [] (retM true) := PTs.imp pts_nil fun σ H Q ⟨G, env, b, env', S, hf, k⟩ => by cases hf; exact k G H S (Ext.refl S)
theorem fts_one {X : Cx} {T : List Addr} {pin : List Nat} {c : Expr} {f : M Bool} (h : FT X T pin c f) : FTs X T pin [c] f := pts_one h
def ULen (u : PyData → FEnv → Option FEnv) : Prop := ∀ d env env', u d env = some env' → env'.length = env.length
theorem ul_name {pin : List Nat} {i : Nat} : ULen (uName pin i) := fun d env env' h => by
  unfold uName at h
  split at h
  · cases h
  · cases h; rw [List.length_set]
theorem ul_go : ∀ {us : List (PyData → FEnv → Option FEnv)} {ds : List PyData} {env env' : FEnv}, (∀ u ∈ us, ULen u) → uTup.go us ds env = some env' → env'.length = env.length
  | [], [], _, _, _, h => by cases h; rfl
  | u :: us, d :: ds, env, env', hu, h => by
    unfold uTup.go at h
    split at h
    · rename_i env1 q
      rw [ul_go (fun v hv => hu v (List.mem_cons_of_mem _ hv)) h, hu u List.mem_cons_self _ _ _ q]
    · cases h
  | [], _ :: _, _, _, _, h => by cases h
  | _ :: _, [], _, _, _, h => by cases h
theorem ul_tup {us : List (PyData → FEnv → Option FEnv)} (h : ∀ u ∈ us, ULen u) : ULen (uTup us) := fun d env env' e => by
  cases d with
  | tuple ds => exact ul_go h e
  | _ => cases e
theorem ul_nil : ∀ u ∈ ([] : List (PyData → FEnv → Option FEnv)), ULen u := fun _ h => by cases h
theorem ul_cons {u : PyData → FEnv → Option FEnv} {us : List (PyData → FEnv → Option FEnv)} (h : ULen u) (h2 : ∀ u ∈ us, ULen u) : ∀ v ∈ u :: us, ULen v := fun v hv => by
  rcases List.mem_cons.mp hv with z | z
  · rw [z]; exact h
  · exact h2 v z
theorem wipe_at {j : Nat} (τ : L2.St) : ∀ (us : List Nat), j ∈ us → (wipe τ us)[j]? = if j < τ.length then some none else none
  | [], h => by cases h
  | u :: us, h => by
    unfold wipe
    by_cases hu : u = j
    · subst hu
      rw [List.getElem?_set, if_pos rfl, wipe_length]
    · rw [List.getElem?_set_ne hu]
      refine wipe_at τ us ?_
      rcases List.mem_cons.mp h with z | z
      · exact absurd z.symm hu
      · exact z
theorem wipe_frame {σ σ3 : L2.St} {vs : List Nat} (h : ∀ j, j ∉ vs → σ3[j]? = (wipe σ vs)[j]?) (hl : σ3.length = (wipe σ vs).length) : wipe σ3 vs = wipe σ vs := by
  rw [wipe_length] at hl
  refine List.ext_getElem? fun j => ?_
  by_cases hj : j ∈ vs
  · rw [wipe_at _ _ hj, wipe_at _ _ hj, hl]
  · rw [wipe_ne hj]; exact h j hj
theorem ite_some {α : Type} {c : Prop} [Decidable c] {a : Option α} {z : α} (h : (if c then a else none) = some z) : c ∧ a = some z := by
  split at h
  · exact ⟨by assumption, h⟩
  · cases h
theorem lc_read {K : PySem.W.Frag} {T : List Addr} {pin vs : List Nat} {items : M (List PyData)} {u : PyData → FEnv → Option FEnv} {test : M Bool} {elt : M PyData} (hp : ∀ i ∈ pin, i ∉ vs) (hu : ULen u) {σ : L2.St} {H : Hp} {Q : VK} (h : rE K T pin (lcM vs items u test elt) σ H Q) :
    tLc (rI K T pin items) (rG K T pin vs u) (rT K T pin test) (rD K T pin elt) vs σ H Q := by
  obtain ⟨G, env, ev, env', S, hf, kk⟩ := h
  unfold lcM at hf
  split at hf
  · cases hf
  · rename_i ds env1 q
    split at hf
    · rename_i hn
      split at hf
      · rename_i es env2 q2
        cases hf
        refine ⟨G, env, ds, env1, S, q, fun J G1 H1 S1 x1 io D hD => ?_⟩
        obtain ⟨ioS, ioG⟩ := io
        have S1w := S1.wipe vs
        refine ⟨fun k m H' => m = ds.length - k ∧ k ≤ ds.length ∧ ∃ Gk envk acc ys, StOk K T Gk (wipe σ vs) H' envk ∧ Ext T pin G1 (wipe σ vs) H1 (wipeE env1 vs) Gk (wipe σ vs) H' envk ∧ Lone K Gk (wipe σ vs) H' envk D acc ys ∧ lcGo vs u test elt (ds.drop k) acc envk = some (es, env2),
          ⟨ds.length, by simp, Nat.zero_le _, G1, _, [], [], S1w.lay hD, (Ext.refl S1w).updL hD, ⟨S1w.gnone hD, upd_same, trivial, S1w.notMu hD⟩, by simpa using q2⟩, ?_⟩
        rintro k m H' ⟨rfl, hk, Gk, envk, acc, ys, Sk, xk, Lk, hl⟩
        by_cases hlt : k < ds.length
        · obtain ⟨d, e1, e2⟩ := drop_get hlt
          rw [e2] at hl
          obtain ⟨jg, jy⟩ := ioG k H' d (xk.same.trans Sk.same) e1
          refine .inr ⟨jg, fun H3 => (∃ Gk envk acc ys, StOk K T Gk (wipe σ vs) H3 envk ∧ Ext T pin G1 (wipe σ vs) H1 (wipeE env1 vs) Gk (wipe σ vs) H3 envk ∧ Lone K Gk (wipe σ vs) H3 envk D acc ys ∧ lcGo vs u test elt (ds.drop (k + 1)) acc envk = some (es, env2)),
            fun H3 h3 => ⟨ds.length - (k + 1), by omega, rfl, hlt, h3⟩, fun x H'' hy => ?_⟩
          obtain ⟨G2, gr, rx⟩ := jy x H'' hy Gk xk.same Sk.same
          have S2 := Sk.grow gr
          have y2 := Ext.grow (pin := pin) Sk gr
          have x2 := xk.trans y2
          have L2' := Lk.ext Sk y2
          unfold lcGo at hl
          split at hl
          · cases hl
          · rename_i envu qu
            refine ⟨G2, envk, d, envu, S2, rx, qu, fun σ3 G3 H3 S3 x3 w3 => ⟨?_, ?_⟩⟩
            · exact wipe_frame w3 (by rw [← S3.len, hu _ _ _ qu, Sk.len])
            · have x13 := x2.trans x3
              have L3 := L2'.ext S2 x3
              have hw3 : wipe σ3 vs = wipe σ vs := wipe_frame w3 (by rw [← S3.len, hu _ _ _ qu, Sk.len])
              split at hl
              · cases hl
              · rename_i env4 q4
                refine ⟨G3, envu, false, env4, S3, q4, fun G4 H4 S4 x4 => ?_⟩
                show ite ((false : Bool) = true) _ _
                rw [if_neg (by simp)]
                have S5 := S4.wipe vs
                have x5 := (x13.trans x4).wipeR vs hp
                have L5 := (L3.ext S3 x4).wipe vs
                rw [hw3] at S5 x5 L5
                exact ⟨G4, _, acc, ys, S5, x5, L5, hl⟩
              · rename_i env4 q4
                refine ⟨G3, envu, true, env4, S3, q4, fun G4 H4 S4 x4 => ?_⟩
                show ite ((true : Bool) = true) _ _
                rw [if_pos rfl]
                split at hl
                · cases hl
                · rename_i e env5 q5
                  obtain ⟨c, hl⟩ := ite_some hl
                  refine ⟨G4, env4, e, env5, S4, q5, fun v G5 H5 S5 x5 r5 => ?_⟩
                  have L5 := (L3.ext S3 x4).ext S4 x5
                  have S6 := (S5.updL (zs := ys ++ [v]) L5).wipe vs
                  have x6 := ((((x13.trans x4).trans x5).updL (zs := ys ++ [v]) hD)).wipeR vs hp
                  have L6 : Lone K G5 (wipe σ3 vs) (upd H5 D (.lst (ys ++ [v]))) (wipeE env5 vs) D (acc ++ [e]) (ys ++ [v]) := ⟨L5.gh, upd_same, L5.rep.append (RepL.one r5), fun h => L5.nm (mu_wipe h)⟩
                  rw [hw3] at S6 x6 L6
                  exact ⟨ys, L5.at', by rw [← L5.rep.length]; exact c, G5, _, acc ++ [e], ys ++ [v], S6, x6, L6, hl⟩
        · have ek : k = ds.length := by omega
          subst ek
          rw [List.drop_length] at hl
          cases hl
          refine .inl ⟨ioS H' (xk.same.trans Sk.same), ?_⟩
          exact kk _ Gk H' (S1.back Sk xk.same hn) (x1.trans (xk.back hp hn)) ⟨D, ys, rfl, Lk.gh, Lk.at', Lk.rep, x1.fresh hD, fun h => Lk.nm (mu_back hn h)⟩
      · cases hf
    · cases hf

section
variable {X : Cx} {T : List Addr} {pin : List Nat}
theorem fe_lc {elt tg iter : Expr} {ifs : List Expr} {scope : Scope} {own : List (Str × Nat)} {pos : Pos} {items : M (List PyData)} {u : PyData → FEnv → Option FEnv} {test : M Bool} {f : M PyData} (hc : X.calm = true) (hN : X.N.Nodup) (hi : FI X T pin tg iter items) (ok : BlkOk X.N X.env.scope scope own)
    (hg : ∀ (s : Shared) (H : Hp) (C : Addr) (cl : List (Str × Addr)) (fp : List Addr), FG (X.blk s H scope (compEnvC scope cl C X.env) fp) T pin (own.map (·.2)) tg u) (ht : ∀ (s : Shared) (H : Hp) (C : Addr) (cl : List (Str × Addr)) (fp : List Addr), FTs (X.blk s H scope (compEnvC scope cl C X.env) fp) T pin ifs test)
    (he : ∀ (s : Shared) (H : Hp) (C : Addr) (cl : List (Str × Addr)) (fp : List Addr), FD (X.blk s H scope (compEnvC scope cl C X.env) fp) T pin elt f) (hp : ∀ i ∈ pin, i ∉ own.map (·.2)) (hu : ULen u) (hs : ∀ x, foldedSetIterable iter X.env x = pure x := by intro _; rfl) :
    FE X T pin (.ListComp elt [⟨tg, iter, ifs, 0⟩] scope pos) (lcM (own.map (·.2)) items u test f) :=
  PE.imp (pe_lc hc hN hi ok hg ht he hs) fun _ _ _ h => lc_read hp hu h
theorem fs_setLc {i : Nat} {y : Str} {py : Pos} {spos : Pos} {elt tg iter : Expr} {ifs : List Expr} {scope : Scope} {own : List (Str × Nat)} {pos : Pos} {items : M (List PyData)} {u : PyData → FEnv → Option FEnv} {test : M Bool} {f : M PyData} (hc : X.calm = true) (hN : X.N.Nodup) (hy : X.N[i]? = some y) (hyl : X.env.scope.names.lookup y = some .local)
    (hsw : swapsWith (.ListComp elt [⟨tg, iter, ifs, 0⟩] scope pos) (some (.Name y py)) spos.line X.env = pure true) (hi : FI X T pin tg iter items) (ok : BlkOk X.N X.env.scope scope own)
    (hg : ∀ (s : Shared) (H : Hp) (C : Addr) (cl : List (Str × Addr)) (fp : List Addr), FG (X.blk s H scope (compEnvC scope cl C X.env) fp) T pin (own.map (·.2)) tg u) (ht : ∀ (s : Shared) (H : Hp) (C : Addr) (cl : List (Str × Addr)) (fp : List Addr), FTs (X.blk s H scope (compEnvC scope cl C X.env) fp) T pin ifs test)
    (he : ∀ (s : Shared) (H : Hp) (C : Addr) (cl : List (Str × Addr)) (fp : List Addr), FD (X.blk s H scope (compEnvC scope cl C X.env) fp) T pin elt f) (hp : ∀ i ∈ pin, i ∉ own.map (·.2)) (hu : ULen u) (hs : ∀ x, foldedSetIterable iter X.env x = pure x := by intro _; rfl) :
    FS X T pin (.Assign [.Name y py] (.ListComp elt [⟨tg, iter, ifs, 0⟩] scope pos) spos) (setS pin i (lcM (own.map (·.2)) items u test f)) := by
  refine PS.imp (ps_setLc (g := rG X.K T pin (own.map (·.2)) u) (tt := rT X.K T pin test) (te := rD X.K T pin f) hc hN hy hyl hsw hi ok hg ht he hs) fun D σ H h => ?_
  exact lc_read hp hu (set_read h)
end

/-! ### all(..), any(..) over a generator expression -/
def genGo (cont : Bool) (vs : List Nat) (u : PyData → FEnv → Option FEnv) (elt : M Bool) : List PyData → M Bool
  | [], env => some (cont, env)
  | d :: ds, env => match u d env with
    | none => none
    | some env1 => match elt env1 with
      | none => none
      | some (b, env2) => if b = cont then genGo cont vs u elt ds (wipeE env2 vs) else some (b, wipeE env2 vs)
def genM (cont : Bool) (vs : List Nat) (items : M (List PyData)) (u : PyData → FEnv → Option FEnv) (elt : M Bool) : M EV := fun env => match items env with
  | none => none
  | some (ds, env1) => if noMu vs env1 = true then match genGo cont vs u elt ds (wipeE env1 vs) with
    | some (b, env2) => some (.im (.bool b), backE env1 env2 vs)
    | none => none else none
theorem gen_read {K : PySem.W.Frag} {T : List Addr} {pin vs : List Nat} {cont : Bool} {P : Addr} {items : M (List PyData)} {u : PyData → FEnv → Option FEnv} {f : M EV} (hP : P ∈ T) (hp : ∀ i ∈ pin, i ∉ vs) (hu : ULen u) {σ : L2.St} {H : Hp} {Q : VK} (h : rE K T pin (genM cont vs items u (bindM f evB)) σ H Q) :
    tGen cont P (rI K T pin items) (rG K T pin vs u) (rE K T pin f) vs σ H Q := by
  obtain ⟨G, env, ev, env', S, hf, kk⟩ := h
  unfold genM at hf
  split at hf
  · cases hf
  · rename_i ds env1 q
    obtain ⟨hn, hf⟩ := ite_some hf
    split at hf
    · rename_i b env2 q2
      cases hf
      refine ⟨G, env, ds, env1, S, q, fun J G1 H1 S1 x1 io => ⟨(S1.tab P hP).1, fun H2 hT => ?_⟩⟩
      obtain ⟨ioS, ioG⟩ := io
      obtain ⟨St, xt⟩ := S1.tabbed (pin := pin) hP hT
      have S1w := St.wipe vs
      refine ⟨fun k m H' => m = ds.length - k ∧ k ≤ ds.length ∧ ∃ Gk envk, StOk K T Gk (wipe σ vs) H' envk ∧ Ext T pin G1 (wipe σ vs) H2 (wipeE env1 vs) Gk (wipe σ vs) H' envk ∧ genGo cont vs u (bindM f evB) (ds.drop k) envk = some (b, env2),
        ⟨ds.length, by simp, Nat.zero_le _, G1, _, S1w, Ext.refl S1w, by simpa using q2⟩, ?_⟩
      have fin : ∀ Gk H', StOk K T Gk (wipe σ vs) H' env2 → Ext T pin G1 (wipe σ vs) H2 (wipeE env1 vs) Gk (wipe σ vs) H' env2 → Q (.bl b) H' := fun Gk H' Sk xk =>
        kk _ Gk H' (St.back Sk xk.same hn) ((x1.trans xt).trans (xk.back hp hn)) rfl
      rintro k m H' ⟨rfl, hk, Gk, envk, Sk, xk, hl⟩
      by_cases hlt : k < ds.length
      · obtain ⟨d, e1, e2⟩ := drop_get hlt
        rw [e2] at hl
        obtain ⟨jg, jy⟩ := ioG k H' d (xk.same.trans Sk.same) e1
        refine .inr ⟨jg, fun H3 => (∃ Gk envk, StOk K T Gk (wipe σ vs) H3 envk ∧ Ext T pin G1 (wipe σ vs) H2 (wipeE env1 vs) Gk (wipe σ vs) H3 envk ∧ genGo cont vs u (bindM f evB) (ds.drop (k + 1)) envk = some (b, env2)),
          fun H3 h3 => ⟨ds.length - (k + 1), by omega, rfl, hlt, h3⟩, fun x H'' hy => ?_⟩
        obtain ⟨G2, gr, rx⟩ := jy x H'' hy Gk xk.same Sk.same
        have S2 := Sk.grow gr
        have x2 := xk.trans (Ext.grow (pin := pin) Sk gr)
        unfold genGo at hl
        split at hl
        · cases hl
        · rename_i envu qu
          refine ⟨G2, envk, d, envu, S2, rx, qu, fun σ3 G3 H3 S3 x3 w3 => ?_⟩
          have hw3 : wipe σ3 vs = wipe σ vs := by
            have := wipe_frame w3 (by rw [← S3.len, hu _ _ _ qu, Sk.len])
            exact this
          have x13 := x2.trans x3
          refine ⟨wipe_frame w3 (by rw [← S3.len, hu _ _ _ qu, Sk.len]), ?_⟩
          split at hl
          · cases hl
          · rename_i c env4 q4
            obtain ⟨ev, env5, p1, p2⟩ := bindM_some q4
            obtain ⟨rfl, rfl⟩ := evB_some p2
            refine ⟨G3, envu, _, _, S3, p1, fun v G4 H4 S4 x4 o4 => ⟨c, o4, ?_⟩⟩
            have S5 := S4.wipe vs
            have x5 := (x13.trans x4).wipeR vs hp
            rw [hw3] at S5 x5
            split at hl
            · rw [if_pos (by assumption)]
              exact ⟨G4, _, S5, x5, hl⟩
            · cases hl
              rw [if_neg (by assumption)]
              exact fin G4 H4 S5 x5
      · have ek : k = ds.length := by omega
        subst ek
        rw [List.drop_length] at hl
        cases hl
        exact .inl ⟨ioS H' ((Same.trans xt.same xk.same).trans Sk.same), fin Gk H' Sk xk⟩
    · cases hf
section
variable {X : Cx} {T : List Addr} {pin : List Nat}
theorem fe_allG {c P : Addr} {elt tg iter : Expr} {p pos gpos : Pos} {scope : Scope} {own : List (Str × Nat)} {items : M (List PyData)} {u : PyData → FEnv → Option FEnv} {f : M EV} {k : Nat}
    (hr : Room k X.A) (hcm : X.calm = true) (hN : X.N.Nodup) (hgl : Gl X "all") (hm : X.mg "all" = none) (hb : bootBuiltins "all" = some (.builtin "all")) (TB : TabB X.base X.mg c P) (hP : P ∈ T) (hcode : X.env.code = .ref c) (S : GScp X.N X.env.scope scope own) (hi : FI X T pin tg iter items)
    (hg : ∀ (s : Shared) (H : Hp) (C : Addr) (cl : List (Str × Addr)) (code : Value) (fp : List Addr) (pn : List (Addr × Obj)), FG (gCx X s H (gEnv X scope cl C code) fp pn) T pin (own.map (·.2)) tg u)
    (he : ∀ (s : Shared) (H : Hp) (C : Addr) (cl : List (Str × Addr)) (code : Value) (fp : List Addr) (pn : List (Addr × Obj)), FE (gCx X s H (gEnv X scope cl C code) fp pn) T pin elt f) (hp : ∀ i ∈ pin, i ∉ own.map (·.2)) (hu : ULen u)
    (hs : ∀ v, genFold iter X.env v = pure v)
    (hst : starEach [.GeneratorExp elt [⟨tg, iter, [], 0⟩] scope gpos] X.env = (false, eval (.GeneratorExp elt [⟨tg, iter, [], 0⟩] scope gpos) X.env) :: starEach [] X.env := by rfl) :
    FE X T pin (.Call (.Name "all" p) [.GeneratorExp elt [⟨tg, iter, [], 0⟩] scope gpos] [] pos) (genM true (own.map (·.2)) items u (bindM f evB)) :=
  PE.imp (pe_allG hr hcm hN hgl hm hb TB hcode S hi hg he hs hst) fun _ _ _ h => gen_read hP hp hu h
theorem fe_anyG {c P : Addr} {elt tg iter : Expr} {p pos gpos : Pos} {scope : Scope} {own : List (Str × Nat)} {items : M (List PyData)} {u : PyData → FEnv → Option FEnv} {f : M EV} {k : Nat}
    (hr : Room k X.A) (hcm : X.calm = true) (hN : X.N.Nodup) (hgl : Gl X "any") (hm : X.mg "any" = none) (TB : TabB X.base X.mg c P) (hP : P ∈ T) (hcode : X.env.code = .ref c) (S : GScp X.N X.env.scope scope own) (hi : FI X T pin tg iter items)
    (hg : ∀ (s : Shared) (H : Hp) (C : Addr) (cl : List (Str × Addr)) (code : Value) (fp : List Addr) (pn : List (Addr × Obj)), FG (gCx X s H (gEnv X scope cl C code) fp pn) T pin (own.map (·.2)) tg u)
    (he : ∀ (s : Shared) (H : Hp) (C : Addr) (cl : List (Str × Addr)) (code : Value) (fp : List Addr) (pn : List (Addr × Obj)), FE (gCx X s H (gEnv X scope cl C code) fp pn) T pin elt f) (hp : ∀ i ∈ pin, i ∉ own.map (·.2)) (hu : ULen u)
    (hs : ∀ v, genFold iter X.env v = pure v)
    (hst : starEach [.GeneratorExp elt [⟨tg, iter, [], 0⟩] scope gpos] X.env = (false, eval (.GeneratorExp elt [⟨tg, iter, [], 0⟩] scope gpos) X.env) :: starEach [] X.env := by rfl) :
    FE X T pin (.Call (.Name "any" p) [.GeneratorExp elt [⟨tg, iter, [], 0⟩] scope gpos] [] pos) (genM false (own.map (·.2)) items u (bindM f evB)) :=
  PE.imp (pe_anyG hr hcm hN hgl hm TB hcode S hi hg he hs hst) fun _ _ _ h => gen_read hP hp hu h
end
end FN

/-! enumerate(tuple) -/
namespace FN
open PySem PySem.Spec PyProof.Rows L2 GX GxR

set_option maxHeartbeats 1000000 in
theorem meets_enumerate_newB1 {v : Value} {o : Obj} {H : Heap → Prop} (B : Begins v o H) :
    Meets (Builtin.«enumerate.__new__» ⟨[.type "enumerate", v], []⟩) (fun _ R s => H s.heap ∧
      R (.ok (.ret (.ref (s.heap.push o).objs.size))) { s with heap := (s.heap.push o).push { cls := .type "enumerate", data := .fields #[.none, .bool false, .ref s.heap.objs.size, rawInt 0, .none, .none] } }) :=
  .of_wp fun prog w A R s h => by
    obtain ⟨hp, g, d, tk, os⟩ := s; obtain ⟨h1, h⟩ := h
    have hsub := sub_enumerate
    have q1 : ∀ {A' : Around} {E : Value → Shared → Prop} {Q : Value → Shared → Prop}, Q (.ref hp.objs.size) ⟨hp.push o, g, d, tk, os⟩ → wpAny (model prog w) A' (pyIter v) Q E ⟨hp, g, d, tk, os⟩ :=
      fun q => B.iter prog w _ _ ⟨hp, g, d, tk, os⟩ _ h1 q
    wp_walk using q1
    refine wpAny_stack_any fun st => wpAny_pure ?_
    split
    · rename_i c _ _ _ _ _
      cases (c == Value.type "enumerate")
      · wp_walk using q1
        exact ⟨_, rfl, h⟩
      · wp_walk using q1
        exact ⟨_, rfl, h⟩
    · wp_walk using q1
      exact ⟨_, rfl, h⟩
section
variable {prog : Program} {w : World} {A : Around} {E : Value → Shared → Prop} {s : Shared}
theorem enum_begins1 {v : Value} {o : Obj} {H : Heap → Prop} {Q : Value → Shared → Prop} (B : Begins v o H) (h1 : H s.heap)
    (h : ∀ h', IsEnum h' (s.heap.objs.size + 1) s.heap.objs.size 0 .none → h'.get? s.heap.objs.size = some o → h'.objs.size = s.heap.objs.size + 2 →
      (∀ b o, s.heap.get? b = some o → h'.get? b = some o) → Q (.ref (s.heap.objs.size + 1)) { s with heap := h' }) :
    wpAny (model prog w) A (call (.type "enumerate") [v]) Q E s := by
  refine callType_new F.called_enumerate (by decide) (F.typeCall_enumerate_1 _) (F.newCall_enumerate_1 _) (fun obj => F.args_object_init_2 obj _) F.entry_enumerate_new
    (meets_enumerate_newB1 B) ⟨h1, ?_⟩
  have hz : (s.heap.push o).objs.size = s.heap.objs.size + 1 := Heap.size_push ..
  show _ ∧ _
  rw [hz]
  have he : IsEnum ((s.heap.push o).push { cls := .type "enumerate", data := .fields #[.none, .bool false, .ref s.heap.objs.size, rawInt 0, .none, .none] }) (s.heap.objs.size + 1) s.heap.objs.size 0 .none := by
    have := Heap.get?_push_size (s.heap.push o) (o := { cls := .type "enumerate", data := .fields #[.none, .bool false, .ref s.heap.objs.size, rawInt 0, .none, .none] }) rfl
    rw [hz] at this; exact this
  refine ⟨⟨_, he, rfl⟩, h _ he (Heap.get?_push_of_some _ (Heap.get?_push_size _ B.free)) (by rw [Heap.size_push, hz]) fun b o x => Heap.get?_push_of_some _ (Heap.get?_push_of_some _ x)⟩
end
theorem enum_endT {prog : Program} {w : World} {A : Around} {E : Value → Shared → Prop} {s : Shared} {e it l : Addr} {i : Nat} {items : Array Value} {old : Value} {Q : Option Value → Shared → Prop} (hh : A.handled = none)
    (he : IsEnum s.heap e it i old) (hit : s.heap.IsTupleIter it l i) (hl : s.heap.IsTuple l items) (hx : items[i]? = none)
    (hQ : ∀ h', Heap.ExtBut it s.heap h' → Q none { s with heap := h' }) : wpAny (model prog w) A (pyNext (.ref e)) Q E s := by
  have hT : s.TypeIs (.ref e) "enumerate" := ⟨_, he, rfl⟩
  unfold pyNext
  refine wpAny_bind (wpAny_attempt (wpAny_callSpecial?_slot (name := Str.ofString "__next__") hT F.slot_enumerate_next
    (wpAny_call_entry F.slot_enumerate_next hT F.entry_enumerate_next ?_ (F.args_enumerate_next_1 _))))
  show wpAny _ _ (field (.ref e) 2 >>= _) _ _ _
  refine wpAny_bind (wpAny_field he rfl (x := .ref it) rfl ?_)
  refine wpAny_bind (wpAny_nextOf_tuple_end hh hit hl hx fun h' x he' hx' => ?_)
  obtain ⟨o, ho, hc⟩ := hx'
  refine wpAny_bind (wpAny_isInstance (T := "StopIteration") (b := true) ⟨o, ho, hc⟩ isSubtype_stop ?_)
  exact wpAny_pure (hQ _ he')
/-- the tuple at a, each item in a new pair -/
def IteT (K : PySem.W.Frag) (a : Addr) : It :=
  ⟨fun i H => ∃ (xs : List V) (x : V), SqT K H a xs ∧ xs[i]? = some x, fun i H v H' => ∃ T x, v = .ref T ∧ H T = none ∧ H' = upd H T (.tup [.int (i : Nat), x]) ∧ ∀ xs, SqT K H a xs → xs[i]? = some x, fun i H => ∃ xs : List V, SqT K H a xs ∧ xs.length ≤ i⟩
theorem tup_ne {h : Heap} {a it : Addr} {its : Array Value} {i : Nat} (p : h.IsTuple a its) (st : h.IsTupleIter it a i) : a ≠ it := fun z => by
  subst z
  obtain ⟨o, e, c, _⟩ := st
  obtain ⟨o', e', c', _⟩ := p
  rw [e] at e'
  cases e'
  rw [c] at c'
  exact absurd c' (by decide)
theorem turn_enumT {P : Program} {w : World} {K : PySem.W.Frag} {elts : List Expr} {kk : Nat} {tpos : Pos} (a e it : Addr) :
    Turn P w K (.Tuple elts kk tpos) (IteT K a) [e, it] e (fun i h => (∃ old, IsEnum h e it ((i : Nat) : Int) old) ∧ h.IsTupleIter it a i ∧ e ≠ it) where
  mem := by simp
  obj := fun i h st b hb => by
    obtain ⟨⟨old, he⟩, ⟨o, ho, hc, hd⟩, _⟩ := st
    have e' : b = e ∨ b = it := by simpa using hb
    rcases e' with z | z
    · rw [z]; exact ⟨_, he, fun v q => nomatch q⟩
    · rw [z]; exact ⟨o, ho, fun v q => by rw [hd] at q; cases q⟩
  keep := fun i h h' st k => let ⟨⟨old, he⟩, hi, hne⟩ := st; ⟨⟨old, k e (by simp) _ he⟩, hi.at fun o q => k it (by simp) o q, hne⟩
  item := by
    intro X hP hw hK hc i pins s σ H E I hf st hg
    subst hP hw hK
    obtain ⟨⟨old, he⟩, hit, hne⟩ := st
    obtain ⟨xs, x, hq, hx⟩ := hg
    obtain ⟨its, rv, p, hz⟩ := I.tuple hq
    have p : s.heap.IsTuple a its.toArray := p
    obtain ⟨u, hu, ru⟩ := rv.get hx
    have hel : e < s.heap.objs.size := Heap.lt_size he
    have hil : it < s.heap.objs.size := by obtain ⟨_, q, _⟩ := hit; exact Heap.lt_size q
    have hlt : i < its.toArray.size := by
      have := (List.getElem?_eq_some_iff.mp hu).1
      simpa using this
    have hea : e ∉ [it, a] := fun hm => by
      rcases List.mem_cons.mp hm with z | z
      · exact hne z
      · have z := List.mem_singleton.mp z
        subst z
        obtain ⟨o', e', c', _⟩ := p
        have he' : s.heap.get? e = some _ := he
        rw [he'] at e'
        cases e'
        exact absurd (show Value.type "enumerate" = Value.type "tuple" from c') (by decide)
    refine wpAny_pyNext_enum_itemD (Draws.tuple (A := X.A.in1) (show X.A.in1.handled = none from I.ok.hd hc) it a (tup_ne p hit) its.toArray) he ⟨hit, p⟩ hlt hne hea fun y h' tk hy ho hst hT hsz hk => ?_
    have hy' : its[i]? = some y := by simpa using hy
    rw [hu] at hy'
    cases hy'
    refine ⟨_, rfl, wpAny_letOwnedTupleGo_enum (s := { s with heap := h', toks := tk + 1 }) ho fun h'' he' sb => ?_⟩
    have hT2 : h''.get? s.heap.objs.size = some { cls := .type "tuple", data := .seq #[.int i tk, u] } := (sb.2 _ (Nat.ne_of_gt hel)).trans hT
    have new : ObjOk X.prog X.w (upd H s.heap.objs.size (.tup [.int (i : Nat), x])) h'' s.heap.objs.size (.tup [.int (i : Nat), x]) :=
      ⟨by show 2 ≤ sizeLine; decide, [.int i tk, u], .cons ⟨_, rfl⟩ (.cons ru .nil), ⟨_, hT2, rfl, _, rfl⟩⟩
    have I1 : Inv X pins σ (upd H s.heap.objs.size (.tup [.int (i : Nat), x])) { s with heap := h'', toks := tk + 1 } :=
      I.turnedNew (ch := [e, it]) (fun b ob hb q => (sb.2 b (fun z => hb (by simp [z]))).trans (hk b ob (fun z => hb (by simp [z])) (fun z => hb (by simp [z])) q)) hf (Nat.le_refl _) new
    refine ⟨.ref s.heap.objs.size, _, I1, rfl, ⟨_, x, rfl, I.hok.fresh (Nat.le_refl _), rfl, fun ys hy => by rw [I.tuple_inj hy hq]; exact hx⟩, ⟨⟨u, ?_⟩, hst.1.at fun o q => (sb.2 it (Ne.symm hne)).trans q, hne⟩, fun b hb => ?_⟩
    · have e1 : ((i + 1 : Nat) : Int) = (i : Int) + 1 := by omega
      rw [e1]; exact he'
    · have hb' : b < s.heap.objs.size := by
        have e' : b = e ∨ b = it := by simpa using hb
        rcases e' with z | z
        · rw [z]; exact hel
        · rw [z]; exact hil
      rw [upd_ne (Nat.ne_of_lt hb')]
      exact (hf b hb).1
  done := by
    intro X hP hw hK hc i pins s σ H E I hf st hg
    subst hP hw hK
    obtain ⟨⟨old, he⟩, hit, hne⟩ := st
    obtain ⟨xs, hq, hx⟩ := hg
    obtain ⟨its, rv, p, hz⟩ := I.tuple hq
    have p : s.heap.IsTuple a its.toArray := p
    obtain ⟨f0, f1, f2, f3, f4, f5⟩ := hf it (by simp)
    have hl := rv.length
    exact enum_endT (I.ok.hd hc) he hit p (by simp; omega) fun h' eb => ⟨rfl, I.turned (t' := s.toks) (fun b o hb e => eb b o hb e) f0 f1 f3 f4 f5⟩
  self := fun A i s Q E st h => let ⟨⟨_, he⟩, _⟩ := st; wpAny_pyIter_enum he h
def iEnumT (K : PySem.W.Frag) (ta : TA) : TI := fun σ H R => ta σ H fun vs H1 => ∃ a xs, vs = [.ref a] ∧ SqT K H1 a xs ∧ R (IteT K a) H1
theorem pi_enumT {X : Cx} {e : Expr} {ta : TA} {p pos tpos : Pos} {elts : List Expr} {kk : Nat} (hg : Gl X "enumerate") (hm : X.mg "enumerate" = none) (ha : PA X [e] ta) (hs : starEach [e] X.env = [(false, eval e X.env)] := by rfl) :
    PI X (.Tuple elts kk tpos) (.Call (.Name "enumerate" p) [e] [] pos) (iEnumT X.K ta) := by
  refine ⟨fun pins s σ H R I h => ?_⟩
  refine Call_ (ld_blt I hg hm boot_enumerate (PyProof.Rows.callWith_type1 (thn (ha.run pos pins s σ H _ I h) fun us s1 ⟨vs, H1, I1, r1, q1⟩ => ?_) hs rfl))
  obtain ⟨a, xs, ex, hq, q⟩ := q1
  subst ex
  cases r1 with
  | cons r rr =>
    cases rr
    cases r
    obtain ⟨its, rv, p', hz⟩ := I1.tuple hq
    have p' : s1.heap.IsTuple a its.toArray := p'
    refine enum_begins1 (begins_tuple a its.toArray) p' fun h' he hit hsz hk => wpAny_pyIter_enum he ?_
    have I2 : Inv X pins σ H1 { s1 with heap := h' } := I1.kept (t' := s1.toks) hk
    refine ⟨s1.heap.objs.size + 1, [s1.heap.objs.size + 1, s1.heap.objs.size], _, _, H1, rfl, I2, turn_enumT a (s1.heap.objs.size + 1) s1.heap.objs.size, ⟨⟨.none, he⟩, ⟨_, hit, rfl, rfl⟩, Nat.succ_ne_self _⟩, fun b hb => ?_, q⟩
    have e' : b = s1.heap.objs.size + 1 ∨ b = s1.heap.objs.size := by simpa using hb
    have hle : s1.heap.objs.size ≤ b := by
      rcases e' with z | z
      · rw [z]; exact Nat.le_add_right _ _
      · rw [z]; exact Nat.le_refl _
    exact I1.fpOk hle (I1.hok.fresh hle)

/-! ### in the functional layer -/
def enumD (n : Nat) : List PyData → List PyData
  | [] => []
  | d :: ds => .tuple [.int (n : Nat), d] :: enumD (n + 1) ds
theorem enumD_length : ∀ (n : Nat) (ds : List PyData), (enumD n ds).length = ds.length
  | _, [] => rfl
  | n, d :: ds => by unfold enumD; rw [List.length_cons, List.length_cons, enumD_length]
theorem enumD_get : ∀ {n : Nat} {ds : List PyData} {k : Nat} {d : PyData}, (enumD n ds)[k]? = some d → ∃ x, ds[k]? = some x ∧ d = .tuple [.int ((n + k : Nat) : Int), x]
  | _, [], _, _, h => by cases h
  | n, x :: ds, 0, d, h => by cases h; exact ⟨x, rfl, rfl⟩
  | n, x :: ds, k + 1, d, h => by
    have h : (enumD (n + 1) ds)[k]? = some d := h
    obtain ⟨y, h1, h2⟩ := enumD_get h
    refine ⟨y, h1, ?_⟩
    rw [h2, show n + 1 + k = n + (k + 1) from by omega]
section
variable {K : PySem.W.Frag} {G : Hp}
theorem iter_enum {a : Addr} {xs : List V} {ds : List PyData} (h : SqL K G a xs) (r : RepL K G ds xs) : IterOk K G (Ite K a) (enumD 0 ds) := by
  refine ⟨fun H hs => ⟨xs, Same.seq hs h, by rw [enumD_length, r.length]; exact Nat.le_refl _⟩, fun k H d hs e => ?_⟩
  obtain ⟨z, e1, rfl⟩ := enumD_get e
  obtain ⟨x, h1, h2⟩ := r.get e1
  refine ⟨⟨xs, x, Same.seq hs h, h1⟩, fun y H' hy G' g1 g2 => ?_⟩
  obtain ⟨p, x', rfl, hp, rfl, hy⟩ := hy
  have := hy xs (Same.seq hs h)
  rw [h1] at this
  cases this
  refine ⟨_, Grow.im (.tup [.int ((k : Nat) : Int), x]) g2 hp, p, _, rfl, .inl (.inl upd_same), ?_⟩
  refine ⟨?_, (h2.mono (Same.trans g1 (same_upd (g2.free hp)))), trivial⟩
  rw [Nat.zero_add]
  rfl
theorem iter_enumT {a : Addr} {xs : List V} {ds : List PyData} (h : SqT K G a xs) (r : RepL K G ds xs) : IterOk K G (IteT K a) (enumD 0 ds) := by
  refine ⟨fun H hs => ⟨xs, same_seqT hs h, by rw [enumD_length, r.length]; exact Nat.le_refl _⟩, fun k H d hs e => ?_⟩
  obtain ⟨z, e1, rfl⟩ := enumD_get e
  obtain ⟨x, h1, h2⟩ := r.get e1
  refine ⟨⟨xs, x, same_seqT hs h, h1⟩, fun y H' hy G' g1 g2 => ?_⟩
  obtain ⟨p, x', rfl, hp, rfl, hy⟩ := hy
  have := hy xs (same_seqT hs h)
  rw [h1] at this
  cases this
  refine ⟨_, Grow.im (.tup [.int ((k : Nat) : Int), x]) g2 hp, p, _, rfl, .inl (.inl upd_same), ?_⟩
  refine ⟨?_, (h2.mono (Same.trans g1 (same_upd (g2.free hp)))), trivial⟩
  rw [Nat.zero_add]
  rfl
end
section
variable {X : Cx} {T : List Addr} {pin : List Nat}
def enumM (d : PyData) : M (List PyData) := fun env => match d with
  | .list ds => some (enumD 0 ds, env)
  | .tuple ds => some (enumD 0 ds, env)
  | _ => none
theorem fi_enum {e : Expr} {f : M PyData} {p pos tpos : Pos} {elts : List Expr} {kk : Nat} (hg : Gl X "enumerate") (hm : X.mg "enumerate" = none) (h : FD X T pin e f) (hs : starEach [e] X.env = [(false, eval e X.env)] := by rfl) :
    FI X T pin (.Tuple elts kk tpos) (.Call (.Name "enumerate" p) [e] [] pos) (bindM f enumM) := by
  refine ⟨fun pins s σ H R I ⟨G, env, ds, env', S, hf, k⟩ => ?_⟩
  obtain ⟨d, env1, h1, h2⟩ := bindM_some hf
  cases d with
  | list es =>
    cases h2
    refine (pi_enum hg hm (pa_cons h pa_nil hs) hs).run pins s σ H R I ⟨G, env, _, _, S, h1, fun v G1 H1 S1 x1 r1 => ?_⟩
    obtain ⟨a, xs, rfl, q, rl⟩ := r1
    exact ⟨a, xs, rfl, Same.seq S1.same q, k _ G1 H1 S1 x1 (iter_enum q rl)⟩
  | tuple es =>
    cases h2
    refine (pi_enumT hg hm (pa_cons h pa_nil hs) hs).run pins s σ H R I ⟨G, env, _, _, S, h1, fun v G1 H1 S1 x1 r1 => ?_⟩
    obtain ⟨a, xs, rfl, q, rl⟩ := r1
    exact ⟨a, xs, rfl, same_seqT S1.same q, k _ G1 H1 S1 x1 (iter_enumT q rl)⟩
  | _ => cases h2
end
end FN

/-! A functional layer: defs and calls of defs -/
namespace FN
open PySem PySem.Spec PyProof.Rows L2 GX GxR

/-- a def's function: the arguments' views; what it hands back and the arguments' views behind it -/
abbrev FnT := List SV → Option (EV × List SV)
/-- the parameters at start -/
abbrev P0 (vs : List V) : L2.St := vs.map some
/-- a def's promise -/
def spF (K : PySem.W.Frag) (T : List Addr) (n : Nat) (F : FnT) : Sp := fun vs H Q _ => vs.length = n ∧ ∃ G svs ev svs', StOk K T G (P0 vs) H svs ∧ F svs = some (ev, svs') ∧
  ∀ v G' H', StOk K T G' (P0 vs) H' svs' → Ext T (List.range n) G (P0 vs) H svs G' (P0 vs) H' svs' → ValOk K G' (P0 vs) H' svs' H ev v → Q v H'

def isIm : SV → Bool
  | .im _ => true
  | _ => false
/-- the parameters behind the call -/
def outs (pin : List Nat) (env' : FEnv) (svs : List SV) : List SV := (List.range svs.length).map fun j => if j ∈ pin then env'.getD j .no else svs.getD j .no
def fnOf (pin : List Nat) (n m : Nat) (f : SS) : FnT := fun svs => if svs.length = n ∧ (∀ j ∈ List.range n, j ∈ pin ∨ isIm (svs.getD j .no) = true) then match f (svs ++ List.replicate m .no) with
  | some (.rt (.slot _), _) => none
  | some (.rt ev, env') => some (ev, outs pin env' svs)
  | some (.nx, env') => some (.im .none, outs pin env' svs)
  | _ => none else none
theorem outs_get {pin : List Nat} {env' : FEnv} {svs : List SV} {j : Nat} {x : SV} (h : (outs pin env' svs)[j]? = some x) (hx : x ≠ .no) : j < svs.length ∧ ((j ∈ pin ∧ env'[j]? = some x) ∨ (j ∉ pin ∧ svs[j]? = some x)) := by
  unfold outs at h
  rw [List.getElem?_map] at h
  cases q : (List.range svs.length)[j]? with
  | none => rw [q] at h; cases h
  | some k =>
    rw [q] at h
    obtain ⟨h1, h2⟩ := List.getElem?_eq_some_iff.mp q
    rw [List.getElem_range] at h2
    subst h2
    have h1' : j < svs.length := by simpa using h1
    refine ⟨h1', ?_⟩
    have h : (if j ∈ pin then env'.getD j .no else svs.getD j .no) = x := Option.some.inj h
    split at h
    · exact .inl ⟨by assumption, getD_some h.symm hx⟩
    · exact .inr ⟨by assumption, getD_some h.symm hx⟩
theorem outs_in {pin : List Nat} {env' : FEnv} {svs : List SV} {j : Nat} (hj : j < svs.length) (hp : j ∈ pin) {x : SV} (e : env'[j]? = some x) : (outs pin env' svs)[j]? = some x := by
  unfold outs
  rw [List.getElem?_map, List.getElem?_range hj]
  show some (if j ∈ pin then env'.getD j .no else svs.getD j .no) = _
  rw [if_pos hp, List.getD_eq_getElem?_getD, e]
  rfl
theorem outs_out {pin : List Nat} {env' : FEnv} {svs : List SV} {j : Nat} (hp : j ∉ pin) {x : SV} (e : svs[j]? = some x) : (outs pin env' svs)[j]? = some x := by
  have hj : j < svs.length := (List.getElem?_eq_some_iff.mp e).1
  unfold outs
  rw [List.getElem?_map, List.getElem?_range hj]
  show some (if j ∈ pin then env'.getD j .no else svs.getD j .no) = _
  rw [if_neg hp, List.getD_eq_getElem?_getD, e]
  rfl

section
variable {K : PySem.W.Frag} {T : List Addr} {pin : List Nat} {G G1 : Hp} {H H1 : Hp} {vs : List V} {svs : List SV} {m : Nat} {N : List Str}
theorem start_eq {N : List Str} (h : N.length = vs.length + m) : L2.start N vs = P0 vs ++ List.replicate m none := by
  unfold L2.start
  rw [h, Nat.add_sub_cancel_left]
theorem start_get {i : Nat} {v : V} (h : (P0 vs ++ List.replicate m none : L2.St)[i]? = some (some v)) : (P0 vs)[i]? = some (some v) := by
  by_cases hi : i < (P0 vs).length
  · rw [List.getElem?_append_left hi] at h; exact h
  · rw [List.getElem?_append_right (by omega), List.getElem?_replicate] at h
    split at h <;> cases h
theorem env_get {i : Nat} {x : SV} (h : (svs ++ List.replicate m SV.no)[i]? = some x) (hx : x ≠ .no) : svs[i]? = some x := by
  by_cases hi : i < svs.length
  · rw [List.getElem?_append_left hi] at h; exact h
  · rw [List.getElem?_append_right (by omega), List.getElem?_replicate] at h
    split at h
    · cases h; exact absurd rfl hx
    · cases h
theorem get_left {α : Type} {l r : List α} {i : Nat} {x : α} (h : l[i]? = some x) : (l ++ r)[i]? = some x := by
  rw [List.getElem?_append_left (List.getElem?_eq_some_iff.mp h).1]; exact h
theorem StOk.begin (S : StOk K T G (P0 vs) H svs) (m : Nat) : StOk K T G (P0 vs ++ List.replicate m none) H (svs ++ List.replicate m .no) where
  len := by rw [List.length_append, List.length_append, List.length_replicate, List.length_replicate, S.len]
  same := S.same
  tab := S.tab
  im := fun i d e => by
    obtain ⟨v, h1, h2⟩ := S.im i d (env_get e (fun z => by cases z))
    exact ⟨v, get_left h1, h2⟩
  mu := fun i ds e => by
    obtain ⟨a, xs, h1, h2⟩ := S.mu i ds (env_get e (fun z => by cases z))
    exact ⟨a, xs, get_left h1, h2⟩
  inj := fun i j ds es e1 e2 e3 => by
    have e1 := env_get e1 (fun z => by cases z)
    have e2 := env_get e2 (fun z => by cases z)
    obtain ⟨a, _, h1, _⟩ := S.mu i ds e1
    obtain ⟨b, _, h2, _⟩ := S.mu j es e2
    rw [get_left h1, get_left h2] at e3
    exact S.inj i j ds es e1 e2 (by rw [h1, h2, e3])
theorem mu_begin {b : Addr} (h : Mu (P0 vs ++ List.replicate m none) (svs ++ List.replicate m .no) b) : Mu (P0 vs) svs b := by
  obtain ⟨i, ds, e1, e2⟩ := h
  exact ⟨i, ds, env_get e1 (fun z => by cases z), start_get e2⟩
theorem mu_begin' {b : Addr} (h : Mu (P0 vs) svs b) : Mu (P0 vs ++ List.replicate m none) (svs ++ List.replicate m .no) b := by
  obtain ⟨i, ds, e1, e2⟩ := h
  exact ⟨i, ds, get_left e1, get_left e2⟩
variable {σ' : L2.St} {G' H' : Hp} {env' : FEnv}
theorem pin_at (x : Ext T pin G (P0 vs ++ List.replicate m none) H (svs ++ List.replicate m .no) G' σ' H' env') {j : Nat} (hj : j ∈ pin) (hl : j < vs.length) : σ'[j]? = (P0 vs)[j]? := by
  rw [x.pins j hj, List.getElem?_append_left (by simpa using hl)]
theorem mu_end (hc : ∀ j ∈ List.range vs.length, j ∈ pin ∨ isIm (svs.getD j .no) = true) (hn : svs.length = vs.length) (x : Ext T pin G (P0 vs ++ List.replicate m none) H (svs ++ List.replicate m .no) G' σ' H' env') {j : Nat} {ds : List PyData} (e : (outs pin env' svs)[j]? = some (.mu ds)) :
    j ∈ pin ∧ j < vs.length ∧ env'[j]? = some (.mu ds) ∧ σ'[j]? = (P0 vs)[j]? := by
  obtain ⟨h1, h2⟩ := outs_get e (fun z => by cases z)
  rw [hn] at h1
  rcases h2 with ⟨h2, h3⟩ | ⟨h2, h3⟩
  · exact ⟨h2, h1, h3, pin_at x h2 h1⟩
  · rcases hc j (List.mem_range.mpr h1) with q | q
    · exact absurd q h2
    · rw [List.getD_eq_getElem?_getD, h3] at q
      cases q
theorem StOk.finish (S0 : StOk K T G (P0 vs) H svs) (hc : ∀ j ∈ List.range vs.length, j ∈ pin ∨ isIm (svs.getD j .no) = true) (hn : svs.length = vs.length) (S : StOk K T G' σ' H' env') (x : Ext T pin G (P0 vs ++ List.replicate m none) H (svs ++ List.replicate m .no) G' σ' H' env') :
    StOk K T G' (P0 vs) H' (outs pin env' svs) ∧ Ext T (List.range vs.length) G (P0 vs) H svs G' (P0 vs) H' (outs pin env' svs) := by
  refine ⟨⟨by unfold outs; simp [hn], S.same, S.tab, fun i d e => ?_, fun i ds e => ?_, fun i j ds es e1 e2 e3 => ?_⟩, ⟨x.same, fun b h1 h2 h3 => x.gfr b h1 h2 fun z => h3 (mu_begin z), fun b o h1 h2 h3 => x.hfr b o h1 (fun z => h2 (mu_begin z)) h3, x.there, fun b hb => ?_, fun _ _ => rfl, fun i hi ds a e1 e2 e3 => ?_, fun i hi d e => ?_⟩⟩
  · obtain ⟨h1, h2⟩ := outs_get e (fun z => by cases z)
    rw [hn] at h1
    rcases h2 with ⟨h2, h3⟩ | ⟨h2, h3⟩
    · obtain ⟨v, q1, q2⟩ := S.im i d h3
      rw [pin_at x h2 h1] at q1
      exact ⟨v, q1, q2⟩
    · obtain ⟨v, q1, q2⟩ := S0.im i d h3
      exact ⟨v, q1, q2.mono x.same⟩
  · obtain ⟨h1, h2, h3, h4⟩ := mu_end hc hn x e
    obtain ⟨a, xs, q1, q2⟩ := S.mu i ds h3
    rw [h4] at q1
    exact ⟨a, xs, q1, q2⟩
  · obtain ⟨_, _, h3, h4⟩ := mu_end hc hn x e1
    obtain ⟨_, _, h5, h6⟩ := mu_end hc hn x e2
    exact S.inj i j ds es h3 h5 (by rw [h4, h6, e3])
  · obtain ⟨i, ds, e1, e2⟩ := hb
    obtain ⟨_, _, h3, h4⟩ := mu_end hc hn x e1
    exact (x.mus b ⟨i, ds, h3, by rw [h4]; exact e2⟩).imp mu_begin id
  · have hl := List.mem_range.mp hi
    rcases hc i hi with q | q
    · obtain ⟨es, r⟩ := x.pinv i q ds a (get_left e1) (get_left e2) e3
      exact ⟨es, outs_in (by rw [hn]; exact hl) q r⟩
    · rw [List.getD_eq_getElem?_getD, e1] at q
      cases q
  · have hl := List.mem_range.mp hi
    by_cases q : i ∈ pin
    · exact outs_in (by rw [hn]; exact hl) q (x.pini i q d (get_left e))
    · exact outs_out q e
theorem ret_val (hc : ∀ j ∈ List.range vs.length, j ∈ pin ∨ isIm (svs.getD j .no) = true) (hn : svs.length = vs.length) (x : Ext T pin G (P0 vs ++ List.replicate m none) H (svs ++ List.replicate m .no) G' σ' H' env') {ev : EV} {v : V}
    (r : RetOk K G' σ' H' env' (P0 vs ++ List.replicate m none) (svs ++ List.replicate m .no) H ev v) : ValOk K G' (P0 vs) H' (outs pin env' svs) H ev v := by
  cases ev with
  | im d => exact r
  | slot i => exact r.elim
  | own ds =>
    obtain ⟨p, xs, e1, e2, e3, e4, e5, e6⟩ := r
    refine ⟨p, xs, e1, e2, e3, e4, ?_, fun hm => ?_⟩
    · rcases e6 with z | z
      · exfalso
        obtain ⟨i, es, q1, q2⟩ := mu_begin z
        have hi : i < vs.length := by
          have := (List.getElem?_eq_some_iff.mp q1).1
          omega
        rcases hc i (List.mem_range.mpr hi) with q | q
        · obtain ⟨fs, r⟩ := x.pinv i q es p (get_left q1) (get_left q2) e2
          exact e5 ⟨i, fs, r, by rw [pin_at x q hi]; exact q2⟩
        · rw [List.getD_eq_getElem?_getD, q1] at q
          cases q
      · exact z
    · obtain ⟨i, es, q1, q2⟩ := hm
      obtain ⟨_, _, h3, h4⟩ := mu_end hc hn x q1
      exact e5 ⟨i, es, h3, by rw [h4]; exact q2⟩
end

/-- a def that never answers -/
theorem fn_none {P : Program} {w : World} {K : PySem.W.Frag} {mg : Str → Option Value} {base : Heap} {CX : CXT} {k : Nat} {f : Addr} {fd : FuncData} {ps : List Str} {T : List Addr} (h : n = ps.length) : FnOk P w K mg base CX k f fd ps (spF K T n fun _ => none) :=
  ⟨fun vs H Q E q => by rw [q.1, h], fun A outer s H args us vs Q E hr he hb hv ⟨_, _, _, _, _, _, q, _⟩ => nomatch q⟩
theorem run_body {X : Cx} {T : List Addr} {pin : List Nat} {n m : Nat} {fS : SS} {vs : List V} {H : Hp} {Q : VK} {E : XK} {body : List Stmt} {N : List Str} (hN : N.length = n + m) (hsp : spF X.K T n (fnOf pin n m fS) vs H Q E) (hb : FSs X T pin body fS) :
    ∃ t, PSs X body t ∧ t { nx := fun _ H' => Q .non H', rt := Q } (L2.start N vs) H := by
  refine ⟨_, hb, ?_⟩
  obtain ⟨hl, G, svs, ev, svs', S, hf, kk⟩ := hsp
  subst hl
  unfold fnOf at hf
  split at hf
  · rename_i c
    obtain ⟨hn, hc⟩ := c
    rw [start_eq hN]
    split at hf
    · cases hf
    · rename_i ev2 env2 _ q
      cases hf
      refine ⟨G, _, _, env2, S.begin m, q, fun σ' G' H' S' x' v r => ?_⟩
      obtain ⟨f1, f2⟩ := S.finish hc hn S' x'
      exact kk v G' H' f1 f2 (ret_val hc hn x' r)
    · rename_i env2 q
      cases hf
      refine ⟨G, _, _, env2, S.begin m, q, fun σ' G' H' S' x' => ?_⟩
      obtain ⟨f1, f2⟩ := S.finish hc hn S' x'
      exact kk .non G' H' f1 f2 rfl
    · cases hf
  · cases hf

/-! ### calls -/
def slotsMu (env : FEnv) : List EV → List Nat
  | [] => []
  | .slot i :: es => match env[i]? with
    | some (.mu _) => i :: slotsMu env es
    | _ => slotsMu env es
  | _ :: es => slotsMu env es
/-- the slots behind the call -/
def upds (env : FEnv) : List EV → List SV → FEnv
  | .slot i :: es, s :: ss => match env[i]? with
    | some (.mu _) => (upds env es ss).set i s
    | _ => upds env es ss
  | _ :: es, _ :: ss => upds env es ss
  | _, _ => env
def callM (F : FnT) (dds : List PyData) (f : M (List EV)) : M EV := fun env => match f env with
  | none => none
  | some (es, env1) => match views es env1 with
    | none => none
    | some svs => if (slotsMu env1 es).Nodup then match F (svs ++ dds.map SV.im) with
      | some (.slot _, _) => none
      | some (ev, svs') => some (ev, upds env1 es svs')
      | none => none else none
end FN

/-! A functional layer: calls of defs -/
namespace FN
open PySem PySem.Spec PyProof.Rows L2 GX GxR

theorem upds_length : ∀ (env : FEnv) (es : List EV) (ss : List SV), (upds env es ss).length = env.length
  | env, [], ss => by cases ss <;> rfl
  | env, .slot i :: es, [] => rfl
  | env, .im d :: es, [] => rfl
  | env, .own d :: es, [] => rfl
  | env, .slot i :: es, s :: ss => by
    unfold upds
    split
    · rw [List.length_set]; exact upds_length env es ss
    · exact upds_length env es ss
  | env, .im d :: es, s :: ss => by
    show (upds env es ss).length = _
    exact upds_length env es ss
  | env, .own d :: es, s :: ss => by
    show (upds env es ss).length = _
    exact upds_length env es ss
theorem upds_get {env : FEnv} {i : Nat} {x : SV} : ∀ {es : List EV} {ss : List SV}, es.length ≤ ss.length → (upds env es ss)[i]? = some x →
    (∃ (j : Nat) (ds : List PyData), es[j]? = some (.slot i) ∧ env[i]? = some (.mu ds) ∧ ss[j]? = some x) ∨ (env[i]? = some x ∧ ∀ (j : Nat) (ds : List PyData), es[j]? = some (.slot i) → env[i]? = some (.mu ds) → False)
  | [], ss, _, h => .inr ⟨by cases ss <;> exact h, fun j ds q => by cases q⟩
  | e :: es, [], hl, h => absurd hl (by simp)
  | e :: es, s :: ss, hl, h => by
    have hl : es.length ≤ ss.length := Nat.le_of_succ_le_succ hl
    have old : (∀ ds, e = .slot i → env[i]? = some (.mu ds) → False) → (upds env es ss)[i]? = some x → (∃ (j : Nat) (ds : List PyData), (e :: es)[j]? = some (.slot i) ∧ env[i]? = some (.mu ds) ∧ (s :: ss)[j]? = some x) ∨ (env[i]? = some x ∧ ∀ (j : Nat) (ds : List PyData), (e :: es)[j]? = some (.slot i) → env[i]? = some (.mu ds) → False) := fun hne h => by
      rcases upds_get hl h with ⟨j, ds, q1, q2, q3⟩ | ⟨q1, q2⟩
      · exact .inl ⟨j + 1, ds, q1, q2, q3⟩
      · refine .inr ⟨q1, fun j ds p1 p2 => ?_⟩
        cases j with
        | zero => exact hne ds (Option.some.inj p1) p2
        | succ j => exact q2 j ds p1 p2
    cases e with
    | im d => exact old (fun ds z => by cases z) h
    | own d => exact old (fun ds z => by cases z) h
    | slot k =>
      unfold upds at h
      split at h
      · rename_i ds q
        rcases get_set h with ⟨rfl, _, rfl⟩ | ⟨hj, h⟩
        · exact .inl ⟨0, ds, rfl, q, rfl⟩
        · exact old (fun ds z => by cases z; exact absurd rfl hj) h
      · rename_i q
        exact old (fun ds z p => by cases z; exact q ds p) h
theorem mem_slots {env : FEnv} {i : Nat} {ds : List PyData} (hi : env[i]? = some (.mu ds)) : ∀ {es : List EV} {j : Nat}, es[j]? = some (.slot i) → i ∈ slotsMu env es
  | [], _, h => by cases h
  | e :: es, 0, h => by
    cases Option.some.inj h
    unfold slotsMu
    rw [hi]
    exact List.mem_cons_self
  | e :: es, j + 1, h => by
    have h : es[j]? = some (.slot i) := h
    have := mem_slots hi h
    cases e with
    | im d => exact this
    | own d => exact this
    | slot k =>
      unfold slotsMu
      split
      · exact List.mem_cons_of_mem _ this
      · exact this
theorem slots_inj {env : FEnv} {i : Nat} {ds : List PyData} (hi : env[i]? = some (.mu ds)) : ∀ {es : List EV} {j j' : Nat}, (slotsMu env es).Nodup → es[j]? = some (.slot i) → es[j']? = some (.slot i) → j = j'
  | [], _, _, _, h, _ => by cases h
  | e :: es, 0, 0, _, _, _ => rfl
  | e :: es, 0, j' + 1, hn, h, h' => by
    cases Option.some.inj h
    unfold slotsMu at hn
    rw [hi] at hn
    exact absurd (mem_slots hi (show es[j']? = some (.slot i) from h')) (List.nodup_cons.mp hn).1
  | e :: es, j + 1, 0, hn, h, h' => by
    cases Option.some.inj h'
    unfold slotsMu at hn
    rw [hi] at hn
    exact absurd (mem_slots hi (show es[j]? = some (.slot i) from h)) (List.nodup_cons.mp hn).1
  | e :: es, j + 1, j' + 1, hn, h, h' => by
    have hn' : (slotsMu env es).Nodup := by
      cases e with
      | im d => exact hn
      | own d => exact hn
      | slot k =>
        unfold slotsMu at hn
        split at hn
        · exact (List.nodup_cons.mp hn).2
        · exact hn
    rw [slots_inj hi hn' (show es[j]? = some (.slot i) from h) h']

section
variable {K : PySem.W.Frag} {T : List Addr} {pin : List Nat} {G G0 G1 : Hp} {σ : L2.St} {H H0 H1 : Hp} {env env0 env1 : FEnv}
theorem vw_get : ∀ {es : List EV} {vs : List V} {svs : List SV} {j : Nat} {sv : SV}, ValsOk K G σ H env H0 es vs → views es env = some svs → svs[j]? = some sv →
    ∃ e v, es[j]? = some e ∧ vs[j]? = some v ∧ view e env = some sv ∧ ValOk K G σ H env H0 e v
  | [], [], svs, j, sv, _, h, q => by cases h; cases q
  | [], _ :: _, _, _, _, h, _, _ => h.elim
  | _ :: _, [], _, _, _, h, _, _ => h.elim
  | e :: es, v :: vs, svs, j, sv, o, h, q => by
    unfold views at h
    split at h
    · cases h
      cases j with
      | zero =>
        cases Option.some.inj q
        exact ⟨e, v, rfl, rfl, by assumption, o.1⟩
      | succ j =>
        rename_i sv0 ss0 hv1 hv2
        exact vw_get (es := es) (vs := vs) (svs := ss0) (j := j) o.2.1 hv2 q
    · cases h
theorem views_length : ∀ {es : List EV} {svs : List SV}, views es env = some svs → svs.length = es.length
  | [], _, h => by cases h; rfl
  | e :: es, _, h => by
    unfold views at h
    split at h
    · cases h
      rw [List.length_cons, List.length_cons, views_length (by assumption)]
    · cases h
theorem own_inj : ∀ {es : List EV} {vs : List V} {j j' : Nat} {ds ds' : List PyData} {v : V}, ValsOk K G σ H env H0 es vs → es[j]? = some (.own ds) → es[j']? = some (.own ds') → vs[j]? = some v → vs[j']? = some v → j = j'
  | [], _, _, _, _, _, _, _, h, _, _, _ => by cases h
  | _ :: _, [], _, _, _, _, _, h, _, _, _, _ => h.elim
  | e :: es, v :: vs, 0, 0, _, _, _, _, _, _, _, _ => rfl
  | e :: es, v :: vs, 0, j' + 1, _, _, _, o, h1, h2, h3, h4 => by
    cases Option.some.inj h1
    cases Option.some.inj h3
    exact absurd h4 (o.2.2 rfl j' _ h2 rfl)
  | e :: es, v :: vs, j + 1, 0, _, _, _, o, h1, h2, h3, h4 => by
    cases Option.some.inj h2
    cases Option.some.inj h4
    exact absurd h3 (o.2.2 rfl j _ h1 rfl)
  | e :: es, v :: vs, j + 1, j' + 1, _, _, _, o, h1, h2, h3, h4 => by
    rw [own_inj o.2.1 h1 h2 h3 h4]
theorem app_mu {svs : List SV} {dds : List PyData} {j : Nat} {ds : List PyData} (h : (svs ++ dds.map SV.im)[j]? = some (.mu ds)) : svs[j]? = some (.mu ds) := by
  by_cases hj : j < svs.length
  · rw [List.getElem?_append_left hj] at h; exact h
  · rw [List.getElem?_append_right (by omega), List.getElem?_map] at h
    cases q : dds[j - svs.length]? with
    | none => rw [q] at h; cases h
    | some d => rw [q] at h; cases h
variable {es : List EV} {vs dvs : List V} {svs : List SV} {dds : List PyData}
/-- a changing argument -/
theorem arg_mu (S : StOk K T G σ H env) (o : ValsOk K G σ H env H0 es vs) (hv : views es env = some svs) {j : Nat} {ds : List PyData} (h : svs[j]? = some (.mu ds)) :
    ∃ a xs, vs[j]? = some (.ref a) ∧ G a = none ∧ H a = some (.lst xs) ∧ RepL K G ds xs ∧ ((es[j]? = some (.own ds) ∧ H0 a = none ∧ ¬ Mu σ env a) ∨ ∃ i, es[j]? = some (.slot i) ∧ env[i]? = some (.mu ds) ∧ σ[i]? = some (some (.ref a))) := by
  obtain ⟨e, v, q1, q2, q3, q4⟩ := vw_get o hv h
  cases e with
  | im d => cases q3
  | own ds' =>
    cases q3
    obtain ⟨a, xs, rfl, r1, r2, r3, r4, r5⟩ := q4
    exact ⟨a, xs, q2, r1, r2, r3, .inl ⟨q1, r4, r5⟩⟩
  | slot i =>
    have q3 : env[i]? = some (.mu ds) := q3
    have q4 : σ[i]? = some (some v) := q4
    obtain ⟨a, xs, r1, r2, r3, r4⟩ := S.mu i ds q3
    rw [q4] at r1
    cases r1
    exact ⟨a, xs, q2, r2, r3, r4, .inr ⟨i, q1, q3, q4⟩⟩
theorem args_ok (S : StOk K T G σ H env) (o : ValsOk K G σ H env H0 es vs) (hv : views es env = some svs) (hn : (slotsMu env es).Nodup) (hd : RepL K G dds dvs) : StOk K T G (P0 (vs ++ dvs)) H (svs ++ dds.map SV.im) where
  len := by
    rw [List.length_append, List.length_map, List.length_map, List.length_append, views_length hv, o.length, hd.length]
  same := S.same
  tab := S.tab
  im := fun j d h => by
    by_cases hj : j < svs.length
    · rw [List.getElem?_append_left hj] at h
      obtain ⟨e, v, q1, q2, q3, q4⟩ := vw_get o hv h
      refine ⟨v, ?_, q4.view S q3⟩
      show ((vs ++ dvs).map some)[j]? = _
      rw [List.getElem?_map, List.getElem?_append_left (List.getElem?_eq_some_iff.mp q2).1, q2]
      rfl
    · have hl : svs.length = vs.length := by rw [views_length hv, o.length]
      rw [List.getElem?_append_right (by omega), List.getElem?_map] at h
      cases q : dds[j - svs.length]? with
      | none => rw [q] at h; cases h
      | some d' =>
        rw [q] at h
        cases h
        obtain ⟨v, r1, r2⟩ := hd.get q
        refine ⟨v, ?_, r2⟩
        show ((vs ++ dvs).map some)[j]? = _
        rw [List.getElem?_map, List.getElem?_append_right (by omega), ← hl, r1]
        rfl
  mu := fun j ds h => by
    obtain ⟨a, xs, r1, r2, r3, r4, _⟩ := arg_mu S o hv (app_mu h)
    refine ⟨a, xs, ?_, r2, r3, r4⟩
    show ((vs ++ dvs).map some)[j]? = _
    rw [List.getElem?_map, List.getElem?_append_left (List.getElem?_eq_some_iff.mp r1).1, r1]
    rfl
  inj := fun j j' ds ds' h h' e => by
    obtain ⟨a, xs, r1, _, _, _, r⟩ := arg_mu S o hv (app_mu h)
    obtain ⟨a', xs', r1', _, _, _, r'⟩ := arg_mu S o hv (app_mu h')
    have e1 : ∀ {j : Nat} {a : Addr}, vs[j]? = some (.ref a) → (P0 (vs ++ dvs))[j]? = some (some (.ref a)) := fun {j a} r1 => by
      show ((vs ++ dvs).map some)[j]? = _
      rw [List.getElem?_map, List.getElem?_append_left (List.getElem?_eq_some_iff.mp r1).1, r1]
      rfl
    rw [e1 r1, e1 r1'] at e
    cases e
    rcases r with ⟨p1, p2, p3⟩ | ⟨i, p1, p2, p3⟩
    · rcases r' with ⟨p1', _, _⟩ | ⟨i', p1', p2', p3'⟩
      · exact own_inj o p1 p1' r1 r1'
      · exact absurd ⟨i', ds', p2', p3'⟩ p3
    · rcases r' with ⟨p1', _, p3'⟩ | ⟨i', p1', p2', p3'⟩
      · exact absurd ⟨i, ds, p2, p3⟩ p3'
      · have : i = i' := S.inj i i' ds ds' p2 p2' (by rw [p3, p3'])
        subst this
        exact slots_inj p2 hn p1 p1'
variable {G' H' : Hp} {svs' : List SV}
theorem p0_at {j : Nat} {v : V} (r1 : vs[j]? = some v) : (P0 (vs ++ dvs))[j]? = some (some v) := by
  show ((vs ++ dvs).map some)[j]? = _
  rw [List.getElem?_map, List.getElem?_append_left (List.getElem?_eq_some_iff.mp r1).1, r1]
  rfl
/-- behind the call -/
theorem call_after (S0 : StOk K T G0 σ H0 env0) (x0 : Ext T pin G0 σ H0 env0 G σ H env) (S : StOk K T G σ H env) (o : ValsOk K G σ H env H0 es vs) (hv : views es env = some svs) (hn : (slotsMu env es).Nodup) (hd : RepL K G dds dvs)
    (S' : StOk K T G' (P0 (vs ++ dvs)) H' svs') (x : Ext T (List.range (vs ++ dvs).length) G (P0 (vs ++ dvs)) H (svs ++ dds.map SV.im) G' (P0 (vs ++ dvs)) H' svs') :
    StOk K T G' σ H' (upds env es svs') ∧ Ext T pin G0 σ H0 env0 G' σ H' (upds env es svs') := by
  have hlen : es.length ≤ svs'.length := by
    rw [S'.len, List.length_map, List.length_append, o.length]; omega
  have muA : ∀ {j : Nat} {ds : List PyData}, (svs ++ dds.map SV.im)[j]? = some (.mu ds) → j < (vs ++ dvs).length := fun {j ds} h => by
    obtain ⟨a, xs, r1, _⟩ := arg_mu S o hv (app_mu h)
    rw [List.length_append]
    have := (List.getElem?_eq_some_iff.mp r1).1
    omega
  have old : ∀ {i : Nat} {ds : List PyData}, (upds env es svs')[i]? = some (.mu ds) → ∃ es', env[i]? = some (.mu es') := fun {i ds} h => by
    rcases upds_get hlen h with ⟨j, ds', _, q2, _⟩ | ⟨q1, _⟩
    · exact ⟨ds', q2⟩
    · exact ⟨ds, q1⟩
  have muOld : ∀ {b : Addr}, Mu σ (upds env es svs') b → Mu σ env b := fun {b} ⟨i, ds, e1, e2⟩ => let ⟨es', q⟩ := old e1; ⟨i, es', q, e2⟩
  -- what the callee may change
  have muV : ∀ {b : Addr}, Mu (P0 (vs ++ dvs)) (svs ++ dds.map SV.im) b → Mu σ env b ∨ H0 b = none := fun {b} ⟨j, ds, e1, e2⟩ => by
    obtain ⟨a, xs, r1, _, _, _, r⟩ := arg_mu S o hv (app_mu e1)
    rw [p0_at r1] at e2
    cases e2
    rcases r with ⟨_, p2, _⟩ | ⟨i, _, p2, p3⟩
    · exact .inr p2
    · exact .inl ⟨i, ds, p2, p3⟩
  refine ⟨⟨by rw [upds_length]; exact S.len, S'.same, S'.tab, fun i d h => ?_, fun i ds h => ?_, fun i j ds es' h1 h2 h3 => ?_⟩, ⟨x0.same.trans x.same, fun b h1 h2 h3 => ?_, fun b ob h1 h2 h3 => ?_, fun b h => x.there b (x0.there b h), fun b h => x0.mus b (muOld h), fun _ _ => rfl, fun i hi ds a e1 e2 e3 => ?_, fun i hi d e => ?_⟩⟩
  · rcases upds_get hlen h with ⟨j, ds', q1, q2, q3⟩ | ⟨q1, q2⟩
    · obtain ⟨v, r1, r2⟩ := S'.im j d q3
      obtain ⟨w, w1, w2⟩ := o.get q1
      rw [p0_at w1] at r1
      cases r1
      exact ⟨_, w2, r2⟩
    · obtain ⟨v, r1, r2⟩ := S.im i d q1
      exact ⟨v, r1, r2.mono x.same⟩
  · rcases upds_get hlen h with ⟨j, ds', q1, q2, q3⟩ | ⟨q1, q2⟩
    · obtain ⟨a, xs, r1, r2⟩ := S'.mu j ds q3
      obtain ⟨w, w1, w2⟩ := o.get q1
      rw [p0_at w1] at r1
      cases r1
      exact ⟨a, xs, w2, r2⟩
    · obtain ⟨a, xs, r1, r2, r3, r4⟩ := S.mu i ds q1
      have nm : ¬ Mu (P0 (vs ++ dvs)) (svs ++ dds.map SV.im) a := fun ⟨j, ds', e1, e2⟩ => by
        obtain ⟨b, ys, p1, _, _, _, p⟩ := arg_mu S o hv (app_mu e1)
        rw [p0_at p1] at e2
        cases e2
        rcases p with ⟨_, _, p3⟩ | ⟨i', p1', p2', p3'⟩
        · exact p3 ⟨i, ds, q1, r1⟩
        · have : i' = i := S.inj i' i ds' ds p2' q1 (by rw [p3', r1])
          subst this
          exact q2 j ds p1' q1
      refine ⟨a, xs, r1, x.gfr a r2 (by rw [r3]; simp) nm, x.hfr a _ r3 nm fun hT => ?_, r4.mono x.same⟩
      obtain ⟨⟨ps, hP, _⟩, _⟩ := S.tab a hT
      rw [r3] at hP; cases hP
  · obtain ⟨a1, b1⟩ := old h1
    obtain ⟨a2, b2⟩ := old h2
    exact S.inj i j a1 a2 b1 b2 h3
  · refine x.gfr b (x0.gfr b h1 h2 h3) (x0.there b h2) fun hm => ?_
    rcases muV hm with z | z
    · rcases x0.mus b z with z | z
      · exact h3 z
      · exact h2 z
    · exact h2 z
  · refine x.hfr b ob (x0.hfr b ob h1 h2 h3) (fun hm => ?_) h3
    rcases muV hm with z | z
    · rcases x0.mus b z with z | z
      · exact h2 z
      · rw [h1] at z; cases z
    · rw [h1] at z; cases z
  · obtain ⟨fs, q⟩ := x0.pinv i hi ds a e1 e2 (Same.free x.same e3)
    have hil : i < (upds env es svs').length := by rw [upds_length]; exact (List.getElem?_eq_some_iff.mp q).1
    cases r : (upds env es svs')[i]? with
    | none => rw [List.getElem?_eq_none_iff] at r; omega
    | some y =>
      rcases upds_get hlen r with ⟨j, ds', q1, q2, q3⟩ | ⟨q1, q2⟩
      · obtain ⟨w, w1, w2⟩ := o.get q1
        have w2 : σ[i]? = some (some w) := w2
        rw [e2] at w2
        cases w2
        have vj : ∃ sv, svs[j]? = some sv := by
          have hj : j < svs.length := by rw [views_length hv]; exact (List.getElem?_eq_some_iff.mp q1).1
          exact ⟨_, List.getElem?_eq_getElem hj⟩
        obtain ⟨sv, hsv⟩ := vj
        obtain ⟨e', v', t1, t2, t3, t4⟩ := vw_get o hv hsv
        rw [q1] at t1
        cases t1
        have t3 : env[i]? = some sv := t3
        rw [q] at t3
        cases t3
        have hsv' : (svs ++ dds.map SV.im)[j]? = some (.mu fs) := get_left hsv
        obtain ⟨gs, u⟩ := x.pinv j (List.mem_range.mpr (muA hsv')) fs a hsv' (p0_at w1) e3
        rw [q3] at u
        cases u
        exact ⟨gs, rfl⟩
      · rw [q] at q1
        cases q1
        exact ⟨fs, rfl⟩
  · have q := x0.pini i hi d e
    have hil : i < (upds env es svs').length := by rw [upds_length]; exact (List.getElem?_eq_some_iff.mp q).1
    cases r : (upds env es svs')[i]? with
    | none => rw [List.getElem?_eq_none_iff] at r; omega
    | some y =>
      rcases upds_get hlen r with ⟨j, ds', q1, q2, q3⟩ | ⟨q1, q2⟩
      · rw [q] at q2; cases q2
      · rw [← q1, q]
end

section
variable {K : PySem.W.Frag} {T : List Addr} {pin : List Nat} {n : Nat} {F : FnT} {dds : List PyData} {dvs : List V} {f : M (List EV)}
theorem call_read (hdv : ∀ G, RepL K G dds dvs) (hl : ∀ env es env', f env = some (es, env') → es.length + dds.length = n) {E : XK} {σ : L2.St} {H : Hp} {Q : VK} (h : rE K T pin (callM F dds f) σ H Q) :
    rA K T pin f σ H fun vs H1 => spF K T n F (vs ++ dvs) H1 Q E := by
  obtain ⟨G, env, ev, env', S, hf, k⟩ := h
  unfold callM at hf
  split at hf
  · cases hf
  · rename_i es env1 q
    split at hf
    · cases hf
    · rename_i svs hv
      obtain ⟨hn, hf⟩ := ite_some hf
      split at hf
      · cases hf
      · rename_i ev2 svs2 hns q2
        cases hf
        refine ⟨G, env, es, env1, S, q, fun vs G1 H1 S1 x1 o1 => ?_⟩
        refine ⟨by rw [List.length_append, ← o1.length, ← (hdv G).length]; exact hl _ _ _ q, G1, _, _, svs2, args_ok S1 o1 hv hn (hdv G1), q2, fun v G' H' S' x' r' => ?_⟩
        have hlen : n = (vs ++ dvs).length := by
          rw [List.length_append, ← o1.length, ← (hdv G).length]; exact (hl _ _ _ q).symm
        rw [hlen] at x'
        obtain ⟨a1, a2⟩ := call_after S x1 S1 o1 hv hn (hdv G1) S' x'
        refine k v G' H' a1 a2 ?_
        cases ev with
        | im d => exact r'
        | slot i => exact absurd rfl (hns i)
        | own ds =>
          obtain ⟨p, xs, e1, e2, e3, e4, e5, e6⟩ := r'
          refine ⟨p, xs, e1, e2, e3, e4, x1.fresh e5, fun hm => ?_⟩
          obtain ⟨i, fs, m1, m2⟩ := hm
          have hlen2 : es.length ≤ svs2.length := by
            rw [S'.len, List.length_map, List.length_append, o1.length]; omega
          have : ∃ gs, env1[i]? = some (.mu gs) := by
            rcases upds_get hlen2 m1 with ⟨j, ds', _, z2, _⟩ | ⟨z1, _⟩
            · exact ⟨ds', z2⟩
            · exact ⟨fs, z1⟩
          obtain ⟨gs, z⟩ := this
          obtain ⟨a, ys, t1, _, t3, _⟩ := S1.mu i gs z
          rw [m2] at t1
          cases t1
          rw [e5] at t3
          cases t3
      · cases hf
end
end FN

/-! A functional layer: calls by name; defs with their code object; constants of the module -/
namespace FN
open PySem PySem.Spec PyProof.Rows L2 GX GxR

def LA (f : M (List EV)) (n : Nat) : Prop := ∀ env es env', f env = some (es, env') → es.length = n
theorem la_nil : LA (retM []) 0 := fun env es env' h => by cases h; rfl
theorem la_cons {f : M EV} {g : M (List EV)} {n : Nat} (h : LA g n) : LA (bindM f fun d => bindM g fun ds => retM (d :: ds)) (n + 1) := fun env es env' e => by
  obtain ⟨d, env1, _, e⟩ := bindM_some e
  obtain ⟨ds, env2, q, e⟩ := bindM_some e
  cases e
  rw [List.length_cons, h _ _ _ q]
/-- a def that may be called by its name -/
structure Cal (P : Program) (w : World) (K : PySem.W.Frag) (mg : Str → Option Value) (base : Heap) (T : List Addr) (k : Nat) (x : Str) (n : Nat) (F : FnT) (dds : List PyData) : Prop where
  ex : ∃ (f : Addr) (fd : FuncData) (ps : List Str) (ds : List Value) (dvs : List V), FnOk P w K mg base CX0 k f fd ps (spF K T n F) ∧ mg x = some (.ref f) ∧ PySem.W.keepIn K (.ref f) = true ∧ Binds K fd ps ds ∧ Vals dvs ds ∧ ∀ G, RepL K G dds dvs
structure CalK (P : Program) (w : World) (K : PySem.W.Frag) (mg : Str → Option Value) (base : Heap) (T : List Addr) (k : Nat) (x : Str) (ks : List Str) (n : Nat) (F : FnT) : Prop where
  ex : ∃ (f : Addr) (fd : FuncData) (ps : List Str), FnOk P w K mg base CX0 k f fd ps (spF K T n F) ∧ mg x = some (.ref f) ∧ PySem.W.keepIn K (.ref f) = true ∧ KBn K fd ps 0 ks (fun us ws => us ++ ws) (fun vs zs => vs ++ zs)
theorem passE {X : Cx} {E : XK} : Passes CX0 X E := fun _ _ _ _ _ _ _ h => h.elim

section
variable {X : Cx} {T : List Addr} {pin : List Nat} {e : Expr} {es : List Expr} {p pos kpos : Pos} {x : Str} {k j n m : Nat} {F : FnT} {dds : List PyData} {f : M (List EV)} {ks : List Str} {kws : List Keyword} {nm : Option Str}
theorem fe_call (c : Cal X.prog X.w X.K X.mg X.base T k x n F dds) (hr : Room j X.A) (hk : k ≤ j) (hg : Gl X x) (ha : FA X T pin (e :: es) f) (hl : LA f m) (hm : m + dds.length = n := by rfl)
    (hdb : (x == ("__debug__" : Str)) = false := by decide) (he : starEach (e :: es) X.env = (false, eval e X.env) :: starEach es X.env := by rfl) (hpl : (backTo pos (starEach es X.env)).any (·.1) = false := by rfl) :
    FE X T pin (.Call (.Name x p) (e :: es) [] pos) (callM F dds f) := by
  obtain ⟨fa, fd, ps, ds, dvs, FO, hmg, kp, b, d, r⟩ := c.ex
  exact PE.imp (pe_call (E := fun _ _ _ => False) FO (hr.mono hk) hg hmg kp b d passE ha hdb he hpl) fun σ H Q h => call_read r (fun env es env' q => by rw [hl _ _ _ q]; exact hm) h
theorem fe_call0 (c : Cal X.prog X.w X.K X.mg X.base T k x n F []) (hr : Room j X.A) (hk : k ≤ j) (hg : Gl X x) (hm : 0 = n := by rfl)
    (hdb : (x == ("__debug__" : Str)) = false := by decide) :
    FE X T pin (.Call (.Name x p) [] [] pos) (callM F [] (retM [])) := by
  obtain ⟨fa, fd, ps, ds, dvs, FO, hmg, kp, b, d, r⟩ := c.ex
  have hd : dvs = [] := by
    have := (r fun _ => none).length
    cases dvs with
    | nil => rfl
    | cons _ _ => cases this
  subst hd
  refine PE.imp (pe_call0 (E := fun _ _ _ => False) FO (hr.mono hk) hg hmg kp b d passE hdb) fun σ H Q h => ?_
  have := call_read (n := n) (F := F) (dds := []) (E := fun _ _ _ => False) r (fun env es env' q => by rw [la_nil _ _ _ q]; exact hm) h
  obtain ⟨G, env, es, env', S, hf, k⟩ := this
  cases hf
  exact k [] G H S (Ext.refl S) trivial
/-- keywords' values -/
abbrev FK (X : Cx) (T : List Addr) (pin : List Nat) (kws : List Keyword) (f : M (List EV)) : Prop := PK X kws (rA X.K T pin f)
theorem PK.imp {t t' : TA} (h : PK X kws t) (k : ∀ σ H Q, t' σ H Q → t σ H Q) : PK X kws t' := ⟨fun pos pins s σ H Q I q => h.run pos pins s σ H Q I (k σ H Q q)⟩
theorem cons_read {K : PySem.W.Frag} {f : M EV} {g : M (List EV)} {σ : L2.St} {H : Hp} {Q : List V → Hp → Prop} (h : rA K T pin (bindM f fun d => bindM g fun ds => retM (d :: ds)) σ H Q) : tCons (rE K T pin f) (rA K T pin g) σ H Q := by
  obtain ⟨G, env, ds, env', S, hf, k⟩ := h
  obtain ⟨d, env1, h1, hf⟩ := bindM_some hf
  obtain ⟨ds', env2, h2, hf⟩ := bindM_some hf
  cases hf
  refine ⟨G, env, d, env1, S, h1, fun v G1 H1 S1 x1 o1 => ⟨G1, env1, ds', _, S1, h2, fun vs G2 H2 S2 x2 o2 => k (v :: vs) G2 H2 S2 (x1.trans x2) ⟨o1.stay S1 x2, ValsOk.from x1 o2, fun ho j e' ej he hv => ?_⟩⟩⟩
  cases d with
  | own ds1 =>
    obtain ⟨p, xs, rfl, _, q3, _⟩ := o1
    obtain ⟨w, w1, w2⟩ := o2.get ej
    rw [hv] at w1
    cases w1
    cases e' with
    | own ds2 =>
      obtain ⟨p', xs', z, _, _, _, q5, _⟩ := w2
      cases z
      rw [q3] at q5; cases q5
    | _ => cases he
  | _ => cases ho
theorem fk_nil : FK X T pin [] (retM []) := by
  refine PK.imp pk_nil fun σ H Q ⟨G, env, ds, env', S, hf, k⟩ => ?_
  cases hf
  exact k [] G H S (Ext.refl S) trivial
theorem fk_cons {f : M EV} {g : M (List EV)} (h : FE X T pin e f) (h2 : FK X T pin kws g) : FK X T pin (⟨nm, e, kpos⟩ :: kws) (bindM f fun d => bindM g fun ds => retM (d :: ds)) :=
  PK.imp (pk_cons h h2) fun _ _ _ h => cons_read h
theorem fe_callK (c : CalK X.prog X.w X.K X.mg X.base T k x ks n F) (hr : Room j X.A) (hk : k ≤ j) (hg : Gl X x) (ha : FK X T pin kws f) (hl : LA f n) (hlk : ks.length = n := by rfl)
    (hall : (backToKw pos (keywordEach kws X.env)).all (·.1.isSome) = true := by rfl) (hks : (backToKw pos (keywordEach kws X.env)).filterMap (·.1) = ks := by rfl)
    (hdb : (x == ("__debug__" : Str)) = false := by decide) (hpl : ((backTo pos (starEach [] X.env)).any (·.1) || (backToKw pos (keywordEach kws X.env)).any (·.1.isNone)) = false := by rfl) :
    FE X T pin (.Call (.Name x p) [] kws pos) (callM F [] f) := by
  obtain ⟨fa, fd, ps, FO, hmg, kp, b⟩ := c.ex
  refine ⟨fun pins s σ H Q I h => ?_⟩
  have h := call_read (n := n) (F := F) (dds := []) (E := fun _ _ _ => False) (dvs := []) (fun _ => trivial) (fun env es env' q => by rw [hl _ _ _ q]; rfl) h
  obtain ⟨G, env, evs, env', S, hf, kk⟩ := h
  refine wpAny_Call_Name_kw (ld_glob I hg hmg ?_ hdb)
  refine PySem.W.callWith_KW0 (h₀ := X.base) I.ok.mod.kin kp hall ?_ hpl
  refine thn (ha.run pos pins s σ H (fun zs H2 => zs.length = n ∧ spF X.K T n F (zs ++ []) H2 Q (fun _ _ _ => False)) I ⟨G, env, evs, env', S, hf, fun vs G' H' S' x' o' => ⟨by rw [← o'.length]; exact hl _ _ _ hf, kk vs G' H' S' x' o'⟩⟩) fun ws s2 ⟨zs, H2, I2, rz, l2, q2⟩ => ⟨I2.kIn, ?_⟩
  rw [List.append_nil] at q2
  rw [hks]
  exact run_fnN (us := []) (vs := []) FO (hr.mono hk) b passE I2 .nil rz rfl (l2.trans hlk.symm) q2
end

/-! ### defs with their code objects -/
section
variable {P : Program} {w : World} {K : PySem.W.Frag} {mg : Str → Option Value} {base : Heap} {T : List Addr}
theorem funD_ok {x qual : Str} {params : Arguments} {body : List Stmt} {scope : Scope} {dvs : List V} {kws : List (Str × V)} {at_ : Str × Option Str} {fd : FuncData} {N ps : List Str} {k n m : Nat} {pin : List Nat} {fS : SS} (F : FunD K x qual params body scope dvs kws (He.fAd K at_) fd) (S : FnScope N ps scope)
    (hn : n = ps.length) (hN : N.length = n + m)
    (hbody : ∀ (A : Around) (outer : List Env) (s : Shared) (H : Hp) (E : XK), Room k (A.deeper (envOfC qual scope s.heap.objs.size (He.fAd K at_) (.ref (He.codeOf K at_)))) →
      FSs (cxOf CX0 P w K mg base N qual scope (He.fAd K at_) (.ref (He.codeOf K at_)) A outer s H E).nox T pin body fS) : FnOk P w K mg base CX0 (k + 1) (He.fAd K at_) fd ps (spF K T n (fnOf pin n m fS)) := by
  obtain ⟨oc, od, dV, kV, doc, pm, an, cdv, ct, osl, rfl, lk, hcd, _, _⟩ := F.ex
  obtain ⟨c, rfl⟩ := He.codeIn_ref hcd
  have hc : He.codeOf K at_ = c := He.codeOf_eq lk rfl
  refine fn_of lk hcd S (fun vs H Q E q => by rw [q.1, hn]) fun A outer s H vs Q E hr hsp => ?_
  obtain ⟨t, h1, h2⟩ := run_body (X := (cxOf CX0 P w K mg base N qual scope (He.fAd K at_) (.ref c) A outer s H E).nox) hN hsp (by
    have := hbody A outer s H E (by rw [hc]; exact hr)
    rw [hc] at this
    exact this)
  exact ⟨t, h1.nox, h2⟩
theorem cal_of {x qual : Str} {params : Arguments} {body : List Stmt} {scope : Scope} {kws : List (Str × V)} {f : Addr} {fd : FuncData} {ps : List Str} {k n : Nat} {FF : FnT} (F : FunD K x qual params body scope [] kws f fd) (hm : mg x = some (.ref f)) (b : Binds K fd ps []) (FO : FnOk P w K mg base CX0 k f fd ps (spF K T n FF)) :
    Cal P w K mg base T k x n FF [] := ⟨f, fd, ps, [], [], FO, hm, F.kp, b, .nil, fun _ => trivial⟩
theorem calD_of {x qual : Str} {params : Arguments} {body : List Stmt} {scope : Scope} {dvs : List V} {kws : List (Str × V)} {f : Addr} {fd : FuncData} {ps : List Str} {k n : Nat} {FF : FnT} {dds : List PyData} {ds : List Value} {zs : List V} (F : FunD K x qual params body scope dvs kws f fd) (hm : mg x = some (.ref f)) (b : Binds K fd ps ds) (d : Vals zs ds) (r : ∀ G, RepL K G dds zs) (FO : FnOk P w K mg base CX0 k f fd ps (spF K T n FF)) :
    Cal P w K mg base T k x n FF dds := ⟨f, fd, ps, ds, zs, FO, hm, F.kp, b, d, r⟩
theorem kbn_of {x qual : Str} {params : Arguments} {body : List Stmt} {scope : Scope} {kws : List (Str × V)} {f : Addr} {fd : FuncData} {ps ks : List Str} (F : FunD K x qual params body scope [] kws f fd)
    (h : ∀ (kV doc pm : Value) (an : Option Addr) (cdv ct : Value) (ws : List Value), ws.length = ks.length → bindArgs (PySem.W.fnOf x qual params body scope .none kV doc pm an cdv ct) ⟨[], ks.zip ws⟩ = pure (ps.zip ws)) : KBn K fd ps 0 ks (fun us ws => us ++ ws) (fun vs zs => vs ++ zs) := by
  obtain ⟨oc, od, dV, kV, doc, pm, an, cdv, ct, osl, rfl, lk, hcd, hD, hK⟩ := F.ex
  rcases hD with ⟨_, rfl⟩ | ⟨e, _⟩
  · refine ⟨fun s us ws X l1 l2 => ?_, fun r1 r2 => r1.append r2⟩
    cases us with
    | nil => exact .of_eq (h kV doc pm an cdv ct ws l2)
    | cons _ _ => cases l1
  · exact absurd rfl e
theorem calK_of {x qual : Str} {params : Arguments} {body : List Stmt} {scope : Scope} {dvs : List V} {kws : List (Str × V)} {f : Addr} {fd : FuncData} {ps ks : List Str} {k n : Nat} {FF : FnT} (F : FunD K x qual params body scope dvs kws f fd) (hm : mg x = some (.ref f)) (b : KBn K fd ps 0 ks (fun us ws => us ++ ws) (fun vs zs => vs ++ zs)) (FO : FnOk P w K mg base CX0 k f fd ps (spF K T n FF)) :
    CalK P w K mg base T k x ks n FF := ⟨f, fd, ps, FO, hm, F.kp, b⟩
theorem Cal.mono {x : Str} {j k n : Nat} {F : FnT} {dds : List PyData} (c : Cal P w K mg base T j x n F dds) (h : j ≤ k) : Cal P w K mg base T k x n F dds := by
  obtain ⟨f, fd, ps, ds, dvs, FO, r⟩ := c.ex
  exact ⟨f, fd, ps, ds, dvs, FO.mono h, r⟩
end

/-! ### constants of the module -/
mutual
def repB (K : PySem.W.Frag) : PyData → Value → Bool
  | .none, .none => true
  | .bool a, .bool b => a == b
  | .int i, .int j _ => decide (i = j)
  | .str x, .str y _ => decide (x = y)
  | .tuple ds, .ref a => match K.lookup a with
    | some ⟨.type c, _, .seq its _, _⟩ => decide (c = "tuple") && decide (its.size ≤ sizeLine) && repAll K ds its.toList
    | _ => false
  | .list ds, .ref a => match K.lookup a with
    | some ⟨.type c, none, .seq its _, _⟩ => decide (c = "list") && decide (its.size ≤ sizeLine) && repAll K ds its.toList
    | _ => false
  | _, _ => false
def repAll (K : PySem.W.Frag) : List PyData → List Value → Bool
  | [], [] => true
  | d :: ds, u :: us => repB K d u && repAll K ds us
  | _, _ => false
end
mutual
theorem repB_ok {K : PySem.W.Frag} : ∀ {d : PyData} {u : Value}, repB K d u = true → ∃ v : V, RelV v u ∧ ∀ G, Rep K G d v
  | .none, .none, _ => ⟨.non, rfl, fun _ => rfl⟩
  | .bool a, .bool b, h => ⟨.bl a, by
      have : a = b := by simpa [repB] using h
      subst this; rfl, fun _ => rfl⟩
  | .int i, .int j t, h => ⟨.int i, by
      have : i = j := by simpa [repB] using h
      subst this; exact ⟨t, rfl⟩, fun _ => rfl⟩
  | .str i, .str j t, h => ⟨.str i, by
      have : i = j := by simpa [repB] using h
      subst this; exact ⟨t, rfl⟩, fun _ => rfl⟩
  | .tuple ds, .ref a, h => by
    unfold repB at h
    split at h
    · rename_i c od its n osl lk
      simp only [Bool.and_eq_true, decide_eq_true_eq] at h
      obtain ⟨⟨rfl, h2⟩, h3⟩ := h
      obtain ⟨vs, r1, r2⟩ := repAll_ok h3
      exact ⟨.ref a, rfl, fun G => ⟨a, vs, rfl, .inr ⟨_, its, n, lk, rfl, rfl, h2, r1⟩, r2 G⟩⟩
    · cases h
  | .list ds, .ref a, h => by
    unfold repB at h
    split at h
    · rename_i c its n osl lk
      simp only [Bool.and_eq_true, decide_eq_true_eq] at h
      obtain ⟨⟨rfl, h2⟩, h3⟩ := h
      obtain ⟨vs, r1, r2⟩ := repAll_ok h3
      exact ⟨.ref a, rfl, fun G => ⟨a, vs, rfl, .inr ⟨_, its, n, lk, rfl, rfl, rfl, h2, r1⟩, r2 G⟩⟩
    · cases h
theorem repAll_ok {K : PySem.W.Frag} : ∀ {ds : List PyData} {us : List Value}, repAll K ds us = true → ∃ vs : List V, Vals vs us ∧ ∀ G, RepL K G ds vs
  | [], [], _ => ⟨[], .nil, fun _ => trivial⟩
  | d :: ds, u :: us, h => by
    unfold repAll at h
    rw [Bool.and_eq_true] at h
    obtain ⟨v, r1, r2⟩ := repB_ok h.1
    obtain ⟨vs, q1, q2⟩ := repAll_ok h.2
    exact ⟨v :: vs, .cons r1 q1, fun G => ⟨r2 G, q2 G⟩⟩
end
/-- the module's name x stands for the datum d -/
def conB (K : PySem.W.Frag) (p : Str × PyData) : Bool := match PySem.W.nsIn K mainGlobals p.1 with
  | some (some u) => repB K p.2 u
  | _ => false
structure Con (K : PySem.W.Frag) (mg : Str → Option Value) (x : Str) (d : PyData) : Prop where
  ex : ∃ (u : Value) (v : V), mg x = some u ∧ RelV v u ∧ ∀ G, Rep K G d v
theorem con_ok {K : PySem.W.Frag} {h : Heap} {mg : Str → Option Value} (X : K.In h) (G : h.Ns mainGlobals mg) {p : Str × PyData} (c : conB K p = true) : Con K mg p.1 p.2 := by
  unfold conB at c
  split at c
  · rename_i u q
    obtain ⟨v, r1, r2⟩ := repB_ok c
    exact ⟨u, v, PySem.W.mg_of X G q, r1, r2⟩
  · cases c
theorem fe_con {X : Cx} {T : List Addr} {pin : List Nat} {x : Str} {d : PyData} {pos : Pos} (c : Con X.K X.mg x d) (hg : Gl X x) (hd : (x == ("__debug__" : Str)) = false := by decide) : FE X T pin (.Name x pos) (fC d) := by
  obtain ⟨u, v, h1, h2, h3⟩ := c.ex
  exact fe_glob hg h1 h2 h3 hd
end FN

/-! A functional layer: short forms for printed derivations -/
namespace FN
open PySem PySem.Spec PyProof.Rows L2 GX GxR
section
variable {X : Cx} {T : List Addr} {pin : List Nat} {k : Nat} {a b c e : Expr} {pos p p2 : Pos}
theorem fv (i : Nat) {x : Str} {pos : Pos} (hN : X.N[i]? = some x := by rfl) (hv : Vis X.env.scope x := by first | exact Or.inl rfl | exact Or.inr (Or.inl rfl) | exact Or.inr (Or.inr rfl)) (hd : (x == ("__debug__" : Str)) = false := by decide)
    (hcd : (x == ("__classdict__" : Str)) = false := by decide) : FE X T pin (.Name x pos) (fVar i) := fe_var hN hv hd hcd
theorem vis1 {sc : Scope} {x : Str} (h : sc.names.lookup x = some .local) : Vis sc x := .inl h
theorem xEq (hr : Room k X.A) : OpR X (compareOp .Eq) (rEqD X.K) := op_eqD (by have := hr.un; omega)
theorem xNe (hr : Room k X.A) : OpR X (compareOp .NotEq) (rNeD X.K) := op_neD (by have := hr.un; omega)
theorem xIn (hr : Room k X.A) : OpR X (compareOp .In) (rInA X.K false) := op_inA (by have := hr.un; omega)
theorem xNi (hr : Room k X.A) : OpR X (compareOp .NotIn) (rInA X.K true) := op_notInA (by have := hr.un; omega)
theorem cmpE {op : CmpOp} {r : R2} {o : SV → SV → Option EV} {f g : M EV} (hr : Op2 X.K r o) (ho : OpR X (compareOp op) r) (ha : FE X T pin a f) (hb : FE X T pin b g) (hm : behindInMarks op b = false := by with_unfolding_all rfl) : FE X T pin (.Compare a [op] [b] pos) (op2 f g o) := fe_cmp hr ho ha hb hm
theorem cmpT {op : CmpOp} {r : R2} {o : SV → SV → Option EV} {f g : M EV} (hr : Op2 X.K r o) (ho : OpR X (compareOp op) r) (ha : FE X T pin a f) (hb : FE X T pin b g) (hm : behindInMarks op b = false := by with_unfolding_all rfl) : FT X T pin (.Compare a [op] [b] pos) (bindM (op2 f g o) evB) := ft_cmp hr ho ha hb hm
theorem ixE {f g : M EV} (ha : FE X T pin a f) (hb : FE X T pin b g) (hs : PlainIx b := by intro _ _; rfl) : FE X T pin (.Subscript a b pos) (op2 f g oIx) := fe_ix o2_ix ix_seq ha hb hs
theorem slE {f : M EV} {l h : M (Option Int)} {lo hi : Option Expr} (he : FE X T pin e f) (hl : PO X lo (rO X.K T pin l)) (hh : PO X hi (rO X.K T pin h)) : FE X T pin (.Subscript e (.Slice lo hi none p2) pos) (slM f l h oSl) := fe_slice os_sl sl_all he hl hh
def loM (f : M EV) : M (Option Int) := bindM f fun ev => bindM (evI ev) fun i => retM (some i)
theorem loE {f : M EV} (h : FE X T pin e f) : PO X (some e) (rO X.K T pin (loM f)) := fo_some h
def frM (f : M EV) : M PyData := bindM f frz
theorem dE {f : M EV} (h : FE X T pin e f) : FD X T pin e (frM f) := fd_of_fe h
def consM {α : Type} (f : M α) (g : M (List α)) : M (List α) := bindM f fun d => bindM g fun ds => retM (d :: ds)
theorem consD {es : List Expr} {f : M PyData} {g : M (List PyData)} (h : FD X T pin e f) (h2 : FDs X T pin es g) (hs : starEach (e :: es) X.env = (false, eval e X.env) :: starEach es X.env := by rfl) : FDs X T pin (e :: es) (consM f g) := fds_cons h h2 hs
theorem consA {es : List Expr} {f : M EV} {g : M (List EV)} (h : FE X T pin e f) (h2 : FA X T pin es g) (hs : starEach (e :: es) X.env = (false, eval e X.env) :: starEach es X.env := by rfl) : FA X T pin (e :: es) (consM f g) := fa_cons h h2 hs
theorem consK {kws : List Keyword} {kpos : Pos} {nm : Option Str} {f : M EV} {g : M (List EV)} (h : FE X T pin e f) (h2 : FK X T pin kws g) : FK X T pin (⟨nm, e, kpos⟩ :: kws) (consM f g) := fk_cons h h2
theorem laC {f : M EV} {g : M (List EV)} {n : Nat} (h : LA g n) : LA (consM f g) (n + 1) := la_cons h
def tupM (f : M (List PyData)) : M EV := bindM f mkT
def lstM (f : M (List PyData)) : M EV := bindM f mkL
theorem tupE {es : List Expr} {f : M (List PyData)} {x1} (h : FDs X T pin es f) : FE X T pin (.Tuple es x1 pos) (tupM f) := fe_tup h
theorem lstE {es : List Expr} {f : M (List PyData)} (h : FDs X T pin es f) : FE X T pin (.List es pos) (lstM f) := fe_lst h
def truE (f : M EV) : M Bool := bindM f truM
def boolE (f : M EV) : M Bool := bindM f evB
theorem valT {f : M EV} (h : FE X T pin e f) (he : ∀ whole, isTrue e X.env whole = (do let v ← whole; standAt e.pos; holding [v] (truthy v)) := by intro _; rfl) : FT X T pin e (truE f) := ft_val h he
def notM (f : M Bool) : M Bool := bindM f fun b => retM !b
theorem notT {f : M Bool} (h : FT X T pin e f) : FT X T pin (.UnaryOp .Not e pos) (notM f) := ft_not h
def notV (f : M EV) : M EV := bindM (bindM f evB) fun b => retM (.im (.bool !b))
theorem notE {f : M EV} (h : FE X T pin e f) : FE X T pin (.UnaryOp .Not e pos) (notV f) := fe_not h
def itemsM (f : M PyData) : M (List PyData) := bindM f itemsOf
theorem seqI {tg : Expr} {f : M PyData} (h : FD X T pin e f) : FI X T pin tg e (itemsM f) := fi_seq h
def enuM (f : M PyData) : M (List PyData) := bindM f enumM
theorem enuI {f : M PyData} {p pos tpos : Pos} {elts : List Expr} {kk : Nat} (hg : Gl X "enumerate") (hm : X.mg "enumerate" = none) (h : FD X T pin e f) (hs : starEach [e] X.env = [(false, eval e X.env)] := by rfl) :
    FI X T pin (.Tuple elts kk tpos) (.Call (.Name "enumerate" p) [e] [] pos) (enuM f) := fi_enum hg hm h hs
theorem nmG {ws : List Nat} {x : Str} (n : Nat) (hN : X.N.Nodup) (hw : n ∈ ws := by decide) (hi : X.N[n]? = some x := by rfl) (hx : Loc X.env.scope x := by first | exact Or.inl rfl | exact Or.inr rfl) (hf : X.fn x = true ∨ X.env.scope.names.lookup x = some .local := by first | exact .inl rfl | exact .inr rfl) : FG X T pin ws (.Name x pos) (uName pin n) := fg_name hN hi hx hw hf
theorem setS' {f : M EV} {x : Str} (n : Nat) (hN : X.N.Nodup) (h : FE X T pin e f) (hi : X.N[n]? = some x := by rfl) (hx : Loc X.env.scope x := by first | exact Or.inl rfl | exact Or.inr rfl) (hs : swapsWith e (some (.Name x p2)) pos.line X.env = pure false := by rfl)
    (hf : X.fn x = true ∨ X.env.scope.names.lookup x = some .local := by first | exact .inl rfl | exact .inr rfl) : FS X T pin (.Assign [.Name x p2] e pos) (setS pin n f) := fs_set hN hi hx h hs hf
theorem setL {y : Str} {py : Pos} {spos : Pos} {elt tg iter : Expr} {ifs : List Expr} {scope : Scope} {items : M (List PyData)} {u : PyData → FEnv → Option FEnv} {test : M Bool} {f : M PyData} (i : Nat) (own : List (Str × Nat)) (hN : X.N.Nodup) (hi : FI X T pin tg iter items)
    (hg : ∀ (s : Shared) (H : Hp) (C : Addr) (cl : List (Str × Addr)) (fp : List Addr), FG (X.blk s H scope (compEnvC scope cl C X.env) fp) T pin (own.map (·.2)) tg u) (ht : ∀ (s : Shared) (H : Hp) (C : Addr) (cl : List (Str × Addr)) (fp : List Addr), FTs (X.blk s H scope (compEnvC scope cl C X.env) fp) T pin ifs test)
    (he : ∀ (s : Shared) (H : Hp) (C : Addr) (cl : List (Str × Addr)) (fp : List Addr), FD (X.blk s H scope (compEnvC scope cl C X.env) fp) T pin elt f) (hu : ULen u)
    (hc : X.calm = true := by rfl) (hy : X.N[i]? = some y := by rfl) (hyl : X.env.scope.names.lookup y = some .local := by rfl) (hk : X.env.scope.kind = .function := by rfl) (hl : (py.line == pos.line) = true := by rfl) (ha : (scope.names.any fun (n, k) => n == y && (k == .local || k == .cell)) = false := by kernel_rfl)
    (ok : BlkOk X.N X.env.scope scope own := by exact blkOk_by (by kernel_rfl)) (hp : ∀ i ∈ pin, i ∉ own.map (·.2) := by decide) (hs : ∀ x, foldedSetIterable iter X.env x = pure x := by intro _; rfl) :
    FS X T pin (.Assign [.Name y py] (.ListComp elt [⟨tg, iter, ifs, 0⟩] scope pos) spos) (setS pin i (lcM (own.map (·.2)) items u test f)) :=
  fs_setLc hc hN hy hyl (sw_true hk hyl hl ha) hi ok hg ht he hp hu hs
theorem lcE {elt tg iter : Expr} {ifs : List Expr} {scope : Scope} {items : M (List PyData)} {u : PyData → FEnv → Option FEnv} {test : M Bool} {f : M PyData} (own : List (Str × Nat)) (hN : X.N.Nodup) (hi : FI X T pin tg iter items)
    (hg : ∀ (s : Shared) (H : Hp) (C : Addr) (cl : List (Str × Addr)) (fp : List Addr), FG (X.blk s H scope (compEnvC scope cl C X.env) fp) T pin (own.map (·.2)) tg u) (ht : ∀ (s : Shared) (H : Hp) (C : Addr) (cl : List (Str × Addr)) (fp : List Addr), FTs (X.blk s H scope (compEnvC scope cl C X.env) fp) T pin ifs test)
    (he : ∀ (s : Shared) (H : Hp) (C : Addr) (cl : List (Str × Addr)) (fp : List Addr), FD (X.blk s H scope (compEnvC scope cl C X.env) fp) T pin elt f) (hu : ULen u)
    (hc : X.calm = true := by rfl) (ok : BlkOk X.N X.env.scope scope own := by exact blkOk_by (by kernel_rfl)) (hp : ∀ i ∈ pin, i ∉ own.map (·.2) := by decide) (hs : ∀ x, foldedSetIterable iter X.env x = pure x := by intro _; rfl) :
    FE X T pin (.ListComp elt [⟨tg, iter, ifs, 0⟩] scope pos) (lcM (own.map (·.2)) items u test f) := fe_lc hc hN hi ok hg ht he hp hu hs
theorem forE {tg iter : Expr} {body : List Stmt} {ws : List Nat} {items : M (List PyData)} {u : PyData → FEnv → Option FEnv} {f : SS} (hp : PassesOwn (model X.prog X.w) X.A X.env X.xe) (hi : FI X T pin tg iter items) (hg : FG X T pin ws tg u) (hb : FSs X T pin body f) (hc : X.calm = true := by rfl)
    (hs : ∀ x, foldedSetIterable iter X.env x = pure x := by intro _; rfl) : FS X T pin (.For tg iter body [] pos) (forS items u f) := fs_for hp hc hi hg hb hs
theorem allG {cc P : Addr} {elt tg iter : Expr} {gpos : Pos} {scope : Scope} {items : M (List PyData)} {u : PyData → FEnv → Option FEnv} {f : M EV} (own : List (Str × Nat))
    (hr : Room k X.A) (hN : X.N.Nodup) (hm : X.mg "all" = none) (TB : TabB X.base X.mg cc P) (hP : P ∈ T) (hi : FI X T pin tg iter items)
    (hg : ∀ (s : Shared) (H : Hp) (C : Addr) (cl : List (Str × Addr)) (code : Value) (fp : List Addr) (pn : List (Addr × Obj)), FG (gCx X s H (gEnv X scope cl C code) fp pn) T pin (own.map (·.2)) tg u)
    (he : ∀ (s : Shared) (H : Hp) (C : Addr) (cl : List (Str × Addr)) (code : Value) (fp : List Addr) (pn : List (Addr × Obj)), FE (gCx X s H (gEnv X scope cl C code) fp pn) T pin elt f) (hu : ULen u)
    (hcm : X.calm = true := by rfl) (hgl : Gl X "all" := by rfl) (hcode : X.env.code = .ref cc := by rfl) (S : GScp X.N X.env.scope scope own := by exact gsc_by (by kernel_rfl)) (hp : ∀ i ∈ pin, i ∉ own.map (·.2) := by decide)
    (hs : ∀ v, genFold iter X.env v = pure v := by intro _; rfl)
    (hst : starEach [.GeneratorExp elt [⟨tg, iter, [], 0⟩] scope gpos] X.env = (false, eval (.GeneratorExp elt [⟨tg, iter, [], 0⟩] scope gpos) X.env) :: starEach [] X.env := by rfl) :
    FE X T pin (.Call (.Name "all" p) [.GeneratorExp elt [⟨tg, iter, [], 0⟩] scope gpos] [] pos) (genM true (own.map (·.2)) items u (boolE f)) := fe_allG hr hcm hN hgl hm boot_all TB hP hcode S hi hg he hp hu hs hst
theorem anyG {cc P : Addr} {elt tg iter : Expr} {gpos : Pos} {scope : Scope} {items : M (List PyData)} {u : PyData → FEnv → Option FEnv} {f : M EV} (own : List (Str × Nat))
    (hr : Room k X.A) (hN : X.N.Nodup) (hm : X.mg "any" = none) (TB : TabB X.base X.mg cc P) (hP : P ∈ T) (hi : FI X T pin tg iter items)
    (hg : ∀ (s : Shared) (H : Hp) (C : Addr) (cl : List (Str × Addr)) (code : Value) (fp : List Addr) (pn : List (Addr × Obj)), FG (gCx X s H (gEnv X scope cl C code) fp pn) T pin (own.map (·.2)) tg u)
    (he : ∀ (s : Shared) (H : Hp) (C : Addr) (cl : List (Str × Addr)) (code : Value) (fp : List Addr) (pn : List (Addr × Obj)), FE (gCx X s H (gEnv X scope cl C code) fp pn) T pin elt f) (hu : ULen u)
    (hcm : X.calm = true := by rfl) (hgl : Gl X "any" := by rfl) (hcode : X.env.code = .ref cc := by rfl) (S : GScp X.N X.env.scope scope own := by exact gsc_by (by kernel_rfl)) (hp : ∀ i ∈ pin, i ∉ own.map (·.2) := by decide)
    (hs : ∀ v, genFold iter X.env v = pure v := by intro _; rfl)
    (hst : starEach [.GeneratorExp elt [⟨tg, iter, [], 0⟩] scope gpos] X.env = (false, eval (.GeneratorExp elt [⟨tg, iter, [], 0⟩] scope gpos) X.env) :: starEach [] X.env := by rfl) :
    FE X T pin (.Call (.Name "any" p) [.GeneratorExp elt [⟨tg, iter, [], 0⟩] scope gpos] [] pos) (genM false (own.map (·.2)) items u (boolE f)) := fe_anyG hr hcm hN hgl hm TB hP hcode S hi hg he hp hu hs hst
end
end FN

/-! A functional layer: the law's end -/
namespace FN
open PySem PySem.Spec PyProof.Rows L2 GX GxR
theorem repL_ints {K : PySem.W.Frag} {G : Hp} : ∀ ns : List Int, RepL K G (ns.map PyData.int) (ns.map V.int)
  | [] => trivial
  | n :: ns => ⟨rfl, repL_ints ns⟩
theorem law_sp {K : PySem.W.Frag} {T : List Addr} {F : FnT} {a : Addr} {ns : List Int} {H : Hp} {E : XK} (hT : ∀ P ∈ T, H P = some (.tbl #[])) (hS : SqL K H a (ns.map V.int))
    (h : ∃ svs, F [.im (.list (ns.map PyData.int))] = some (.im (.bool true), svs)) : spF K T 1 F [.ref a] H (fun v _ => v = .bl true) E := by
  obtain ⟨svs, h⟩ := h
  have main : ∀ G : Hp, Same G H → (∀ P ∈ T, G P = none) → SqL K G a (ns.map V.int) → spF K T 1 F [.ref a] H (fun v _ => v = .bl true) E := fun G hs hG hq => by
    refine ⟨rfl, G, _, _, _, ⟨rfl, hs, fun P hP => ⟨⟨#[], hT P hP, ?_⟩, hG P hP⟩, fun i d e => ?_, fun i ds e => ?_, fun i j ds es e => ?_⟩, h, fun v G' H' S' x' r' => r'⟩
    · first | trivial | (intro p hp; cases hp) | simp [TriplesOk] | decide
    · cases i with
      | zero => cases e; exact ⟨.ref a, rfl, a, _, rfl, hq, repL_ints ns⟩
      | succ i => cases e
    · cases i with
      | zero => cases e
      | succ i => cases e
    · cases i with
      | zero => cases e
      | succ i => cases e
  rcases hS with hS | hS
  · refine main (fun b => if b = a then H a else none) (fun b o e => ?_) (fun P hP => ?_) (.inl ?_)
    · by_cases hb : b = a
      · subst hb; simpa using e
      · have e := (if_neg hb).symm.trans e; cases e
    · by_cases hb : P = a
      · subst hb
        exfalso
        have := hT P hP
        rcases hS with h1 | ⟨o, h1⟩
        · rw [this] at h1; cases h1
        · rw [this] at h1; cases h1
      · exact if_neg hb
    · rcases hS with h1 | ⟨o, h1⟩
      · exact .inl ((if_pos rfl).trans h1)
      · exact .inr ⟨o, (if_pos rfl).trans h1⟩
  · exact main (fun _ => none) (fun b o e => by cases e) (fun _ _ => rfl) (.inr hS)
end FN
namespace FN
open PySem PySem.Spec PyProof.Rows L2 GX GxR
theorem relV_ref {v : V} {a : Addr} (r : RelV v (.ref a)) : v = .ref a := by
  cases v with
  | ref b => (have r : Value.ref a = Value.ref b := r); cases r; rfl
  | _ => first | (cases r; done) | (obtain ⟨_, z⟩ := r; cases z; done)
theorem repB_ref {K : PySem.W.Frag} {d : PyData} {a : Addr} (h : repB K d (.ref a) = true) : ∀ G, Rep K G d (.ref a) := by
  obtain ⟨v, r1, r2⟩ := repB_ok h
  cases relV_ref r1
  exact r2
end FN

/-! A functional layer: loops, comprehensions by plain lists -/
namespace FN
open PySem PySem.Spec PyProof.Rows L2

theorem backE_wipe (env : FEnv) : ∀ vs : List Nat, backE env (wipeE env vs) vs = env := fun vs => by
  refine List.ext_getElem? fun i => ?_
  by_cases hi : i ∈ vs
  · have hl : (backE env (wipeE env vs) vs).length = env.length := by rw [backE_length, wipeE_length]
    cases q : (backE env (wipeE env vs) vs)[i]? with
    | none =>
      rw [List.getElem?_eq_none_iff] at q
      rw [List.getElem?_eq_none (by omega)]
    | some x =>
      have hx := backE_in hi q
      have hlt : i < env.length := by
        have := (List.getElem?_eq_some_iff.mp q).1
        omega
      rw [hx, List.getD_eq_getElem?_getD, List.getElem?_eq_getElem hlt]
      rfl
  · rw [backE_ne hi, wipeE_ne hi]

/-- a for that goes through, the invariant by what has been walked -/
theorem loop_acc {u : PyData → FEnv → Option FEnv} {body : SS} (I : List PyData → FEnv → Prop) : ∀ (ds pre : List PyData) (env : FEnv),
    (∀ p d q env, pre ++ ds = p ++ d :: q → pre.length ≤ p.length → I p env → ∃ env1 env2, u d env = some env1 ∧ (body env1 = some (.nx, env2) ∨ body env1 = some (.ct, env2)) ∧ I (p ++ [d]) env2) → I pre env → ∃ env2, loopS u body ds env = some (.nx, env2) ∧ I (pre ++ ds) env2
  | [], pre, env, _, h => ⟨env, rfl, by rw [List.append_nil]; exact h⟩
  | d :: ds, pre, env, hs, h => by
    obtain ⟨env1, env2, h1, h2, h3⟩ := hs pre d ds env rfl (Nat.le_refl _) h
    obtain ⟨env3, h4, h5⟩ := loop_acc I ds (pre ++ [d]) env2 (fun p e q env' e1 l i => hs p e q env' (by rw [← e1, List.append_assoc]; rfl) (by rw [List.length_append] at l; omega) i) h3
    refine ⟨env3, ?_, by rw [List.append_assoc] at h5; exact h5⟩
    unfold loopS
    rw [h1]
    dsimp only
    rcases h2 with h2 | h2
    · rw [h2]; exact h4
    · rw [h2]; exact h4
/-- a for that may return: p says on which items it goes on -/
theorem loop_ret {u : PyData → FEnv → Option FEnv} {body : SS} {I J : FEnv → Prop} {ev : EV} (p : PyData → Bool) : ∀ (ds : List PyData) (env : FEnv),
    (∀ d ∈ ds, ∀ env, I env → ∃ env1, u d env = some env1 ∧ ((p d = true ∧ ∃ env2, body env1 = some (.nx, env2) ∧ I env2) ∨ (p d = false ∧ ∃ env2, body env1 = some (.rt ev, env2) ∧ J env2))) → I env →
      (ds.all p = true ∧ ∃ env2, loopS u body ds env = some (.nx, env2) ∧ I env2) ∨ (ds.all p = false ∧ ∃ env2, loopS u body ds env = some (.rt ev, env2) ∧ J env2)
  | [], env, _, h => .inl ⟨rfl, env, rfl, h⟩
  | d :: ds, env, hs, h => by
    obtain ⟨env1, h1, h2⟩ := hs d List.mem_cons_self env h
    unfold loopS
    rw [h1]
    dsimp only
    rcases h2 with ⟨q, env2, h2, h3⟩ | ⟨q, env2, h2, h3⟩
    · rw [h2]
      rw [List.all_cons, q, Bool.true_and]
      exact loop_ret p ds env2 (fun e he => hs e (List.mem_cons_of_mem _ he)) h3
    · rw [h2]
      rw [List.all_cons, q, Bool.false_and]
      exact .inr ⟨rfl, env2, rfl, h3⟩
/-- all, any -/
theorem gen_go {cont : Bool} {vs : List Nat} {u : PyData → FEnv → Option FEnv} {elt : M Bool} (p : PyData → Bool) {env0 : FEnv} : ∀ (ds : List PyData),
    (∀ d ∈ ds, ∃ env1 env2, u d env0 = some env1 ∧ elt env1 = some (p d, env2) ∧ wipeE env2 vs = env0) → genGo cont vs u elt ds env0 = some (if cont = true then ds.all p else ds.any p, env0)
  | [], _ => by cases cont <;> rfl
  | d :: ds, h => by
    obtain ⟨env1, env2, h1, h2, h3⟩ := h d List.mem_cons_self
    have ih := gen_go (cont := cont) p ds fun e he => h e (List.mem_cons_of_mem _ he)
    unfold genGo
    rw [h1]
    dsimp only
    rw [h2]
    dsimp only
    rw [h3, ih]
    cases q : p d <;> cases cont <;> simp [q]
theorem gen_eq {cont : Bool} {vs : List Nat} {items : M (List PyData)} {u : PyData → FEnv → Option FEnv} {elt : M Bool} (p : PyData → Bool) {env env1 : FEnv} {ds : List PyData} (hi : items env = some (ds, env1)) (hn : noMu vs env1 = true)
    (h : ∀ d ∈ ds, ∃ env2 env3, u d (wipeE env1 vs) = some env2 ∧ elt env2 = some (p d, env3) ∧ wipeE env3 vs = wipeE env1 vs) : genM cont vs items u elt env = some (.im (.bool (if cont = true then ds.all p else ds.any p)), env1) := by
  unfold genM
  rw [hi]
  dsimp only
  rw [if_pos hn, gen_go p ds h]
  dsimp only
  rw [backE_wipe]
/-- [f d for d in ds if p d] -/
theorem lc_go {vs : List Nat} {u : PyData → FEnv → Option FEnv} {test : M Bool} {elt : M PyData} (p : PyData → Bool) (f : PyData → PyData) {env0 : FEnv} : ∀ (ds acc : List PyData), acc.length + ds.length ≤ sizeLine →
    (∀ d ∈ ds, ∃ env1 env2, u d env0 = some env1 ∧ test env1 = some (p d, env2) ∧ (p d = false → wipeE env2 vs = env0) ∧ (p d = true → ∃ env3, elt env2 = some (f d, env3) ∧ wipeE env3 vs = env0)) →
      lcGo vs u test elt ds acc env0 = some (acc ++ (ds.filter p).map f, env0)
  | [], acc, _, _ => by simp [lcGo]
  | d :: ds, acc, hl, h => by
    obtain ⟨env1, env2, h1, h2, h3, h4⟩ := h d List.mem_cons_self
    unfold lcGo
    rw [h1]
    dsimp only
    rw [h2]
    cases q : p d with
    | false =>
      dsimp only
      rw [h3 q, lc_go p f ds acc (by rw [List.length_cons] at hl; omega) fun e he => h e (List.mem_cons_of_mem _ he)]
      simp [q]
    | true =>
      obtain ⟨env3, h5, h6⟩ := h4 q
      dsimp only
      rw [h5]
      dsimp only
      rw [if_pos (by rw [List.length_cons] at hl; omega), h6, lc_go p f ds (acc ++ [f d]) (by rw [List.length_append]; rw [List.length_cons] at hl; simp only [List.length_cons, List.length_nil]; omega) fun e he => h e (List.mem_cons_of_mem _ he)]
      simp [q]
theorem lc_eq {vs : List Nat} {items : M (List PyData)} {u : PyData → FEnv → Option FEnv} {test : M Bool} {elt : M PyData} (p : PyData → Bool) (f : PyData → PyData) {env env1 : FEnv} {ds : List PyData} (hi : items env = some (ds, env1)) (hn : noMu vs env1 = true) (hl : ds.length ≤ sizeLine)
    (h : ∀ d ∈ ds, ∃ env2 env3, u d (wipeE env1 vs) = some env2 ∧ test env2 = some (p d, env3) ∧ (p d = false → wipeE env3 vs = wipeE env1 vs) ∧ (p d = true → ∃ env4, elt env3 = some (f d, env4) ∧ wipeE env4 vs = wipeE env1 vs)) :
    lcM vs items u test elt env = some (.own ((ds.filter p).map f), env1) := by
  unfold lcM
  rw [hi]
  dsimp only
  rw [if_pos hn, lc_go p f ds [] (by simpa using hl) h]
  dsimp only
  rw [backE_wipe]
  rfl
/-- without a test -/
theorem lc_map {vs : List Nat} {items : M (List PyData)} {u : PyData → FEnv → Option FEnv} {elt : M PyData} (f : PyData → PyData) {env env1 : FEnv} {ds : List PyData} (hi : items env = some (ds, env1)) (hn : noMu vs env1 = true) (hl : ds.length ≤ sizeLine)
    (h : ∀ d ∈ ds, ∃ env2 env4, u d (wipeE env1 vs) = some env2 ∧ elt env2 = some (f d, env4) ∧ wipeE env4 vs = wipeE env1 vs) :
    lcM vs items u (retM true) elt env = some (.own (ds.map f), env1) := by
  have := lc_eq (test := retM true) (fun _ => true) f hi hn hl fun d hd => by
    obtain ⟨e2, e4, h1, h2, h3⟩ := h d hd
    exact ⟨e2, e2, h1, rfl, (fun z => by cases z), fun _ => ⟨e4, h2, h3⟩⟩
  rw [this]
  rw [List.filter_eq_self.mpr (by simp)]
theorem seqS_nx {f g : SS} {env env1 : FEnv} (h : f env = some (.nx, env1)) : seqS f g env = g env1 := by unfold seqS; rw [h]
theorem seqS_rt {f g : SS} {env env1 : FEnv} {ev : EV} (h : f env = some (.rt ev, env1)) : seqS f g env = some (.rt ev, env1) := by unfold seqS; rw [h]
theorem ifS_t {t : M Bool} {f g : SS} {env env1 : FEnv} (h : t env = some (true, env1)) : ifS t f g env = f env1 := by unfold ifS; rw [h]
theorem ifS_f {t : M Bool} {f g : SS} {env env1 : FEnv} (h : t env = some (false, env1)) : ifS t f g env = g env1 := by unfold ifS; rw [h]
theorem forS_eq {items : M (List PyData)} {u : PyData → FEnv → Option FEnv} {body : SS} {env env1 : FEnv} {ds : List PyData} (h : items env = some (ds, env1)) : forS items u body env = loopS u body ds env1 := by unfold forS; rw [h]
end FN
namespace FN
open PySem
/-- elements that leave the slots as they are -/
theorem gen_eq' {cont : Bool} {vs : List Nat} {items : M (List PyData)} {u : PyData → FEnv → Option FEnv} {elt : M Bool} (p : PyData → Bool) {env env1 : FEnv} {ds : List PyData} (hi : items env = some (ds, env1)) (hn : noMu vs env1 = true)
    (h : ∀ d ∈ ds, ∃ env2, u d (wipeE env1 vs) = some env2 ∧ elt env2 = some (p d, env2) ∧ wipeE env2 vs = wipeE env1 vs) : genM cont vs items u elt env = some (.im (.bool (if cont = true then ds.all p else ds.any p)), env1) :=
  gen_eq p hi hn fun d hd => let ⟨e, h1, h2, h3⟩ := h d hd; ⟨e, e, h1, h2, h3⟩
theorem lc_map' {vs : List Nat} {items : M (List PyData)} {u : PyData → FEnv → Option FEnv} {elt : M PyData} (f : PyData → PyData) {env env1 : FEnv} {ds : List PyData} (hi : items env = some (ds, env1)) (hn : noMu vs env1 = true) (hl : ds.length ≤ sizeLine)
    (h : ∀ d ∈ ds, ∃ env2, u d (wipeE env1 vs) = some env2 ∧ elt env2 = some (f d, env2) ∧ wipeE env2 vs = wipeE env1 vs) : lcM vs items u (retM true) elt env = some (.own (ds.map f), env1) :=
  lc_map f hi hn hl fun d hd => let ⟨e, h1, h2, h3⟩ := h d hd; ⟨e, e, h1, h2, h3⟩
theorem lc_fil' {vs : List Nat} {items : M (List PyData)} {u : PyData → FEnv → Option FEnv} {test : M Bool} {elt : M PyData} (p : PyData → Bool) {env env1 : FEnv} {ds : List PyData} (hi : items env = some (ds, env1)) (hn : noMu vs env1 = true) (hl : ds.length ≤ sizeLine)
    (h : ∀ d ∈ ds, ∃ env2, u d (wipeE env1 vs) = some env2 ∧ test env2 = some (p d, env2) ∧ elt env2 = some (d, env2) ∧ wipeE env2 vs = wipeE env1 vs) : lcM vs items u test elt env = some (.own (ds.filter p), env1) := by
  have := lc_eq (test := test) p (fun d => d) hi hn hl fun d hd => let ⟨e, h1, h2, h3, h4⟩ := h d hd; ⟨e, e, h1, h2, fun _ => h4, fun _ => ⟨e, h3, h4⟩⟩
  rw [this, List.map_id']
theorem lc_filmap' {vs : List Nat} {items : M (List PyData)} {u : PyData → FEnv → Option FEnv} {test : M Bool} {elt : M PyData} (p : PyData → Bool) (f : PyData → PyData) {env env1 : FEnv} {ds : List PyData} (hi : items env = some (ds, env1)) (hn : noMu vs env1 = true) (hl : ds.length ≤ sizeLine)
    (h : ∀ d ∈ ds, ∃ env2, u d (wipeE env1 vs) = some env2 ∧ test env2 = some (p d, env2) ∧ (p d = true → elt env2 = some (f d, env2)) ∧ wipeE env2 vs = wipeE env1 vs) : lcM vs items u test elt env = some (.own ((ds.filter p).map f), env1) :=
  lc_eq (test := test) p f hi hn hl fun d hd => let ⟨e, h1, h2, h3, h4⟩ := h d hd; ⟨e, e, h1, h2, fun _ => h4, fun q => ⟨e, h3 q, h4⟩⟩
end FN
namespace FN
open PySem
/-- items that are images of typed ones -/
theorem gen_map {α : Type} {cont : Bool} {vs : List Nat} {items : M (List PyData)} {u : PyData → FEnv → Option FEnv} {elt : M Bool} (e : α → PyData) (p : α → Bool) {env env1 : FEnv} {ds : List α} (hi : items env = some (ds.map e, env1)) (hn : noMu vs env1 = true)
    (h : ∀ d ∈ ds, ∃ env2, u (e d) (wipeE env1 vs) = some env2 ∧ elt env2 = some (p d, env2) ∧ wipeE env2 vs = wipeE env1 vs) : genM cont vs items u elt env = some (.im (.bool (if cont = true then ds.all p else ds.any p)), env1) := by
  have go : ∀ l : List α, (∀ d ∈ l, d ∈ ds) → genGo cont vs u elt (l.map e) (wipeE env1 vs) = some (if cont = true then l.all p else l.any p, wipeE env1 vs) := fun l => by
    induction l with
    | nil => intro _; cases cont <;> rfl
    | cons d l ih =>
      intro hl
      obtain ⟨env2, h1, h2, h3⟩ := h d (hl d List.mem_cons_self)
      have ih := ih fun x hx => hl x (List.mem_cons_of_mem _ hx)
      rw [List.map_cons]
      unfold genGo
      rw [h1]
      dsimp only
      rw [h2]
      dsimp only
      rw [h3, ih]
      cases q : p d <;> cases cont <;> simp [q]
  unfold genM
  rw [hi]
  dsimp only
  rw [if_pos hn, go ds fun _ h => h]
  dsimp only
  rw [backE_wipe]
theorem lcg_map {α : Type} {vs : List Nat} {items : M (List PyData)} {u : PyData → FEnv → Option FEnv} {test : M Bool} {elt : M PyData} (e : α → PyData) (p : α → Bool) (f : α → PyData) {env env1 : FEnv} {ds : List α} (hi : items env = some (ds.map e, env1)) (hn : noMu vs env1 = true) (hl : ds.length ≤ sizeLine)
    (h : ∀ d ∈ ds, ∃ env2, u (e d) (wipeE env1 vs) = some env2 ∧ test env2 = some (p d, env2) ∧ (p d = true → elt env2 = some (f d, env2)) ∧ wipeE env2 vs = wipeE env1 vs) : lcM vs items u test elt env = some (.own ((ds.filter p).map f), env1) := by
  have go : ∀ (l : List α) (acc : List PyData), acc.length + l.length ≤ sizeLine → (∀ d ∈ l, d ∈ ds) → lcGo vs u test elt (l.map e) acc (wipeE env1 vs) = some (acc ++ (l.filter p).map f, wipeE env1 vs) := fun l => by
    induction l with
    | nil => intro acc _ _; simp [lcGo]
    | cons d l ih =>
      intro acc ha hl
      obtain ⟨env2, h1, h2, h3, h4⟩ := h d (hl d List.mem_cons_self)
      rw [List.length_cons] at ha
      rw [List.map_cons]
      unfold lcGo
      rw [h1]
      dsimp only
      rw [h2]
      cases q : p d with
      | false =>
        dsimp only
        rw [h4, ih acc (by omega) fun x hx => hl x (List.mem_cons_of_mem _ hx)]
        simp [q]
      | true =>
        dsimp only
        rw [h3 q]
        dsimp only
        rw [if_pos (by omega), h4, ih (acc ++ [f d]) (by rw [List.length_append]; simp only [List.length_cons, List.length_nil]; omega) fun x hx => hl x (List.mem_cons_of_mem _ hx)]
        simp [q]
  unfold lcM
  rw [hi]
  dsimp only
  rw [if_pos hn, go ds [] (by simpa using hl) fun _ h => h]
  dsimp only
  rw [backE_wipe]
  rfl
theorem lcm_map {α : Type} {vs : List Nat} {items : M (List PyData)} {u : PyData → FEnv → Option FEnv} {elt : M PyData} (e : α → PyData) (f : α → PyData) {env env1 : FEnv} {ds : List α} (hi : items env = some (ds.map e, env1)) (hn : noMu vs env1 = true) (hl : ds.length ≤ sizeLine)
    (h : ∀ d ∈ ds, ∃ env2, u (e d) (wipeE env1 vs) = some env2 ∧ elt env2 = some (f d, env2) ∧ wipeE env2 vs = wipeE env1 vs) : lcM vs items u (retM true) elt env = some (.own (ds.map f), env1) := by
  have := lcg_map (test := retM true) e (fun _ => true) f hi hn hl fun d hd => let ⟨e2, h1, h2, h3⟩ := h d hd; ⟨e2, h1, rfl, fun _ => h2, h3⟩
  rw [this, List.filter_eq_self.mpr (by simp)]
/-- loops over images -/
theorem loop_map {α : Type} {u : PyData → FEnv → Option FEnv} {body : SS} {I J : FEnv → Prop} {ev : EV} (e : α → PyData) (p : α → Bool) : ∀ (ds : List α) (env : FEnv),
    (∀ d ∈ ds, ∀ env, I env → ∃ env1, u (e d) env = some env1 ∧ ((p d = true ∧ ∃ env2, body env1 = some (.nx, env2) ∧ I env2) ∨ (p d = false ∧ ∃ env2, body env1 = some (.rt ev, env2) ∧ J env2))) → I env →
      (ds.all p = true ∧ ∃ env2, loopS u body (ds.map e) env = some (.nx, env2) ∧ I env2) ∨ (ds.all p = false ∧ ∃ env2, loopS u body (ds.map e) env = some (.rt ev, env2) ∧ J env2)
  | [], env, _, h => .inl ⟨rfl, env, rfl, h⟩
  | d :: ds, env, hs, h => by
    obtain ⟨env1, h1, h2⟩ := hs d List.mem_cons_self env h
    rw [List.map_cons]
    unfold loopS
    rw [h1]
    dsimp only
    rcases h2 with ⟨q, env2, h2, h3⟩ | ⟨q, env2, h2, h3⟩
    · rw [h2]
      rw [List.all_cons, q, Bool.true_and]
      exact loop_map e p ds env2 (fun x hx => hs x (List.mem_cons_of_mem _ hx)) h3
    · rw [h2]
      rw [List.all_cons, q, Bool.false_and]
      exact .inr ⟨rfl, env2, rfl, h3⟩
/-- a loop that computes: F the state by what has been walked -/
theorem loop_fold {α : Type} {u : PyData → FEnv → Option FEnv} {body : SS} (e : α → PyData) (I : List α → FEnv → Prop) : ∀ (ds pre : List α) (env : FEnv),
    (∀ p d q env, pre ++ ds = p ++ d :: q → I p env → ∃ env1 env2, u (e d) env = some env1 ∧ body env1 = some (.nx, env2) ∧ I (p ++ [d]) env2) → I pre env → ∃ env2, loopS u body (ds.map e) env = some (.nx, env2) ∧ I (pre ++ ds) env2
  | [], pre, env, _, h => ⟨env, rfl, by rw [List.append_nil]; exact h⟩
  | d :: ds, pre, env, hs, h => by
    obtain ⟨env1, env2, h1, h2, h3⟩ := hs pre d ds env rfl h
    obtain ⟨env3, h4, h5⟩ := loop_fold e I ds (pre ++ [d]) env2 (fun p x q env' e1 i => hs p x q env' (by rw [← e1, List.append_assoc]; rfl) i) h3
    refine ⟨env3, ?_, by rw [List.append_assoc] at h5; exact h5⟩
    rw [List.map_cons]
    unfold loopS
    rw [h1]
    dsimp only
    rw [h2]
    exact h4
end FN

/-! Plain data: names, worlds, formulas -/
namespace FN
open PySem PySem.Spec PyProof.Rows L2
open PySem.PyData (strOk)
theorem ok_atom : strOk "atom" = true := by decide +kernel
theorem ok_not : strOk "not" = true := by decide +kernel
theorem ok_all : strOk "all" = true := by decide +kernel
theorem ok_some : strOk "some" = true := by decide +kernel
abbrev wds (w : List Str) : List PyData := w.map PyData.str
abbrev wd (w : List Str) : PyData := .tuple (wds w)
def Ws (w : List Str) : Prop := ∀ x ∈ w, strOk x = true
theorem lay_wds {w : List Str} (h : Ws w) : PyData.canLayAll0 (wds w) = true := by
  induction w with
  | nil => rfl
  | cons x w ih =>
    show (PyData.canLay0 (.str x) && PyData.canLayAll0 (wds w)) = true
    rw [ih fun y hy => h y (List.mem_cons_of_mem _ hy), Bool.and_true]
    exact h x List.mem_cons_self
theorem depth_wds (w : List Str) : PyData.depthAll (wds w) = 0 := by
  induction w with
  | nil => rfl
  | cons x w ih =>
    show max (PyData.depth (.str x)) (PyData.depthAll (wds w)) = 0
    rw [ih]; rfl
theorem sh_str {x : Str} (h : strOk x = true) : SeqAt.shaped (.str x) = true := by
  unfold SeqAt.shaped
  rw [Bool.and_eq_true]
  exact ⟨h, decide_eq_true (by show 0 ≤ 64; omega)⟩
theorem sh_wds {w : List Str} (h : Ws w) : SeqAt.shaped (.list (wds w)) = true := by
  unfold SeqAt.shaped
  rw [Bool.and_eq_true]
  refine ⟨lay_wds h, ?_⟩
  show decide (PyData.depthAll (wds w) + 1 ≤ 64) = true
  rw [depth_wds]; rfl
theorem sh_wd {w : List Str} (h : Ws w) : SeqAt.shaped (wd w) = true := sh_wds h
theorem inD_str {x : Str} {w : List Str} : inD (.str x) (wds w) = decide (x ∈ w) := by
  unfold inD
  induction w with
  | nil => simp
  | cons y w ih =>
    show (PyData.eqv (.str y) (.str x) || (wds w).any fun z => PyData.eqv z (.str x)) = _
    rw [ih]
    show ((y == x) || decide (x ∈ w)) = _
    by_cases h : y = x
    · subst h; simp
    · have h' : ¬ x = y := fun z => h z.symm
      simp [h, h']
theorem oIn_wd {neg : Bool} {x : Str} {w : List Str} (hx : strOk x = true) (hw : Ws w) : oInB neg (.im (.str x)) (.im (wd w)) = some (.im (.bool (if neg then !decide (x ∈ w) else decide (x ∈ w)))) := by
  show (if (SeqAt.shaped (.str x) && SeqAt.shaped (.list (wds w))) = true then some (EV.im (.bool (if neg then !inD (.str x) (wds w) else inD (.str x) (wds w)))) else none) = _
  rw [sh_str hx, sh_wds hw, Bool.true_and, if_pos rfl, inD_str]
/-! formulas -/
inductive Mb where
  | atom (n : Str) | neg (m : Mb) | grp (all : Bool) (ms : List Mb)
def gname (b : Bool) : Str := if b then "all" else "some"
mutual
def enc : Mb → PyData
  | .atom n => .tuple [.str "atom", .str n]
  | .neg m => .tuple [.str "not", enc m]
  | .grp b ms => .tuple [.str (gname b), .tuple (encs ms)]
def encs : List Mb → List PyData
  | [] => []
  | m :: ms => enc m :: encs ms
end
mutual
def on : Mb → List Str → Bool
  | .atom n, w => decide (n ∈ w)
  | .neg m, w => !on m w
  | .grp true ms, w => onAll ms w
  | .grp false ms, w => onAny ms w
def onAll : List Mb → List Str → Bool
  | [], _ => true
  | m :: ms, w => on m w && onAll ms w
def onAny : List Mb → List Str → Bool
  | [], _ => false
  | m :: ms, w => on m w || onAny ms w
end
mutual
def dep : Mb → Nat
  | .atom _ => 1
  | .neg m => dep m + 1
  | .grp _ ms => deps ms + 1
def deps : List Mb → Nat
  | [] => 0
  | m :: ms => max (dep m) (deps ms)
end
mutual
def Mok : Mb → Prop
  | .atom n => strOk n = true
  | .neg m => Mok m
  | .grp _ ms => Moks ms
def Moks : List Mb → Prop
  | [] => True
  | m :: ms => Mok m ∧ Moks ms
end
theorem encs_map : ∀ ms : List Mb, encs ms = ms.map enc
  | [] => rfl
  | m :: ms => by rw [encs, encs_map ms]; rfl
theorem encs_length (ms : List Mb) : (encs ms).length = ms.length := by rw [encs_map, List.length_map]
theorem onAll_all (ms : List Mb) (w : List Str) : onAll ms w = ms.all fun m => on m w := by
  induction ms with
  | nil => rfl
  | cons m ms ih => rw [onAll, ih]; rfl
theorem onAny_any (ms : List Mb) (w : List Str) : onAny ms w = ms.any fun m => on m w := by
  induction ms with
  | nil => rfl
  | cons m ms ih => rw [onAny, ih]; rfl
theorem Moks_mem : ∀ {ms : List Mb}, Moks ms → ∀ m ∈ ms, Mok m
  | m :: ms, h, x, hx => by
    rcases List.mem_cons.mp hx with rfl | hx
    · exact h.1
    · exact Moks_mem h.2 x hx
theorem Moks_of : ∀ {ms : List Mb}, (∀ m ∈ ms, Mok m) → Moks ms
  | [], _ => trivial
  | m :: ms, h => ⟨h m List.mem_cons_self, Moks_of fun x hx => h x (List.mem_cons_of_mem _ hx)⟩
theorem deps_mem : ∀ {ms : List Mb} {m : Mb}, m ∈ ms → dep m ≤ deps ms
  | m :: ms, x, hx => by
    rw [deps]
    rcases List.mem_cons.mp hx with rfl | hx
    · omega
    · have := deps_mem hx; omega
theorem deps_le {ms : List Mb} {n : Nat} (h : ∀ m ∈ ms, dep m ≤ n) : deps ms ≤ n := by
  induction ms with
  | nil => simp [deps]
  | cons m ms ih =>
    rw [deps]
    have h1 := h m List.mem_cons_self
    have h2 := ih fun x hx => h x (List.mem_cons_of_mem _ hx)
    omega
mutual
theorem lay_enc : ∀ {m : Mb}, Mok m → PyData.canLay0 (enc m) = true
  | .atom n, h => by
    have h : strOk n = true := h
    simp [enc, PyData.canLay0, PyData.canLayAll0, h, ok_atom]
  | .neg m, h => by
    have := lay_enc (m := m) h
    simp [enc, PyData.canLay0, PyData.canLayAll0, this, ok_not]
  | .grp b ms, h => by
    have := lay_encs (ms := ms) h
    cases b <;> simp [enc, PyData.canLay0, PyData.canLayAll0, this, gname, ok_all, ok_some]
theorem lay_encs : ∀ {ms : List Mb}, Moks ms → PyData.canLayAll0 (encs ms) = true
  | [], _ => rfl
  | m :: ms, h => by
    simp [encs, PyData.canLayAll0, lay_enc h.1, lay_encs h.2]
end
mutual
theorem depth_enc : ∀ m : Mb, PyData.depth (enc m) ≤ 2 * dep m
  | .atom n => by simp [enc, PyData.depth, PyData.depthAll, dep]
  | .neg m => by
    have := depth_enc m
    simp only [enc, PyData.depth, PyData.depthAll, dep]
    omega
  | .grp b ms => by
    have := depth_encs ms
    simp only [enc, PyData.depth, PyData.depthAll, dep]
    omega
theorem depth_encs : ∀ ms : List Mb, PyData.depthAll (encs ms) ≤ 2 * deps ms
  | [] => by simp [encs, PyData.depthAll]
  | m :: ms => by
    have h1 := depth_enc m
    have h2 := depth_encs ms
    simp only [encs, PyData.depthAll, deps]
    omega
end
theorem sh_enc {m : Mb} (h : Mok m) (hd : dep m ≤ 32) : SeqAt.shaped (enc m) = true := by
  unfold SeqAt.shaped
  rw [Bool.and_eq_true]
  refine ⟨lay_enc h, decide_eq_true ?_⟩
  have := depth_enc m
  omega
end FN

/-! Evaluation: the combinators at a state; items, comparisons -/
namespace FN
open PySem PySem.Spec L2
open PySem.PyData (strOk)
section
variable {α β : Type} (env : FEnv)
theorem a_bind (f : M α) (g : α → M β) : bindM f g env = match f env with
  | some (a, env') => g a env'
  | none => none := id rfl
theorem a_ret (a : α) : retM a env = some (a, env) := id rfl
theorem a_fVar (i : Nat) : fVar i env = match env[i]? with
  | some (.im d) => some (.im d, env)
  | some (.mu _) => some (.slot i, env)
  | _ => none := id rfl
theorem a_fC (d : PyData) : fC d env = some (.im d, env) := id rfl
theorem a_op2 (f g : M EV) (o : SV → SV → Option EV) : op2 f g o env = bindM f (fun x => bindM g fun y => fun env => match view x env, view y env with
  | some p, some q => match o p q with
    | some z => some (z, env)
    | none => none
  | _, _ => none) env := id rfl
theorem a_opN (f : M (List EV)) (o : List SV → Option EV) : opN f o env = bindM f (fun es => fun env => match views es env with
  | some ss => match o ss with
    | some z => some (z, env)
    | none => none
  | none => none) env := id rfl
theorem a_op1 (f : M EV) (o : SV → Option EV) : op1 f o env = bindM f (fun x => fun env => match view x env with
  | some sv => match o sv with
    | some z => some (z, env)
    | none => none
  | none => none) env := id rfl
theorem a_frM (f : M EV) : frM f env = bindM f frz env := id rfl
theorem a_consM (f : M α) (g : M (List α)) : consM f g env = bindM f (fun d => bindM g fun ds => retM (d :: ds)) env := id rfl
theorem a_tupM (f : M (List PyData)) : tupM f env = bindM f mkT env := id rfl
theorem a_lstM (f : M (List PyData)) : lstM f env = bindM f mkL env := id rfl
theorem a_boolE (f : M EV) : boolE f env = bindM f evB env := id rfl
theorem a_truE (f : M EV) : truE f env = bindM f truM env := id rfl
theorem a_notM (f : M Bool) : notM f env = bindM f (fun b => retM !b) env := id rfl
theorem a_notV (f : M EV) : notV f env = bindM (bindM f evB) (fun b => retM (.im (.bool !b))) env := id rfl
theorem a_andM (f g : M Bool) : andM f g env = bindM f (fun b => if b = true then g else retM false) env := id rfl
theorem a_orM (f g : M Bool) : orM f g env = bindM f (fun b => if b = true then retM true else g) env := id rfl
theorem a_andV (f g : M EV) : andV f g env = bindM (bindM f evB) (fun b => if b = true then g else retM (.im (.bool false))) env := id rfl
theorem a_orV (f g : M EV) : orV f g env = bindM (bindM f evB) (fun b => if b = true then retM (.im (.bool true)) else g) env := id rfl
theorem a_ifM (t : M Bool) (f g : M α) : ifM t f g env = bindM t (fun b => if b = true then f else g) env := id rfl
theorem a_loM (f : M EV) : loM f env = bindM f (fun ev => bindM (evI ev) fun i => retM (some i)) env := id rfl
theorem a_slM (f : M EV) (l h : M (Option Int)) (o : SV → Option Int → Option Int → Option EV) : slM f l h o env = bindM f (fun x => bindM l fun lo => bindM h fun hi => fun env => match view x env with
  | some sv => match o sv lo hi with
    | some z => some (z, env)
    | none => none
  | none => none) env := id rfl
theorem a_ite {p : Prop} [Decidable p] (f g : M α) : (if p then f else g) env = if p then f env else g env := by split <;> rfl
theorem a_itemsM (f : M PyData) : itemsM f env = bindM f itemsOf env := id rfl
theorem a_enuM (f : M PyData) : enuM f env = bindM f enumM env := id rfl
theorem a_setS (pin : List Nat) (i : Nat) (f : M EV) : setS pin i f env = match f env with
  | some (ev, env1) => match store pin i ev env1 with
    | some env2 => some (.nx, env2)
    | none => none
  | none => none := id rfl
theorem a_retS (pin : List Nat) (f : M EV) : retS pin f env = match bindM f (retE pin) env with
  | some (ev, env1) => some (.rt ev, env1)
  | none => none := id rfl
theorem a_seqS (f g : SS) : seqS f g env = match f env with
  | some (.nx, env1) => g env1
  | r => r := id rfl
theorem a_ifS (t : M Bool) (f g : SS) : ifS t f g env = match t env with
  | some (true, env1) => f env1
  | some (false, env1) => g env1
  | none => none := id rfl
theorem a_nxS : nxS env = some (.nx, env) := id rfl
theorem a_setG (f : M PyData) (u : PyData → FEnv → Option FEnv) : setG f u env = match f env with
  | some (d, env1) => match u d env1 with
    | some env2 => some (.nx, env2)
    | none => none
  | none => none := id rfl
theorem a_appS (n : Nat) (f : M PyData) : appS n f env = match env[n]? with
  | some (.mu _) => match f env with
    | some (d, env1) => match env1[n]? with
      | some (.mu ds) => if ds.length < sizeLine then some (.nx, env1.set n (.mu (ds ++ [d]))) else none
      | _ => none
    | none => none
  | _ => none := id rfl
theorem a_rng1 (f : M EV) : rng1 f env = bindM (bindM f evI) (fun j env => if j.natAbs < 4611686018427387904 then some (rangeD 0 j.toNat, env) else none) env := id rfl
end
theorem atI_nat {α : Type} (xs : List α) (i : Nat) : atI xs (i : Int) = xs[i]? := by
  unfold atI ixN
  rw [if_pos (Int.natCast_nonneg i)]
  by_cases h : i < xs.length
  · rw [if_pos (by omega)]
    simp
  · rw [if_neg (by omega)]
    simp [List.getElem?_eq_none (by omega : xs.length ≤ i)]
theorem atI0 {α : Type} (xs : List α) : atI xs 0 = xs[0]? := atI_nat xs 0
theorem atI1 {α : Type} (xs : List α) : atI xs 1 = xs[1]? := atI_nat xs 1
def optE : Option PyData → Option EV
  | some d => some (.im d)
  | none => none
theorem oIx_tup {ds : List PyData} {i : Int} : oIx (.im (.tuple ds)) (.im (.int i)) = optE (atI ds i) := by
  simp only [oIx, SV.asI, SV.asQ]
  cases atI ds i <;> rfl
theorem oIx_list {ds : List PyData} {i : Int} : oIx (.im (.list ds)) (.im (.int i)) = optE (atI ds i) := by
  simp only [oIx, SV.asI, SV.asQ]
  cases atI ds i <;> rfl
theorem oIx_mu {ds : List PyData} {i : Int} : oIx (.mu ds) (.im (.int i)) = optE (atI ds i) := by
  simp only [oIx, SV.asI, SV.asQ]
  cases atI ds i <;> rfl
theorem oIx0 {a : PyData} {ds : List PyData} : oIx (.im (.tuple (a :: ds))) (.im (.int 0)) = some (.im a) := by
  rw [oIx_tup, atI0]; rfl
theorem oIx1 {a b : PyData} {ds : List PyData} : oIx (.im (.tuple (a :: b :: ds))) (.im (.int 1)) = some (.im b) := by
  rw [oIx_tup, atI1]; rfl
theorem oEq_str {x y : Str} (hx : strOk x = true) (hy : strOk y = true) : oEq (.im (.str x)) (.im (.str y)) = some (.im (.bool (x == y))) := by
  simp [oEq, dat2, SV.dat, sh_str hx, sh_str hy, PyData.eqv]
theorem oNe_str {x y : Str} (hx : strOk x = true) (hy : strOk y = true) : oNe (.im (.str x)) (.im (.str y)) = some (.im (.bool (!(x == y)))) := by
  simp [oNe, dat2, SV.dat, sh_str hx, sh_str hy, PyData.eqv]
theorem sh_int (i : Int) : SeqAt.shaped (.int i) = true := by simp [SeqAt.shaped, PyData.canLay0, PyData.depth]
theorem sh_bool (i : Bool) : SeqAt.shaped (.bool i) = true := by simp [SeqAt.shaped, PyData.canLay0, PyData.depth]
theorem oEq_int {i j : Int} : oEq (.im (.int i)) (.im (.int j)) = some (.im (.bool (i == j))) := by simp [oEq, dat2, SV.dat, sh_int, PyData.eqv]
theorem oNe_int {i j : Int} : oNe (.im (.int i)) (.im (.int j)) = some (.im (.bool (!(i == j)))) := by simp [oNe, dat2, SV.dat, sh_int, PyData.eqv]
theorem oEq_bool {i j : Bool} : oEq (.im (.bool i)) (.im (.bool j)) = some (.im (.bool (i == j))) := by simp [oEq, dat2, SV.dat, sh_bool, PyData.eqv]
theorem oNe_bool {i j : Bool} : oNe (.im (.bool i)) (.im (.bool j)) = some (.im (.bool (!(i == j)))) := by simp [oNe, dat2, SV.dat, sh_bool, PyData.eqv]
theorem s_atom_atom : (("atom" : Str) == "atom") = true := by decide +kernel
theorem s_not_atom : (("not" : Str) == "atom") = false := by decide +kernel
theorem s_not_not : (("not" : Str) == "not") = true := by decide +kernel
theorem s_all_atom : (("all" : Str) == "atom") = false := by decide +kernel
theorem s_all_not : (("all" : Str) == "not") = false := by decide +kernel
theorem s_all_all : (("all" : Str) == "all") = true := by decide +kernel
theorem s_some_atom : (("some" : Str) == "atom") = false := by decide +kernel
theorem s_some_not : (("some" : Str) == "not") = false := by decide +kernel
theorem s_some_all : (("some" : Str) == "all") = false := by decide +kernel
theorem callM_im {F : FnT} {dds : List PyData} {f : M (List EV)} {env env1 : FEnv} {es : List EV} {svs svs' : List SV} {ev : EV} (h1 : f env = some (es, env1)) (h2 : views es env1 = some svs) (h3 : (slotsMu env1 es).Nodup) (h4 : F (svs ++ dds.map SV.im) = some (ev, svs')) (hs : ∀ i, ev ≠ .slot i) : callM F dds f env = some (ev, upds env1 es svs') := by
  unfold callM
  rw [h1]
  dsimp only
  rw [h2]
  dsimp only
  rw [if_pos h3, h4]
  cases ev with
  | slot i => exact absurd rfl (hs i)
  | _ => rfl
theorem views_im (env : FEnv) (l : List PyData) : views (l.map EV.im) env = some (l.map SV.im) := by
  induction l with
  | nil => rfl
  | cons a l ih => show (match FN.view (.im a) env, views (l.map EV.im) env with | some s, some ss => some (s :: ss) | _, _ => none) = _; rw [ih]; rfl
theorem slots_im (env : FEnv) (l : List PyData) : slotsMu env (l.map EV.im) = [] := by
  induction l with
  | nil => rfl
  | cons a l ih => exact ih
theorem upds_im (env : FEnv) : ∀ (l : List PyData) (ss : List SV), upds env (l.map EV.im) ss = env
  | [], ss => by cases ss <;> rfl
  | a :: l, [] => rfl
  | a :: l, s :: ss => upds_im env l ss
/-- a call whose arguments are data -/
theorem call_im {F : FnT} {dds : List PyData} {f : M (List EV)} {env env1 : FEnv} {svs' : List SV} {ev : EV} (as : List PyData) (h1 : f env = some (as.map EV.im, env1)) (h4 : F (as.map SV.im ++ dds.map SV.im) = some (ev, svs')) (hs : ∀ i, ev ≠ .slot i) : callM F dds f env = some (ev, env1) := by
  have := callM_im h1 (views_im env1 as) (by rw [slots_im]; exact List.nodup_nil) h4 hs
  rw [upds_im] at this
  exact this
theorem im_ne {d : PyData} : ∀ i, EV.im d ≠ .slot i := fun i z => by cases z
theorem own_ne {d : List PyData} : ∀ i, EV.own d ≠ .slot i := fun i z => by cases z
end FN
namespace FN
open PySem PySem.Spec L2
abbrev iD (k : Nat) : PyData := .int (k : Int)
theorem rangeD0 (n : Nat) : rangeD 0 n = (List.range n).map iD := by
  unfold rangeD
  refine List.map_congr_left fun k _ => ?_
  show PyData.int (0 + (k : Int)) = PyData.int (k : Int)
  rw [Int.zero_add]
theorem rng1_eq {f : M EV} {env env1 : FEnv} {n : Nat} (h : bindM f evI env = some (((n : Nat) : Int), env1)) (hn : n ≤ 1000000) : rng1 f env = some ((List.range n).map iD, env1) := by
  unfold rng1
  rw [bindM_eq h]
  have c : (((n : Nat) : Int)).natAbs < 4611686018427387904 := by omega
  rw [if_pos c, Int.toNat_natCast, rangeD0]
theorem rg1 : List.range 1 = [0] := rfl
theorem rg2 : List.range 2 = [0, 1] := rfl
theorem rg3 : List.range 3 = [0, 1, 2] := rfl
theorem rg4 : List.range 4 = [0, 1, 2, 3] := rfl
theorem rg5 : List.range 5 = [0, 1, 2, 3, 4] := rfl
theorem range_split {p q : List Nat} {d n : Nat} (e : [] ++ List.range n = p ++ d :: q) : d = p.length ∧ p.length < n := by
  rw [List.nil_append] at e
  have h1 : (List.range n)[p.length]? = some d := by rw [e, List.getElem?_append_right (Nat.le_refl _), Nat.sub_self]; rfl
  obtain ⟨h2, h3⟩ := List.getElem?_eq_some_iff.mp h1
  rw [List.getElem_range] at h3
  exact ⟨h3.symm, by simpa using h2⟩
theorem oEq_nil : oEq (.im (.tuple [])) (.im (.tuple [])) = some (.im (.bool true)) := by simp [oEq, dat2, SV.dat, SeqAt.shaped, PyData.canLay0, PyData.canLayAll0, PyData.depth, PyData.depthAll, PyData.eqv, PyData.eqvAll]
theorem ixT {α : Type} {l : List α} {f : α → PyData} {k : Nat} (h : k < l.length) : oIx (.im (.tuple (l.map f))) (.im (.int (k : Nat))) = some (.im (f l[k])) := by
  rw [oIx_tup, atI_nat, List.getElem?_map, List.getElem?_eq_getElem h]; rfl
theorem ixL {α : Type} {l : List α} {f : α → PyData} {k : Nat} (h : k < l.length) : oIx (.im (.list (l.map f))) (.im (.int (k : Nat))) = some (.im (f l[k])) := by
  rw [oIx_list, atI_nat, List.getElem?_map, List.getElem?_eq_getElem h]; rfl
theorem ixM {α : Type} {l : List α} {f : α → PyData} {k : Nat} (h : k < l.length) : oIx (.mu (l.map f)) (.im (.int (k : Nat))) = some (.im (f l[k])) := by
  rw [oIx_mu, atI_nat, List.getElem?_map, List.getElem?_eq_getElem h]; rfl
theorem sz (n : Nat) (h : n ≤ 16777216 := by omega) : n ≤ sizeLine := h
theorem szl (n : Nat) (h : n < 16777216 := by omega) : n < sizeLine := h
end FN
namespace FN
open PySem
theorem oEq_nat {i j : Nat} : oEq (.im (.int (i : Int))) (.im (.int (j : Int))) = some (.im (.bool (decide (i = j)))) := by
  rw [oEq_int]
  by_cases h : i = j
  · subst h; simp
  · have : ((i : Int) == (j : Int)) = false := by simp; omega
    rw [this]; simp [h]
theorem oNe_nat {i j : Nat} : oNe (.im (.int (i : Int))) (.im (.int (j : Int))) = some (.im (.bool (!decide (i = j)))) := by
  rw [oNe_int]
  by_cases h : i = j
  · subst h; simp
  · have : ((i : Int) == (j : Int)) = false := by simp; omega
    rw [this]; simp [h]
end FN
namespace FN
open PySem
/-- a def's function by its body's answer -/
theorem fn_rt {pin : List Nat} {n m : Nat} {f : SS} {svs : List SV} {ev : EV} {env' : FEnv} (hf : f (svs ++ List.replicate m .no) = some (.rt ev, env')) (hl : svs.length = n) (hc : ((List.range n).all fun j => pin.contains j || isIm (svs.getD j .no)) = true) (hs : ∀ i, ev ≠ .slot i) : fnOf pin n m f svs = some (ev, outs pin env' svs) := by
  have hc' : ∀ j ∈ List.range n, j ∈ pin ∨ isIm (svs.getD j .no) = true := fun j hj => by
    have := List.all_eq_true.mp hc j hj
    rw [Bool.or_eq_true] at this
    exact this.imp (fun h => by simpa using h) id
  unfold fnOf
  rw [if_pos ⟨hl, hc'⟩, hf]
  cases ev with
  | slot i => exact absurd rfl (hs i)
  | _ => rfl
end FN
namespace FN
open PySem
theorem oNe_dec {i j : Int} : oNe (.im (.int i)) (.im (.int j)) = some (.im (.bool (decide (i ≠ j)))) := by
  rw [oNe_int]
  by_cases h : i = j
  · subst h; simp
  · have : (i == j) = false := by simpa using h
    rw [this]; simp [h]
theorem oEq_dec {i j : Int} : oEq (.im (.int i)) (.im (.int j)) = some (.im (.bool (decide (i = j)))) := by
  rw [oEq_int]
  by_cases h : i = j
  · subst h; simp
  · have : (i == j) = false := by simpa using h
    rw [this]; simp [h]
end FN
namespace FN
open PySem PySem.Spec PyProof.Rows L2
theorem cutG_take {α : Type} (xs : List α) (k : Nat) : cutG xs none (some (k : Int)) = xs.take k := by
  unfold cutG
  rw [HT.sIx_none, HT.sIx_nat, List.drop_zero, Nat.sub_zero]
  by_cases h : k ≤ xs.length
  · rw [Nat.min_eq_left h]
  · rw [Nat.min_eq_right (by omega), List.take_length, List.take_of_length_le (by omega)]
theorem cutG_drop {α : Type} (xs : List α) (k : Nat) : cutG xs (some (k : Int)) none = xs.drop k := by
  unfold cutG
  rw [HT.sIx_none, HT.sIx_nat]
  by_cases h : k ≤ xs.length
  · rw [Nat.min_eq_left h, List.take_of_length_le (by rw [List.length_drop]; omega)]
  · rw [Nat.min_eq_right (by omega), Nat.sub_self, List.take_zero, List.drop_of_length_le (by omega)]
theorem cutG_mid {α : Type} (xs : List α) (a b : Nat) : cutG xs (some (a : Int)) (some (b : Int)) = (xs.take b).drop a := by
  unfold cutG
  rw [HT.sIx_nat, HT.sIx_nat, List.drop_take]
  by_cases h : a ≤ xs.length
  · rw [Nat.min_eq_left h]
    by_cases h2 : b ≤ xs.length
    · rw [Nat.min_eq_left h2]
    · rw [Nat.min_eq_right (by omega), List.take_of_length_le (by rw [List.length_drop]; omega), List.take_of_length_le (by rw [List.length_drop]; omega)]
  · rw [Nat.min_eq_right (by omega : xs.length ≤ a), List.drop_of_length_le (by omega), List.drop_of_length_le (by omega)]
    simp
end FN

/-! The mirrors of the defs (printed) -/
namespace K89
open PySem PySem.Spec PyProof.Rows L2 FN
def fuel : Nat := 40
theorem fuel_eq : fuel = 40 := rfl
def c_LETTERS : PyData := (.str "abcdefghijklmnopqrstuvwxyz")
def c_NAME_CHARACTERS : PyData := (.str "abcdefghijklmnopqrstuvwxyz0123456789")
def c_NEVER : PyData := (.tuple [(.str "some"), (.tuple [])])
def c_RESERVED : PyData := (.tuple [(.str "all"), (.str "some"), (.str "not"), (.str "gives")])
def c_SURE : PyData := (.tuple [(.str "all"), (.tuple [])])
def f_is_name_1 : M Bool := (boolE (op2 (fVar 1) (fC c_NAME_CHARACTERS) (oInB false)))
def f_is_name : SS := (seqS (ifS (orM (notM (truE (op1 (fVar 0) (oIsi "str")))) (boolE (op2 (fVar 0) (fC c_RESERVED) (oInB false)))) (retS [0] (fC (.bool false))) nxS) (seqS (ifS (orM (notM (boolE (chM (fC (.int 1)) (opN (consM (fVar 0) (retM [])) oLen) (fC (.int 8)) oLe oLe))) (boolE (op2 (op2 (fVar 0) (fC (.int 0)) oIx) (fC c_LETTERS) (oInB true)))) (retS [0] (fC (.bool false))) nxS) (retS [0] (genM true [1] (itemsM (frM (fVar 0))) (uName [0] 1) f_is_name_1))))
def F_is_name : FnT := fnOf [0] 1 1 f_is_name
def f_make_atom : SS := (seqS (ifS (notM (truE (callM F_is_name [] (consM (fVar 0) (retM []))))) neverS nxS) (retS [0] (tupM (consM (frM (fC (.str "atom"))) (consM (frM (fVar 0)) (retM []))))))
def F_make_atom : FnT := fnOf [0] 1 0 f_make_atom
def f_at_least (self : FnT) : SS := (seqS (ifS (boolE (op2 (fVar 2) (fC (.int 0)) oEq)) (retS [0, 1, 2] (fC c_SURE)) nxS) (seqS (ifS (boolE (op2 (fVar 2) (fVar 1) oGt)) (retS [0, 1, 2] (fC c_NEVER)) nxS) (seqS (setS [0, 1, 2] 3 (tupM (consM (frM (fC (.str "all"))) (consM (frM (tupM (consM (frM (op2 (fVar 0) (op2 (fVar 1) (fC (.int 1)) oSub) oIx)) (consM (frM (callM self [] (consM (fVar 0) (consM (op2 (fVar 1) (fC (.int 1)) oSub) (consM (op2 (fVar 2) (fC (.int 1)) oSub) (retM [])))))) (retM []))))) (retM []))))) (retS [0, 1, 2] (tupM (consM (frM (fC (.str "some"))) (consM (frM (tupM (consM (frM (callM self [] (consM (fVar 0) (consM (op2 (fVar 1) (fC (.int 1)) oSub) (consM (fVar 2) (retM [])))))) (consM (frM (fVar 3)) (retM []))))) (retM []))))))))
def F_at_least : Nat → FnT
  | 0 => fun _ => none
  | k + 1 => fnOf [0, 1, 2] 3 1 (f_at_least (F_at_least k))
def f_is_on_1 (self : FnT) : M Bool := (boolE (callM self [] (consM (fVar 2) (consM (fVar 1) (retM [])))))
def f_is_on_2 (self : FnT) : M Bool := (boolE (callM self [] (consM (fVar 2) (consM (fVar 1) (retM [])))))
def f_is_on (self : FnT) : SS := (seqS (ifS (boolE (op2 (op2 (fVar 0) (fC (.int 0)) oIx) (fC (.str "atom")) oEq)) (retS [0, 1] (op2 (op2 (fVar 0) (fC (.int 1)) oIx) (fVar 1) (oInB false))) nxS) (seqS (ifS (boolE (op2 (op2 (fVar 0) (fC (.int 0)) oIx) (fC (.str "not")) oEq)) (retS [0, 1] (notV (callM self [] (consM (op2 (fVar 0) (fC (.int 1)) oIx) (consM (fVar 1) (retM [])))))) nxS) (seqS (ifS (boolE (op2 (op2 (fVar 0) (fC (.int 0)) oIx) (fC (.str "all")) oEq)) (retS [0, 1] (genM true [2] (itemsM (frM (op2 (fVar 0) (fC (.int 1)) oIx))) (uName [0, 1] 2) (f_is_on_2 self))) nxS) (retS [0, 1] (genM false [2] (itemsM (frM (op2 (fVar 0) (fC (.int 1)) oIx))) (uName [0, 1] 2) (f_is_on_1 self))))))
def F_is_on : Nat → FnT
  | 0 => fun _ => none
  | k + 1 => fnOf [0, 1] 2 1 (f_is_on (F_is_on k))
def f_is_below_1 : M Bool := (boolE (op2 (fVar 2) (fVar 1) (oInB false)))
def f_is_below : SS := (retS [0, 1] (genM true [2] (itemsM (frM (fVar 0))) (uName [0, 1] 2) f_is_below_1))
def F_is_below : FnT := fnOf [0, 1] 2 1 f_is_below
def f_all_worlds_1 : M PyData := (frM (op2 (fVar 3) (tupM (consM (frM (fVar 2)) (retM []))) oAdd))
def f_all_worlds_2 : SS := (setS [0] 1 (op2 (fVar 1) (lcM [3] (itemsM (frM (fVar 1))) (uName [0] 3) (retM true) f_all_worlds_1) oAdd))
def f_all_worlds : SS := (seqS (setS [0] 1 (lstM (consM (frM (tupM (retM []))) (retM [])))) (seqS (forS (itemsM (frM (fVar 0))) (uName [0] 2) f_all_worlds_2) (retS [0] (opN (consM (fVar 1) (retM [])) oTuple))))
def F_all_worlds : FnT := fnOf [0] 1 3 f_all_worlds
def f_signature_of_1 : M PyData := (frM (callM (F_is_on fuel) [] (consM (fVar 2) (consM (fVar 1) (retM [])))))
def f_signature_of : SS := (retS [0, 1] (opN (consM (lcM [2] (itemsM (frM (fVar 0))) (uName [0, 1] 2) (retM true) f_signature_of_1) (retM [])) oTuple))
def F_signature_of : FnT := fnOf [0, 1] 2 1 f_signature_of
def f_least_of_1 : M Bool := (andM (boolE (op2 (op2 (fVar 2) (fVar 7) oIx) (op2 (fVar 2) (fVar 4) oIx) oEq)) (truE (callM F_is_below [] (consM (op2 (fVar 0) (fVar 7) oIx) (consM (op2 (fVar 0) (fVar 4) oIx) (retM []))))))
def f_least_of_2 : M PyData := (frM (fVar 7))
def f_least_of_3 : SS := (seqS (setS [0, 1] 5 (lcM [7] (rng1 (fVar 4)) (uName [0, 1] 7) f_least_of_1 f_least_of_2)) (ifS (boolE (op2 (opN (consM (fVar 5) (retM [])) oLen) (fC (.int 0)) oEq)) (appS 3 (frM (op2 (fVar 0) (fVar 4) oIx))) nxS))
def f_least_of_4 : M PyData := (frM (callM F_signature_of [] (consM (fVar 1) (consM (fVar 6) (retM [])))))
def f_least_of : SS := (seqS (setS [0, 1] 2 (lcM [6] (itemsM (frM (fVar 0))) (uName [0, 1] 6) (retM true) f_least_of_4)) (seqS (setS [0, 1] 3 (lstM (retM []))) (seqS (forS (rng1 (opN (consM (fVar 0) (retM [])) oLen)) (uName [0, 1] 4) f_least_of_3) (retS [0, 1] (opN (consM (fVar 3) (retM [])) oTuple)))))
def F_least_of : FnT := fnOf [0, 1] 2 6 f_least_of
def f_world_term_1 : M Bool := (notM (truE (callM (F_is_on fuel) [] (consM (fVar 5) (consM (fVar 0) (retM []))))))
def f_world_term_2 : M PyData := (frM (tupM (consM (frM (fC (.str "not"))) (consM (frM (fVar 5)) (retM [])))))
def f_world_term_3 : M PyData := (frM (callM F_make_atom [] (consM (fVar 4) (retM []))))
def f_world_term : SS := (seqS (setS [0, 1] 2 (lcM [4] (itemsM (frM (fVar 0))) (uName [0, 1] 4) (retM true) f_world_term_3)) (seqS (setS [0, 1] 3 (lcM [5] (itemsM (frM (fVar 1))) (uName [0, 1] 5) f_world_term_1 f_world_term_2)) (retS [0, 1] (tupM (consM (frM (fC (.str "all"))) (consM (frM (opN (consM (op2 (fVar 2) (fVar 3) oAdd) (retM [])) oTuple)) (retM [])))))))
def F_world_term : FnT := fnOf [0, 1] 2 4 f_world_term
def f_form_of_1 : M PyData := (frM (callM F_world_term [] (consM (fVar 2) (consM (fVar 1) (retM [])))))
def f_form_of : SS := (retS [0, 1] (tupM (consM (frM (fC (.str "some"))) (consM (frM (opN (consM (lcM [2] (itemsM (frM (callM F_least_of [] (consM (fVar 0) (consM (fVar 1) (retM [])))))) (uName [0, 1] 2) (retM true) f_form_of_1) (retM [])) oTuple)) (retM [])))))
def F_form_of : FnT := fnOf [0, 1] 2 1 f_form_of
def f_slice_is_on : SS := (seqS (ifS (boolE (op2 (opN (consM (fVar 1) (retM [])) oLen) (fVar 2) oEq)) (retS [0, 1, 2] (callM (F_is_on fuel) [] (consM (fVar 0) (consM (fVar 1) (retM []))))) nxS) (retS [0, 1, 2] (op2 (opN (consM (fVar 1) (retM [])) oLen) (fVar 2) oGt)))
def F_slice_is_on : FnT := fnOf [0, 1, 2] 3 0 f_slice_is_on
def f_slice_of_1 : M Bool := (truE (callM F_slice_is_on [] (consM (fVar 0) (consM (fVar 3) (consM (fVar 2) (retM []))))))
def f_slice_of_2 : M PyData := (frM (fVar 3))
def f_slice_of : SS := (retS [0, 1, 2] (callM F_form_of [(.tuple [])] (consM (opN (consM (lcM [3] (itemsM (frM (callM F_all_worlds [] (consM (fVar 1) (retM []))))) (uName [0, 1, 2] 3) f_slice_of_1 f_slice_of_2) (retM [])) oTuple) (retM []))))
def F_slice_of : FnT := fnOf [0, 1, 2] 3 1 f_slice_of
def f_slices_of_1 : M PyData := (frM (callM F_slice_of [] (consM (fVar 0) (consM (fVar 1) (consM (fVar 2) (retM []))))))
def f_slices_of : SS := (retS [0, 1] (opN (consM (lcM [2] (rng1 (op2 (opN (consM (fVar 1) (retM [])) oLen) (fC (.int 1)) oAdd)) (uName [0, 1] 2) (retM true) f_slices_of_1) (retM [])) oTuple))
def F_slices_of : FnT := fnOf [0, 1] 2 1 f_slices_of
def f_can_be_slice_1 : SS := (ifS (andM (boolE (op2 (opN (consM (fVar 3) (retM [])) oLen) (fVar 2) oNe)) (boolE (op2 (callM (F_is_on fuel) [] (consM (fVar 0) (consM (fVar 3) (retM [])))) (op2 (opN (consM (fVar 3) (retM [])) oLen) (fVar 2) oGt) oNe))) (retS [0, 1, 2] (fC (.bool false))) nxS)
def f_can_be_slice : SS := (seqS (forS (itemsM (frM (callM F_all_worlds [] (consM (fVar 1) (retM []))))) (uName [0, 1, 2] 3) f_can_be_slice_1) (retS [0, 1, 2] (fC (.bool true))))
def F_can_be_slice : FnT := fnOf [0, 1, 2] 3 1 f_can_be_slice
def f_are_slices_1 : M PyData := (frM (callM F_can_be_slice [] (consM (fVar 3) (consM (fVar 1) (consM (fVar 2) (retM []))))))
def f_are_slices : SS := (seqS (ifS (boolE (op2 (opN (consM (fVar 0) (retM [])) oLen) (op2 (opN (consM (fVar 1) (retM [])) oLen) (fC (.int 1)) oAdd) oNe)) (retS [0, 1] (fC (.bool false))) nxS) (retS [0, 1] (opN (consM (lcM [2, 3] (enuM (frM (fVar 0))) (uTup [(uName [0, 1] 2), (uName [0, 1] 3)]) (retM true) f_are_slices_1) (retM [])) (oAllL false))))
def F_are_slices : FnT := fnOf [0, 1] 2 2 f_are_slices
def f_unslice_1 : SS := (appS 3 (frM (tupM (consM (frM (fC (.str "all"))) (consM (frM (tupM (consM (frM (fVar 5)) (consM (frM (tupM (consM (frM (fC (.str "not"))) (consM (frM (callM (F_at_least fuel) [] (consM (fVar 2) (consM (opN (consM (fVar 2) (retM [])) oLen) (consM (op2 (fVar 4) (fC (.int 1)) oAdd) (retM [])))))) (retM []))))) (retM []))))) (retM []))))))
def f_unslice_2 : M PyData := (frM (callM F_make_atom [] (consM (fVar 6) (retM []))))
def f_unslice : SS := (seqS (setS [0, 1] 2 (opN (consM (lcM [6] (itemsM (frM (fVar 1))) (uName [0, 1] 6) (retM true) f_unslice_2) (retM [])) oTuple)) (seqS (setS [0, 1] 3 (lstM (retM []))) (seqS (forS (enuM (frM (fVar 0))) (uTup [(uName [0, 1] 4), (uName [0, 1] 5)]) f_unslice_1) (retS [0, 1] (tupM (consM (frM (fC (.str "some"))) (consM (frM (opN (consM (fVar 3) (retM [])) oTuple)) (retM []))))))))
def F_unslice : FnT := fnOf [0, 1] 2 5 f_unslice
def f__law_cell_1 : SS := (setS [0, 1] 2 (op2 (opN (consM (op2 (op2 (fVar 2) (fC (.int 31)) oMul) (op2 (opN (consM (fVar 3) (retM [])) oInt) (fC (.int 1000003)) oMod) oAdd) (retM [])) oInt) (fC (.int 1000003)) oMod))
def f__law_cell : SS := (seqS (ifS (boolE (op2 (fVar 1) (opN (consM (fVar 0) (retM [])) oLen) oLt)) (retS [0, 1] (op2 (fVar 0) (fVar 1) oIx)) nxS) (seqS (setS [0, 1] 2 (fC (.int 17))) (seqS (forS (itemsM (frM (fVar 0))) (uName [0, 1] 3) f__law_cell_1) (retS [0, 1] (op2 (opN (consM (op2 (op2 (op2 (fVar 2) (fC (.int 7)) oAdd) (op2 (fVar 1) (fC (.int 3)) oAdd) oMul) (fC (.int 69621)) oMul) (retM [])) oInt) (fC (.int 2147483647)) oMod)))))
def F__law_cell : FnT := fnOf [0, 1] 2 2 f__law_cell
def f__law_digits_1 : SS := (seqS (setS [0, 1] 4 (op2 (opN (consM (op2 (op2 (op2 (fVar 4) (fC (.int 48271)) oMul) (op2 (fC (.int 974711)) (fVar 5) oMul) oAdd) (fC (.int 12345)) oAdd) (retM [])) oInt) (fC (.int 2147483647)) oMod)) (seqS (setS [0, 1] 7 (op2 (opN (consM (op2 (fVar 4) (op2 (op2 (fVar 4) (fC (.int 65537)) oDiv) (fC (.int 3)) oAdd) oMul) (retM [])) oInt) (fC (.int 2147483629)) oMod)) (appS 2 (frM (op2 (op2 (fVar 7) (fC (.int 19)) oDiv) (op2 (fVar 1) (fVar 5) oIx) oMod)))))
def f__law_digits_2 : SS := (seqS (appS 2 (frM (op2 (opN (consM (fVar 3) (retM [])) oInt) (fVar 6) oMod))) (setS [0, 1] 3 (op2 (opN (consM (fVar 3) (retM [])) oInt) (fVar 6) oDiv)))
def f__law_digits : SS := (seqS (setS [0, 1] 2 (lstM (retM []))) (seqS (setS [0, 1] 3 (opN (consM (fVar 0) (retM [])) oInt)) (seqS (ifS (boolE (op2 (fVar 3) (op2 (fC (.int 10)) (fC (.int 18)) oPow) oGe)) (seqS (setS [0, 1] 3 (op2 (fVar 3) (op2 (fC (.int 10)) (fC (.int 18)) oPow) oSub)) (seqS (forS (itemsM (frM (fVar 1))) (uName [0, 1] 6) f__law_digits_2) (retS [0, 1] (fVar 2)))) nxS) (seqS (setS [0, 1] 4 (op2 (opN (consM (fVar 3) (retM [])) oInt) (fC (.int 2147483629)) oMod)) (seqS (forS (rng1 (opN (consM (fVar 1) (retM [])) oLen)) (uName [0, 1] 5) f__law_digits_1) (retS [0, 1] (fVar 2)))))))
def F__law_digits : FnT := fnOf [0, 1] 2 6 f__law_digits
def f__law_take : SS := (seqS (setS [0, 1, 2] 3 (op2 (opN (consM (op2 (fVar 0) (op2 (op2 (fVar 1) (fC (.int 0)) oIx) (opN (consM (fVar 0) (retM [])) oLen) oMod) oIx) (retM [])) oInt) (fVar 2) oMod)) (seqS (setG (frM (op2 (op2 (fVar 1) (fC (.int 0)) oIx) (fC (.int 1)) oAdd)) (uIx 1 (fC (.int 0)))) (retS [0, 1, 2] (fVar 3))))
def F__law_take : FnT := fnOf [0, 1, 2] 3 1 f__law_take
def f__law_words : SS := (seqS (setS [0, 1] 2 (lstM (consM (frM (lstM (consM (frM (fC (.str "a"))) (consM (frM (fC (.str "b"))) (consM (frM (fC (.str "c"))) (consM (frM (fC (.str "d"))) (retM []))))))) (consM (frM (lstM (consM (frM (fC (.str "p"))) (consM (frM (fC (.str "q1"))) (consM (frM (fC (.str "rain"))) (consM (frM (fC (.str "s"))) (retM []))))))) (consM (frM (lstM (consM (frM (fC (.str "b"))) (consM (frM (fC (.str "ba"))) (consM (frM (fC (.str "bab"))) (consM (frM (fC (.str "x9"))) (retM []))))))) (consM (frM (lstM (consM (frM (fC (.str "door"))) (consM (frM (fC (.str "key"))) (consM (frM (fC (.str "lamp"))) (consM (frM (fC (.str "z"))) (retM []))))))) (consM (frM (lstM (consM (frM (fC (.str "m1"))) (consM (frM (fC (.str "m10"))) (consM (frM (fC (.str "m2"))) (consM (frM (fC (.str "n"))) (retM []))))))) (consM (frM (lstM (consM (frM (fC (.str "card"))) (consM (frM (fC (.str "code"))) (consM (frM (fC (.str "guard"))) (consM (frM (fC (.str "night0"))) (retM []))))))) (consM (frM (lstM (consM (frM (fC (.str "r"))) (consM (frM (fC (.str "s"))) (consM (frM (fC (.str "sl"))) (consM (frM (fC (.str "t"))) (retM []))))))) (consM (frM (lstM (consM (frM (fC (.str "t"))) (consM (frM (fC (.str "u"))) (consM (frM (fC (.str "v7"))) (consM (frM (fC (.str "w"))) (retM []))))))) (consM (frM (lstM (consM (frM (fC (.str "k"))) (consM (frM (fC (.str "sk"))) (consM (frM (fC (.str "slow"))) (consM (frM (fC (.str "sm"))) (retM []))))))) (retM [])))))))))))) (retS [0, 1] (opN (consM (slM (op2 (fVar 2) (op2 (opN (consM (fVar 0) (retM [])) oInt) (fC (.int 9)) oMod) oIx) (retM none) (loM (fVar 1)) oSl) (retM [])) oTuple)))
def F__law_words : FnT := fnOf [0, 1] 2 1 f__law_words
def f__law_all_1 : M PyData := (frM (op2 (fVar 3) (tupM (consM (frM (fVar 2)) (retM []))) oAdd))
def f__law_all_2 : SS := (setS [0] 1 (op2 (fVar 1) (lcM [3] (itemsM (frM (fVar 1))) (uName [0] 3) (retM true) f__law_all_1) oAdd))
def f__law_all : SS := (seqS (setS [0] 1 (lstM (consM (frM (tupM (retM []))) (retM [])))) (seqS (forS (itemsM (frM (fVar 0))) (uName [0] 2) f__law_all_2) (retS [0] (fVar 1))))
def F__law_all : FnT := fnOf [0] 1 3 f__law_all
def f__law_below_1 : SS := (ifS (boolE (op2 (fVar 2) (fVar 1) (oInB true))) (retS [0, 1] (fC (.bool false))) nxS)
def f__law_below : SS := (seqS (forS (itemsM (frM (fVar 0))) (uName [0, 1] 2) f__law_below_1) (retS [0, 1] (fC (.bool true))))
def F__law_below : FnT := fnOf [0, 1] 2 1 f__law_below
def f__law_on_1 (self : FnT) : SS := (ifS (boolE (op2 (callM self [] (consM (fVar 2) (consM (fVar 1) (retM [])))) (op2 (op2 (fVar 0) (fC (.int 0)) oIx) (fC (.str "all")) oEq) oNe)) (retS [0, 1] (op2 (op2 (fVar 0) (fC (.int 0)) oIx) (fC (.str "all")) oNe)) nxS)
def f__law_on (self : FnT) : SS := (seqS (ifS (boolE (op2 (op2 (fVar 0) (fC (.int 0)) oIx) (fC (.str "atom")) oEq)) (retS [0, 1] (op2 (op2 (fVar 0) (fC (.int 1)) oIx) (fVar 1) (oInB false))) nxS) (seqS (ifS (boolE (op2 (op2 (fVar 0) (fC (.int 0)) oIx) (fC (.str "not")) oEq)) (retS [0, 1] (notV (callM self [] (consM (op2 (fVar 0) (fC (.int 1)) oIx) (consM (fVar 1) (retM [])))))) nxS) (seqS (forS (itemsM (frM (op2 (fVar 0) (fC (.int 1)) oIx))) (uName [0, 1] 2) (f__law_on_1 self)) (retS [0, 1] (op2 (op2 (fVar 0) (fC (.int 0)) oIx) (fC (.str "all")) oEq)))))
def F__law_on : Nat → FnT
  | 0 => fun _ => none
  | k + 1 => fnOf [0, 1] 2 1 (f__law_on (F__law_on k))
def f__law_is_name_1 : SS := (ifS (orM (boolE (op2 (op2 (fVar 0) (fVar 1) oIx) (fC (.str "abcdefghijklmnopqrstuvwxyz0123456789")) (oInB true))) (andM (boolE (op2 (fVar 1) (fC (.int 0)) oEq)) (boolE (op2 (op2 (fVar 0) (fVar 1) oIx) (fC (.str "0123456789")) (oInB false))))) (retS [0] (fC (.bool false))) nxS)
def f__law_is_name : SS := (seqS (ifS (orM (notM (truE (op1 (fVar 0) (oIsi "str")))) (orM (notM (boolE (chM (fC (.int 1)) (opN (consM (fVar 0) (retM [])) oLen) (fC (.int 8)) oLe oLe))) (boolE (op2 (fVar 0) (lstM (consM (frM (fC (.str "all"))) (consM (frM (fC (.str "some"))) (consM (frM (fC (.str "not"))) (consM (frM (fC (.str "gives"))) (retM [])))))) (oInB false))))) (retS [0] (fC (.bool false))) nxS) (seqS (forS (rng1 (opN (consM (fVar 0) (retM [])) oLen)) (uName [0] 1) f__law_is_name_1) (retS [0] (fC (.bool true)))))
def F__law_is_name : FnT := fnOf [0] 1 1 f__law_is_name
def f__law_is_formula_1 (self : FnT) : SS := (seqS (ifS (orM (notM (truE (op1 (fVar 1) (oIsi "tuple")))) (boolE (op2 (opN (consM (fVar 1) (retM [])) oLen) (fC (.int 2)) oNe))) (retS [0] (fC (.bool false))) nxS) (ifS (boolE (op2 (op2 (fVar 1) (fC (.int 0)) oIx) (fC (.str "not")) oEq)) (ifS (notM (truE (callM self [] (consM (op2 (fVar 1) (fC (.int 1)) oIx) (retM []))))) (retS [0] (fC (.bool false))) nxS) (ifS (notM (truE (callM self [] (consM (fVar 1) (retM []))))) (retS [0] (fC (.bool false))) nxS)))
def f__law_is_formula (self : FnT) : SS := (seqS (ifS (orM (notM (truE (op1 (fVar 0) (oIsi "tuple")))) (orM (boolE (op2 (opN (consM (fVar 0) (retM [])) oLen) (fC (.int 2)) oNe)) (notM (truE (op1 (op2 (fVar 0) (fC (.int 0)) oIx) (oIsi "str")))))) (retS [0] (fC (.bool false))) nxS) (seqS (ifS (boolE (op2 (op2 (fVar 0) (fC (.int 0)) oIx) (fC (.str "atom")) oEq)) (retS [0] (callM F__law_is_name [] (consM (op2 (fVar 0) (fC (.int 1)) oIx) (retM [])))) nxS) (seqS (ifS (orM (boolE (op2 (op2 (fVar 0) (fC (.int 0)) oIx) (lstM (consM (frM (fC (.str "all"))) (consM (frM (fC (.str "some"))) (retM [])))) (oInB true))) (notM (truE (op1 (op2 (fVar 0) (fC (.int 1)) oIx) (oIsi "tuple"))))) (retS [0] (fC (.bool false))) nxS) (seqS (forS (itemsM (frM (op2 (fVar 0) (fC (.int 1)) oIx))) (uName [0] 1) (f__law_is_formula_1 self)) (retS [0] (fC (.bool true)))))))
def F__law_is_formula : Nat → FnT
  | 0 => fun _ => none
  | k + 1 => fnOf [0] 1 1 (f__law_is_formula (F__law_is_formula k))
def f__law_positive_1 (self : FnT) : SS := (ifS (notM (truE (callM self [] (consM (fVar 1) (retM []))))) (retS [0] (fC (.bool false))) nxS)
def f__law_positive (self : FnT) : SS := (seqS (ifS (boolE (op2 (op2 (fVar 0) (fC (.int 0)) oIx) (fC (.str "atom")) oEq)) (retS [0] (fC (.bool true))) nxS) (seqS (ifS (boolE (op2 (op2 (fVar 0) (fC (.int 0)) oIx) (fC (.str "not")) oEq)) (retS [0] (fC (.bool false))) nxS) (seqS (forS (itemsM (frM (op2 (fVar 0) (fC (.int 1)) oIx))) (uName [0] 1) (f__law_positive_1 self)) (retS [0] (fC (.bool true))))))
def F__law_positive : Nat → FnT
  | 0 => fun _ => none
  | k + 1 => fnOf [0] 1 1 (f__law_positive (F__law_positive k))
def f__law_formula_1 (self : FnT) : SS := (seqS (setS [0, 1, 2, 3, 4] 8 (callM self [] (consM (fVar 0) (consM (fVar 1) (consM (fVar 2) (consM (op2 (fVar 3) (fC (.int 1)) oSub) (consM (fC (.int 2)) (retM [])))))))) (seqS (ifS (boolE (op2 (callM F__law_take [] (consM (fVar 0) (consM (fVar 1) (consM (fC (.int 5)) (retM []))))) (fC (.int 2)) oLt)) (setS [0, 1, 2, 3, 4] 8 (tupM (consM (frM (fC (.str "not"))) (consM (frM (fVar 8)) (retM []))))) nxS) (appS 6 (frM (fVar 8)))))
def f__law_formula (self : FnT) : SS := (seqS (setS [0, 1, 2, 3, 4] 5 (callM F__law_take [] (consM (fVar 0) (consM (fVar 1) (consM (fC (.int 10)) (retM [])))))) (seqS (ifS (andM (boolE (op2 (opN (consM (fVar 2) (retM [])) oLen) (fC (.int 0)) oGt)) (orM (boolE (op2 (fVar 3) (fC (.int 0)) oEq)) (boolE (op2 (fVar 5) (fC (.int 2)) oLt)))) (retS [0, 1, 2, 3, 4] (tupM (consM (frM (fC (.str "atom"))) (consM (frM (op2 (fVar 2) (op2 (opN (consM (callM F__law_take [] (consM (fVar 0) (consM (fVar 1) (consM (fC (.int 60)) (retM []))))) (retM [])) oInt) (opN (consM (fVar 2) (retM [])) oLen) oMod) oIx)) (retM []))))) nxS) (seqS (setS [0, 1, 2, 3, 4] 6 (lstM (retM []))) (seqS (ifS (boolE (op2 (fVar 3) (fC (.int 0)) oGt)) (forS (rng1 (opN (consM (fVar 4) (consM (op2 (lstM (consM (frM (fC (.int 2))) (consM (frM (fC (.int 2))) (consM (frM (fC (.int 3))) (consM (frM (fC (.int 2))) (consM (frM (fC (.int 1))) (consM (frM (fC (.int 2))) (consM (frM (fC (.int 3))) (consM (frM (fC (.int 3))) (consM (frM (fC (.int 2))) (consM (frM (fC (.int 2))) (consM (frM (fC (.int 3))) (consM (frM (fC (.int 0))) (retM [])))))))))))))) (callM F__law_take [] (consM (fVar 0) (consM (fVar 1) (consM (fC (.int 12)) (retM []))))) oIx) (retM []))) oMin2)) (uName [0, 1, 2, 3, 4] 7) (f__law_formula_1 self)) nxS) (retS [0, 1, 2, 3, 4] (tupM (consM (frM (op2 (lstM (consM (frM (fC (.str "all"))) (consM (frM (fC (.str "some"))) (retM [])))) (callM F__law_take [] (consM (fVar 0) (consM (fVar 1) (consM (fC (.int 2)) (retM []))))) oIx)) (consM (frM (opN (consM (fVar 6) (retM [])) oTuple)) (retM [])))))))))
def F__law_formula : Nat → FnT
  | 0 => fun _ => none
  | k + 1 => fnOf [0, 1, 2, 3, 4] 5 4 (f__law_formula (F__law_formula k))
def f__law_tower_1 : SS := (seqS (setS [0, 1, 2, 3] 6 (lstM (consM (frM (fVar 4)) (retM [])))) (seqS (ifS (boolE (op2 (callM F__law_take [] (consM (fVar 0) (consM (fVar 1) (consM (fC (.int 3)) (retM []))))) (fC (.int 0)) oGt)) (setS [0, 1, 2, 3] 6 (lstM (consM (frM (tupM (consM (frM (fC (.str "not"))) (consM (frM (fVar 4)) (retM []))))) (retM [])))) nxS) (seqS (ifS (boolE (op2 (opN (consM (fVar 2) (retM [])) oLen) (fC (.int 0)) oGt)) (seqS (setS [0, 1, 2, 3] 7 (tupM (consM (frM (fC (.str "atom"))) (consM (frM (op2 (fVar 2) (op2 (opN (consM (callM F__law_take [] (consM (fVar 0) (consM (fVar 1) (consM (fC (.int 60)) (retM []))))) (retM [])) oInt) (opN (consM (fVar 2) (retM [])) oLen) oMod) oIx)) (retM []))))) (seqS (ifS (boolE (op2 (callM F__law_take [] (consM (fVar 0) (consM (fVar 1) (consM (fC (.int 4)) (retM []))))) (fC (.int 0)) oEq)) (setS [0, 1, 2, 3] 7 (tupM (consM (frM (fC (.str "not"))) (consM (frM (fVar 7)) (retM []))))) nxS) (insS 6 (callM F__law_take [] (consM (fVar 0) (consM (fVar 1) (consM (fC (.int 2)) (retM []))))) (frM (fVar 7))))) nxS) (setS [0, 1, 2, 3] 4 (tupM (consM (frM (op2 (lstM (consM (frM (fC (.str "all"))) (consM (frM (fC (.str "some"))) (retM [])))) (callM F__law_take [] (consM (fVar 0) (consM (fVar 1) (consM (fC (.int 2)) (retM []))))) oIx)) (consM (frM (opN (consM (fVar 6) (retM [])) oTuple)) (retM []))))))))
def f__law_tower : SS := (seqS (setS [0, 1, 2, 3] 4 (tupM (consM (frM (op2 (lstM (consM (frM (fC (.str "all"))) (consM (frM (fC (.str "some"))) (retM [])))) (callM F__law_take [] (consM (fVar 0) (consM (fVar 1) (consM (fC (.int 2)) (retM []))))) oIx)) (consM (frM (tupM (retM []))) (retM []))))) (seqS (ifS (boolE (op2 (opN (consM (fVar 2) (retM [])) oLen) (fC (.int 0)) oGt)) (setS [0, 1, 2, 3] 4 (tupM (consM (frM (fC (.str "atom"))) (consM (frM (op2 (fVar 2) (op2 (opN (consM (callM F__law_take [] (consM (fVar 0) (consM (fVar 1) (consM (fC (.int 60)) (retM []))))) (retM [])) oInt) (opN (consM (fVar 2) (retM [])) oLen) oMod) oIx)) (retM []))))) nxS) (seqS (forS (rng1 (op2 (fVar 3) (opN (consM (op2 (opN (consM (fVar 2) (retM [])) oLen) (fC (.int 0)) oEq) (retM [])) oInt) oSub)) (uName [0, 1, 2, 3] 5) f__law_tower_1) (retS [0, 1, 2, 3] (fVar 4)))))
def F__law_tower : FnT := fnOf [0, 1, 2, 3] 4 4 f__law_tower
def f__law_exactly_1 : SS := (ifS (boolE (op2 (fVar 3) (fVar 0) (oInB false))) (appS 2 (frM (tupM (consM (frM (fC (.str "atom"))) (consM (frM (fVar 3)) (retM [])))))) (appS 2 (frM (tupM (consM (frM (fC (.str "not"))) (consM (frM (tupM (consM (frM (fC (.str "atom"))) (consM (frM (fVar 3)) (retM []))))) (retM [])))))))
def f__law_exactly : SS := (seqS (setS [0, 1] 2 (lstM (retM []))) (seqS (forS (itemsM (frM (fVar 1))) (uName [0, 1] 3) f__law_exactly_1) (retS [0, 1] (tupM (consM (frM (fC (.str "all"))) (consM (frM (opN (consM (fVar 2) (retM [])) oTuple)) (retM [])))))))
def F__law_exactly : FnT := fnOf [0, 1] 2 2 f__law_exactly
def f__law_form_1 : M PyData := (frM (tupM (consM (frM (fC (.str "atom"))) (consM (frM (fVar 5)) (retM [])))))
def f__law_form_2 : M Bool := (andM (boolE (op2 (fVar 4) (fVar 2) oNe)) (truE (callM F__law_below [] (consM (fVar 4) (consM (fVar 2) (retM []))))))
def f__law_form_3 : M PyData := (frM (fVar 4))
def f__law_form_4 : SS := (seqS (setS [0] 3 (lcM [4] (itemsM (frM (fVar 0))) (uName [0] 4) f__law_form_2 f__law_form_3)) (ifS (boolE (op2 (opN (consM (fVar 3) (retM [])) oLen) (fC (.int 0)) oEq)) (appS 1 (frM (tupM (consM (frM (fC (.str "all"))) (consM (frM (opN (consM (lcM [5] (itemsM (frM (fVar 2))) (uName [0] 5) (retM true) f__law_form_1) (retM [])) oTuple)) (retM [])))))) nxS))
def f__law_form : SS := (seqS (setS [0] 1 (lstM (retM []))) (seqS (forS (itemsM (frM (fVar 0))) (uName [0] 2) f__law_form_4) (retS [0] (tupM (consM (frM (fC (.str "some"))) (consM (frM (opN (consM (fVar 1) (retM [])) oTuple)) (retM [])))))))
def F__law_form : FnT := fnOf [0] 1 5 f__law_form
def f__law_by_bits_1 : SS := (seqS (setS [0, 1, 2, 3] 10 (callM F__law_exactly [] (consM (op2 (fVar 4) (op2 (opN (consM (fVar 9) (retM [])) oInt) (fC (.int 16)) oMod) oIx) (consM (fVar 0) (retM []))))) (ifS (andM (boolE (op2 (fVar 10) (fVar 7) (oInB true))) (boolE (op2 (fVar 10) (fVar 8) (oInB true)))) (ifS (truE (callM (F__law_on fuel) [] (consM (fVar 6) (consM (op2 (fVar 4) (op2 (opN (consM (fVar 9) (retM [])) oInt) (fC (.int 16)) oMod) oIx) (retM []))))) (appS 7 (frM (fVar 10))) (appS 8 (frM (fVar 10)))) nxS))
def f__law_by_bits_2 : M PyData := (frM (callM F__law_exactly [] (consM (fVar 13) (consM (fVar 0) (retM [])))))
def f__law_by_bits_3 : M PyData := (frM (callM F__law_exactly [] (consM (fVar 13) (consM (fVar 0) (retM [])))))
def f__law_by_bits_4 : M Bool := (boolE (op2 (fVar 13) (fVar 5) (oInB true)))
def f__law_by_bits_5 : M PyData := (frM (fVar 13))
def f__law_by_bits_6 : M Bool := (boolE (op2 (op2 (fVar 1) (fVar 12) oIx) (fC (.int 1)) oEq))
def f__law_by_bits_7 : M PyData := (frM (op2 (fVar 4) (fVar 12) oIx))
def f__law_by_bits : SS := (seqS (setS [0, 1, 2, 3] 4 (callM F__law_all [] (consM (fVar 0) (retM [])))) (seqS (setS [0, 1, 2, 3] 5 (lcM [12] (rng1 (opN (consM (fVar 4) (retM [])) oLen)) (uName [0, 1, 2, 3] 12) f__law_by_bits_6 f__law_by_bits_7)) (seqS (ifS (boolE (op2 (opN (consM (fVar 0) (retM [])) oLen) (fC (.int 4)) oLt)) (seqS (ifS (truE (fVar 3)) (seqS (setS [0, 1, 2, 3] 11 (lcM [13] (itemsM (frM (fVar 4))) (uName [0, 1, 2, 3] 13) f__law_by_bits_4 f__law_by_bits_5)) (retS [0, 1, 2, 3] (tupM (consM (frM (fC (.str "all"))) (consM (frM (tupM (consM (frM (tupM (consM (frM (fC (.str "not"))) (consM (frM (tupM (consM (frM (fC (.str "some"))) (consM (frM (opN (consM (lcM [13] (itemsM (frM (fVar 11))) (uName [0, 1, 2, 3] 13) (retM true) f__law_by_bits_3) (retM [])) oTuple)) (retM []))))) (retM []))))) (retM [])))) (retM [])))))) nxS) (retS [0, 1, 2, 3] (tupM (consM (frM (fC (.str "some"))) (consM (frM (opN (consM (lcM [13] (itemsM (frM (fVar 5))) (uName [0, 1, 2, 3] 13) (retM true) f__law_by_bits_2) (retM [])) oTuple)) (retM [])))))) nxS) (seqS (setS [0, 1, 2, 3] 6 (callM F__law_form [] (consM (fVar 5) (retM [])))) (seqS (setS [0, 1, 2, 3] 7 (lstM (retM []))) (seqS (setS [0, 1, 2, 3] 8 (lstM (retM []))) (seqS (forS (itemsM (frM (fVar 2))) (uName [0, 1, 2, 3] 9) f__law_by_bits_1) (retS [0, 1, 2, 3] (tupM (consM (frM (fC (.str "some"))) (consM (frM (op2 (tupM (consM (frM (tupM (consM (frM (fC (.str "all"))) (consM (frM (tupM (consM (frM (fVar 6)) (consM (frM (tupM (consM (frM (fC (.str "not"))) (consM (frM (tupM (consM (frM (fC (.str "some"))) (consM (frM (opN (consM (fVar 7) (retM [])) oTuple)) (retM []))))) (retM []))))) (retM []))))) (retM []))))) (retM []))) (opN (consM (fVar 8) (retM [])) oTuple) oAdd)) (retM []))))))))))))
def F__law_by_bits : FnT := fnOf [0, 1, 2, 3] 4 10 f__law_by_bits
def f__law_grown_1 : M Bool := (boolE (op2 (fVar 9) (fVar 4) (oInB true)))
def f__law_grown_2 : M PyData := (frM (tupM (consM (frM (fC (.str "atom"))) (consM (frM (fVar 9)) (retM [])))))
def f__law_grown_3 : M Bool := (andM (boolE (op2 (fVar 8) (fVar 4) oNe)) (truE (callM F__law_below [] (consM (fVar 4) (consM (fVar 8) (retM []))))))
def f__law_grown_4 : M PyData := (frM (fVar 8))
def f__law_grown_5 : SS := (seqS (setS [0, 1, 2] 7 (lcM [8] (itemsM (frM (fVar 5))) (uName [0, 1, 2] 8) f__law_grown_3 f__law_grown_4)) (ifS (boolE (op2 (opN (consM (fVar 7) (retM [])) oLen) (fC (.int 0)) oEq)) (appS 6 (frM (tupM (consM (frM (fC (.str "some"))) (consM (frM (opN (consM (lcM [9] (itemsM (frM (fVar 1))) (uName [0, 1, 2] 9) f__law_grown_1 f__law_grown_2) (retM [])) oTuple)) (retM [])))))) nxS))
def f__law_grown_6 : M Bool := (boolE (op2 (fVar 4) (fVar 0) (oInB true)))
def f__law_grown_7 : M PyData := (frM (fVar 4))
def f__law_grown_8 : M PyData := (frM (tupM (consM (frM (fC (.str "atom"))) (consM (frM (fVar 9)) (retM [])))))
def f__law_grown_9 : SS := (insS 3 (fC (.int 0)) (frM (tupM (consM (frM (fC (.str "all"))) (consM (frM (opN (consM (lcM [9] (itemsM (frM (fVar 4))) (uName [0, 1, 2] 9) (retM true) f__law_grown_8) (retM [])) oTuple)) (retM []))))))
def f__law_grown : SS := (seqS (ifS (boolE (op2 (fVar 2) (fC (.int 0)) oEq)) (retS [0, 1, 2] (callM F__law_form [] (consM (fVar 0) (retM [])))) nxS) (seqS (ifS (boolE (op2 (fVar 2) (fC (.int 1)) oEq)) (seqS (setS [0, 1, 2] 3 (lstM (retM []))) (seqS (forS (itemsM (frM (fVar 0))) (uName [0, 1, 2] 4) f__law_grown_9) (retS [0, 1, 2] (tupM (consM (frM (fC (.str "some"))) (consM (frM (opN (consM (fVar 3) (retM [])) oTuple)) (retM []))))))) nxS) (seqS (ifS (boolE (op2 (fVar 2) (fC (.int 2)) oEq)) (seqS (setS [0, 1, 2] 5 (lcM [4] (itemsM (frM (callM F__law_all [] (consM (fVar 1) (retM []))))) (uName [0, 1, 2] 4) f__law_grown_6 f__law_grown_7)) (seqS (setS [0, 1, 2] 6 (lstM (retM []))) (seqS (forS (itemsM (frM (fVar 5))) (uName [0, 1, 2] 4) f__law_grown_5) (retS [0, 1, 2] (tupM (consM (frM (fC (.str "all"))) (consM (frM (opN (consM (fVar 6) (retM [])) oTuple)) (retM [])))))))) nxS) (retS [0, 1, 2] (tupM (consM (frM (fC (.str "all"))) (consM (frM (tupM (consM (frM (tupM (consM (frM (fC (.str "some"))) (consM (frM (tupM (consM (frM (callM F__law_form [] (consM (fVar 0) (retM [])))) (consM (frM (tupM (consM (frM (fC (.str "some"))) (consM (frM (tupM (retM []))) (retM []))))) (retM []))))) (retM []))))) (consM (frM (tupM (consM (frM (fC (.str "all"))) (consM (frM (tupM (retM []))) (retM []))))) (retM []))))) (retM []))))))))
def F__law_grown : FnT := fnOf [0, 1, 2] 3 7 f__law_grown
def f__law_fit_1 : SS := (ifS (andM (boolE (op2 (opN (consM (fVar 3) (retM [])) oLen) (fVar 2) oNe)) (boolE (op2 (callM (F__law_on fuel) [] (consM (fVar 0) (consM (fVar 3) (retM [])))) (op2 (opN (consM (fVar 3) (retM [])) oLen) (fVar 2) oGt) oNe))) (retS [0, 1, 2] (fC (.bool false))) nxS)
def f__law_fit : SS := (seqS (forS (itemsM (frM (callM F__law_all [] (consM (fVar 1) (retM []))))) (uName [0, 1, 2] 3) f__law_fit_1) (retS [0, 1, 2] (fC (.bool true))))
def F__law_fit : FnT := fnOf [0, 1, 2] 3 1 f__law_fit
def f__law_row_fits_1 : SS := (ifS (notM (truE (callM F__law_fit [] (consM (op2 (fVar 0) (fVar 2) oIx) (consM (fVar 1) (consM (fVar 2) (retM []))))))) (retS [0, 1] (fC (.bool false))) nxS)
def f__law_row_fits : SS := (seqS (ifS (boolE (op2 (opN (consM (fVar 0) (retM [])) oLen) (op2 (opN (consM (fVar 1) (retM [])) oLen) (fC (.int 1)) oAdd) oNe)) (retS [0, 1] (fC (.bool false))) nxS) (seqS (forS (rng1 (opN (consM (fVar 0) (retM [])) oLen)) (uName [0, 1] 2) f__law_row_fits_1) (retS [0, 1] (fC (.bool true)))))
def F__law_row_fits : FnT := fnOf [0, 1] 2 1 f__law_row_fits
def f__law_at_least (self : FnT) : SS := (seqS (ifS (boolE (op2 (fVar 2) (fC (.int 0)) oEq)) (retS [0, 1, 2] (tupM (consM (frM (fC (.str "all"))) (consM (frM (tupM (retM []))) (retM []))))) nxS) (seqS (ifS (boolE (op2 (fVar 2) (fVar 1) oGt)) (retS [0, 1, 2] (tupM (consM (frM (fC (.str "some"))) (consM (frM (tupM (retM []))) (retM []))))) nxS) (seqS (setS [0, 1, 2] 3 (tupM (consM (frM (fC (.str "all"))) (consM (frM (tupM (consM (frM (tupM (consM (frM (fC (.str "atom"))) (consM (frM (op2 (fVar 0) (op2 (fVar 1) (fC (.int 1)) oSub) oIx)) (retM []))))) (consM (frM (callM self [] (consM (fVar 0) (consM (op2 (fVar 1) (fC (.int 1)) oSub) (consM (op2 (fVar 2) (fC (.int 1)) oSub) (retM [])))))) (retM []))))) (retM []))))) (retS [0, 1, 2] (tupM (consM (frM (fC (.str "some"))) (consM (frM (tupM (consM (frM (callM self [] (consM (fVar 0) (consM (op2 (fVar 1) (fC (.int 1)) oSub) (consM (fVar 2) (retM [])))))) (consM (frM (fVar 3)) (retM []))))) (retM []))))))))
def F__law_at_least : Nat → FnT
  | 0 => fun _ => none
  | k + 1 => fnOf [0, 1, 2] 3 1 (f__law_at_least (F__law_at_least k))
def f__law_told_formula : SS := (retS [0, 1] (andV (callM (F__law_is_formula fuel) [] (consM (fVar 0) (retM []))) (op2 (fVar 0) (fVar 1) oEq)))
def F__law_told_formula : FnT := fnOf [0, 1] 2 0 f__law_told_formula
def f__law_told_row_1 : SS := (ifS (notM (truE (callM F__law_told_formula [] (consM (op2 (fVar 0) (fVar 2) oIx) (consM (op2 (fVar 1) (fVar 2) oIx) (retM [])))))) (retS [0, 1] (fC (.bool false))) nxS)
def f__law_told_row : SS := (seqS (ifS (orM (notM (truE (op1 (fVar 0) (oIsi "tuple")))) (boolE (op2 (opN (consM (fVar 0) (retM [])) oLen) (opN (consM (fVar 1) (retM [])) oLen) oNe))) (retS [0, 1] (fC (.bool false))) nxS) (seqS (forS (rng1 (opN (consM (fVar 1) (retM [])) oLen)) (uName [0, 1] 2) f__law_told_row_1) (retS [0, 1] (fC (.bool true)))))
def F__law_told_row : FnT := fnOf [0, 1] 2 1 f__law_told_row
def f__law_lots_1 : SS := (ifS (orM (boolE (op2 (opN (consM (op2 (fVar 2) (fVar 6) oIx) (retM [])) oLen) (fVar 4) oGt)) (andM (boolE (op2 (opN (consM (op2 (fVar 2) (fVar 6) oIx) (retM [])) oLen) (fVar 4) oEq)) (boolE (op2 (op2 (fVar 1) (fVar 6) oIx) (fC (.int 1)) oEq)))) (appS 5 (frM (op2 (fVar 2) (fVar 6) oIx))) nxS)
def f__law_lots_2 : SS := (seqS (setS [0, 1] 5 (lstM (retM []))) (seqS (forS (rng1 (opN (consM (fVar 2) (retM [])) oLen)) (uName [0, 1] 6) f__law_lots_1) (appS 3 (frM (fVar 5)))))
def f__law_lots : SS := (seqS (setS [0, 1] 2 (callM F__law_all [] (consM (fVar 0) (retM [])))) (seqS (setS [0, 1] 3 (lstM (retM []))) (seqS (forS (rng1 (op2 (opN (consM (fVar 0) (retM [])) oLen) (fC (.int 1)) oAdd)) (uName [0, 1] 4) f__law_lots_2) (retS [0, 1] (fVar 3)))))
def F__law_lots : FnT := fnOf [0, 1] 2 5 f__law_lots
def f__law_spoilt_1 : M Bool := (orM (boolE (op2 (fVar 13) (op2 (fVar 1) (fVar 11) oIx) (oInB false))) (truE (callM F__law_below [] (consM (fVar 10) (consM (fVar 13) (retM []))))))
def f__law_spoilt_2 : M PyData := (frM (fVar 13))
def f__law_spoilt_3 : M Bool := (notM (truE (callM F__law_below [] (consM (fVar 13) (consM (fVar 10) (retM []))))))
def f__law_spoilt_4 : M PyData := (frM (fVar 13))
def f__law_spoilt : SS := (seqS (setS [0, 1, 2, 3] 4 (opN (consM (fVar 0) (retM [])) oLen)) (seqS (setS [0, 1, 2, 3] 5 (callM F__law_all [] (consM (fVar 2) (retM [])))) (seqS (setS [0, 1, 2, 3] 6 (op2 (opN (consM (op2 (fVar 3) (fC (.int 0)) oIx) (retM [])) oInt) (fVar 4) oMod)) (seqS (setS [0, 1, 2, 3] 7 (op2 (opN (consM (op2 (fVar 3) (fC (.int 1)) oIx) (retM [])) oInt) (fVar 4) oMod)) (seqS (setS [0, 1, 2, 3] 8 (opN (consM (fVar 0) (retM [])) oList)) (seqS (setG (frM (op2 (fVar 0) (fVar 7) oIx)) (uIx 8 (fVar 6))) (seqS (setG (frM (op2 (fVar 0) (fVar 6) oIx)) (uIx 8 (fVar 7))) (seqS (setS [0, 1, 2, 3] 9 (lstM (consM (frM (opN (consM (fVar 8) (retM [])) oTuple)) (consM (frM (op2 (slM (fVar 0) (retM none) (loM (fVar 6)) oSl) (slM (fVar 0) (loM (op2 (fVar 6) (fC (.int 1)) oAdd)) (retM none) oSl) oAdd)) (retM []))))) (seqS (ifS (boolE (op2 (op2 (opN (consM (op2 (fVar 3) (fC (.int 2)) oIx) (retM [])) oInt) (fC (.int 2)) oMod) (fC (.int 0)) oEq)) (appS 9 (frM (op2 (fVar 0) (tupM (consM (frM (tupM (consM (frM (fC (.str "some"))) (consM (frM (tupM (retM []))) (retM []))))) (retM []))) oAdd))) (appS 9 (frM (op2 (op2 (slM (fVar 0) (retM none) (loM (fVar 7)) oSl) (tupM (consM (frM (op2 (fVar 0) (fVar 7) oIx)) (retM []))) oAdd) (slM (fVar 0) (loM (fVar 7)) (retM none) oSl) oAdd)))) (seqS (setS [0, 1, 2, 3] 10 (op2 (fVar 5) (op2 (opN (consM (op2 (fVar 3) (fC (.int 3)) oIx) (retM [])) oInt) (opN (consM (fVar 5) (retM [])) oLen) oMod) oIx)) (seqS (ifS (boolE (op2 (opN (consM (fVar 10) (retM [])) oLen) (fC (.int 0)) oGt)) (seqS (setS [0, 1, 2, 3] 11 (op2 (opN (consM (op2 (fVar 3) (fC (.int 4)) oIx) (retM [])) oInt) (opN (consM (fVar 10) (retM [])) oLen) oMod)) (seqS (ifS (boolE (op2 (op2 (opN (consM (op2 (fVar 3) (fC (.int 5)) oIx) (retM [])) oInt) (fC (.int 3)) oMod) (fC (.int 0)) oGt)) (setS [0, 1, 2, 3] 11 (op2 (opN (consM (fVar 10) (retM [])) oLen) (fC (.int 1)) oSub)) nxS) (seqS (setS [0, 1, 2, 3] 12 (lcM [13] (itemsM (frM (op2 (fVar 1) (fVar 11) oIx))) (uName [0, 1, 2, 3] 13) f__law_spoilt_3 f__law_spoilt_4)) (appS 9 (frM (op2 (op2 (slM (fVar 0) (retM none) (loM (fVar 11)) oSl) (tupM (consM (frM (callM F__law_grown [] (consM (fVar 12) (consM (fVar 2) (consM (op2 (opN (consM (op2 (fVar 3) (fC (.int 6)) oIx) (retM [])) oInt) (fC (.int 4)) oMod) (retM [])))))) (retM []))) oAdd) (slM (fVar 0) (loM (op2 (fVar 11) (fC (.int 1)) oAdd)) (retM none) oSl) oAdd)))))) nxS) (seqS (setS [0, 1, 2, 3] 10 (op2 (fVar 5) (op2 (opN (consM (op2 (fVar 3) (fC (.int 7)) oIx) (retM [])) oInt) (opN (consM (fVar 5) (retM [])) oLen) oMod) oIx)) (seqS (ifS (boolE (op2 (opN (consM (fVar 10) (retM [])) oLen) (opN (consM (fVar 2) (retM [])) oLen) oLt)) (seqS (setS [0, 1, 2, 3] 11 (op2 (op2 (opN (consM (fVar 10) (retM [])) oLen) (fC (.int 1)) oAdd) (op2 (opN (consM (op2 (fVar 3) (fC (.int 4)) oIx) (retM [])) oInt) (op2 (opN (consM (fVar 2) (retM [])) oLen) (opN (consM (fVar 10) (retM [])) oLen) oSub) oMod) oAdd)) (seqS (ifS (boolE (op2 (op2 (opN (consM (op2 (fVar 3) (fC (.int 5)) oIx) (retM [])) oInt) (fC (.int 4)) oMod) (fC (.int 0)) oGt)) (setS [0, 1, 2, 3] 11 (op2 (opN (consM (fVar 10) (retM [])) oLen) (fC (.int 1)) oAdd)) nxS) (seqS (setS [0, 1, 2, 3] 12 (lcM [13] (itemsM (frM (fVar 5))) (uName [0, 1, 2, 3] 13) f__law_spoilt_1 f__law_spoilt_2)) (appS 9 (frM (op2 (op2 (slM (fVar 0) (retM none) (loM (fVar 11)) oSl) (tupM (consM (frM (callM F__law_grown [] (consM (fVar 12) (consM (fVar 2) (consM (op2 (opN (consM (op2 (fVar 3) (fC (.int 6)) oIx) (retM [])) oInt) (fC (.int 4)) oMod) (retM [])))))) (retM []))) oAdd) (slM (fVar 0) (loM (op2 (fVar 11) (fC (.int 1)) oAdd)) (retM none) oSl) oAdd)))))) nxS) (retS [0, 1, 2, 3] (fVar 9)))))))))))))))
def F__law_spoilt : FnT := fnOf [0, 1, 2, 3] 4 10 f__law_spoilt
def f__law_one : SS := (seqS (setS [0, 1] 2 (callM F__law_digits [] (consM (callM F__law_cell [] (consM (fVar 0) (consM (fC (.int 1)) (retM [])))) (consM (op2 (lstM (consM (frM (fC (.int 60))) (retM []))) (fC (.int 48)) oMul) (retM []))))) (seqS (setS [0, 1] 3 (lstM (consM (frM (fC (.int 0))) (retM [])))) (seqS (setS [0, 1] 4 (callM F__law_take [] (consM (fVar 2) (consM (fVar 3) (consM (fC (.int 6)) (retM [])))))) (seqS (ifS (boolE (op2 (fVar 4) (fC (.int 2)) oLt)) (retS [0, 1] (callM (F__law_formula fuel) [] (consM (fVar 2) (consM (fVar 3) (consM (fVar 1) (consM (fC (.int 3)) (consM (fC (.int 3)) (retM [])))))))) nxS) (seqS (ifS (boolE (op2 (fVar 4) (fC (.int 2)) oEq)) (retS [0, 1] (callM F__law_tower [] (consM (fVar 2) (consM (fVar 3) (consM (fVar 1) (consM (op2 (lstM (consM (frM (fC (.int 8))) (consM (frM (fC (.int 3))) (consM (frM (fC (.int 5))) (consM (frM (fC (.int 7))) (consM (frM (fC (.int 8))) (consM (frM (fC (.int 6))) (retM [])))))))) (callM F__law_take [] (consM (fVar 2) (consM (fVar 3) (consM (fC (.int 6)) (retM []))))) oIx) (retM []))))))) nxS) (seqS (setS [0, 1] 5 (callM F__law_digits [] (consM (callM F__law_cell [] (consM (fVar 0) (consM (fC (.int 2)) (retM [])))) (consM (op2 (lstM (consM (frM (fC (.int 2))) (retM []))) (fC (.int 16)) oMul) (retM []))))) (retS [0, 1] (callM F__law_by_bits [] (consM (fVar 1) (consM (fVar 5) (consM (slM (fVar 2) (loM (fC (.int 5))) (loM (fC (.int 8))) oSl) (consM (op2 (fVar 4) (fC (.int 3)) oEq) (retM [])))))))))))))
def F__law_one : FnT := fnOf [0, 1] 2 4 f__law_one
def f_law_1 : M PyData := (frM (callM F__law_form [] (consM (fVar 15) (retM []))))
def f_law_2 : SS := (ifS (boolE (op2 (callM (F__law_on fuel) [] (consM (fVar 14) (consM (fVar 7) (retM [])))) (callM (F__law_on fuel) [] (consM (op2 (fVar 11) (opN (consM (fVar 7) (retM [])) oLen) oIx) (consM (fVar 7) (retM [])))) oNe)) (retS [0] (fC (.bool false))) nxS)
def f_law_3 : SS := (appS 13 (frM (tupM (consM (frM (fC (.str "all"))) (consM (frM (tupM (consM (frM (op2 (fVar 11) (fVar 6) oIx)) (consM (frM (tupM (consM (frM (fC (.str "not"))) (consM (frM (callM (F__law_at_least fuel) [] (consM (fVar 2) (consM (opN (consM (fVar 2) (retM [])) oLen) (consM (op2 (fVar 6) (fC (.int 1)) oAdd) (retM [])))))) (retM []))))) (retM []))))) (retM []))))))
def f_law_4 : SS := (seqS (setS [0] 16 (callM F_are_slices [] (consM (fVar 12) (consM (fVar 2) (retM []))))) (ifS (orM (notM (truE (op1 (fVar 16) (oIsi "bool")))) (boolE (op2 (fVar 16) (callM F__law_row_fits [] (consM (fVar 12) (consM (fVar 2) (retM [])))) oNe))) (retS [0] (fC (.bool false))) nxS))
def f_law_5 : M PyData := (frM (callM F__law_grown [] (consM (op2 (fVar 10) (fVar 6) oIx) (consM (fVar 2) (consM (op2 (fVar 9) (fVar 6) oIx) (retM []))))))
def f_law_6 : SS := (ifS (boolE (op2 (callM (F__law_on fuel) [] (consM (fVar 4) (consM (fVar 7) (retM [])))) (callM (F__law_on fuel) [] (consM (op2 (fVar 5) (opN (consM (fVar 7) (retM [])) oLen) oIx) (consM (fVar 7) (retM [])))) oNe)) (retS [0] (fC (.bool false))) nxS)
def f_law_7 : SS := (ifS (orM (notM (truE (callM F__law_told_formula [] (consM (callM F_slice_of [] (consM (fVar 4) (consM (fVar 2) (consM (fVar 6) (retM []))))) (consM (op2 (fVar 5) (fVar 6) oIx) (retM [])))))) (notM (truE (callM (F__law_positive fuel) [] (consM (op2 (fVar 5) (fVar 6) oIx) (retM [])))))) (retS [0] (fC (.bool false))) nxS)
def f_law_8 : M Bool := (orM (boolE (op2 (opN (consM (fVar 7) (retM [])) oLen) (fVar 6) oGt)) (andM (boolE (op2 (opN (consM (fVar 7) (retM [])) oLen) (fVar 6) oEq)) (truE (callM (F__law_on fuel) [] (consM (fVar 4) (consM (fVar 7) (retM [])))))))
def f_law_9 : M PyData := (frM (fVar 7))
def f_law_10 : SS := (seqS (setS [0] 15 (lcM [7] (itemsM (frM (fVar 3))) (uName [0] 7) f_law_8 f_law_9)) (appS 5 (frM (callM F__law_form [] (consM (fVar 15) (retM []))))))
def f_law : SS := (seqS (setS [0] 1 (callM F__law_digits [] (consM (callM F__law_cell [] (consM (fVar 0) (consM (fC (.int 0)) (retM [])))) (consM (op2 (lstM (consM (frM (fC (.int 12))) (consM (frM (fC (.int 9))) (retM [])))) (op2 (lstM (consM (frM (fC (.int 60))) (retM []))) (fC (.int 10)) oMul) oAdd) (retM []))))) (seqS (setS [0] 2 (callM F__law_words [] (consM (op2 (fVar 1) (fC (.int 1)) oIx) (consM (op2 (lstM (consM (frM (fC (.int 2))) (consM (frM (fC (.int 3))) (consM (frM (fC (.int 1))) (consM (frM (fC (.int 4))) (consM (frM (fC (.int 3))) (consM (frM (fC (.int 2))) (consM (frM (fC (.int 0))) (consM (frM (fC (.int 3))) (consM (frM (fC (.int 4))) (consM (frM (fC (.int 4))) (consM (frM (fC (.int 3))) (consM (frM (fC (.int 2))) (retM [])))))))))))))) (op2 (fVar 1) (fC (.int 0)) oIx) oIx) (retM []))))) (seqS (setS [0] 3 (callM F__law_all [] (consM (fVar 2) (retM [])))) (seqS (setS [0] 4 (callM F__law_one [] (consM (fVar 0) (consM (fVar 2) (retM []))))) (seqS (setS [0] 5 (lstM (retM []))) (seqS (forS (rng1 (op2 (opN (consM (fVar 2) (retM [])) oLen) (fC (.int 1)) oAdd)) (uName [0] 6) f_law_10) (seqS (setS [0] 5 (opN (consM (fVar 5) (retM [])) oTuple)) (seqS (forS (rng1 (opN (consM (fVar 5) (retM [])) oLen)) (uName [0] 6) f_law_7) (seqS (ifS (orM (notM (truE (callM F__law_told_row [] (consM (callM F_slices_of [] (consM (fVar 4) (consM (fVar 2) (retM [])))) (consM (fVar 5) (retM [])))))) (boolE (op2 (callM F_are_slices [] (consM (fVar 5) (consM (fVar 2) (retM [])))) (fC (.bool true)) (oIsB true)))) (retS [0] (fC (.bool false))) nxS) (seqS (forS (itemsM (frM (fVar 3))) (uName [0] 7) f_law_6) (seqS (setS [0] 8 (callM F__law_digits [] (consM (callM F__law_cell [] (consM (fVar 0) (consM (fC (.int 3)) (retM [])))) (consM (op2 (lstM (consM (frM (fC (.int 2))) (retM []))) (fC (.int 16)) oMul) (retM []))))) (seqS (setS [0] 9 (callM F__law_digits [] (consM (callM F__law_cell [] (consM (fVar 0) (consM (fC (.int 4)) (retM [])))) (consM (op2 (lstM (consM (frM (fC (.int 4))) (retM []))) (fC (.int 5)) oMul) (retM []))))) (seqS (setS [0] 10 (callM F__law_lots [] (consM (fVar 2) (consM (fVar 8) (retM []))))) (seqS (setS [0] 11 (opN (consM (lcM [6] (rng1 (opN (consM (fVar 10) (retM [])) oLen)) (uName [0] 6) (retM true) f_law_5) (retM [])) oTuple)) (seqS (ifS (boolE (op2 (callM F_are_slices [] (consM (fVar 11) (consM (fVar 2) (retM [])))) (fC (.bool true)) (oIsB true))) (retS [0] (fC (.bool false))) nxS) (seqS (forS (itemsM (frM (callM F__law_spoilt [] (consM (fVar 11) (consM (fVar 10) (consM (fVar 2) (consM (slM (fVar 1) (loM (fC (.int 2))) (loM (fC (.int 10))) oSl) (retM [])))))))) (uName [0] 12) f_law_4) (seqS (setS [0] 13 (lstM (retM []))) (seqS (forS (rng1 (opN (consM (fVar 11) (retM [])) oLen)) (uName [0] 6) f_law_3) (seqS (setS [0] 14 (callM F_unslice [] (consM (fVar 11) (consM (fVar 2) (retM []))))) (seqS (ifS (orM (notM (truE (callM F__law_told_formula [] (consM (fVar 14) (consM (tupM (consM (frM (fC (.str "some"))) (consM (frM (opN (consM (fVar 13) (retM [])) oTuple)) (retM [])))) (retM [])))))) (boolE (op2 (callM F_unslice [] (consM (fVar 11) (consM (fVar 2) (retM [])))) (fVar 14) oNe))) (retS [0] (fC (.bool false))) nxS) (seqS (forS (itemsM (frM (fVar 3))) (uName [0] 7) f_law_2) (seqS (ifS (notM (truE (callM F__law_told_row [] (consM (callM F_slices_of [] (consM (fVar 14) (consM (fVar 2) (retM [])))) (consM (opN (consM (lcM [15] (itemsM (frM (fVar 10))) (uName [0] 15) (retM true) f_law_1) (retM [])) oTuple) (retM [])))))) (retS [0] (fC (.bool false))) nxS) (seqS (setS [0] 6 (op2 (opN (consM (op2 (fVar 1) (fC (.int 10)) oIx) (retM [])) oInt) (opN (consM (fVar 5) (retM [])) oLen) oMod)) (retS [0] (callM F__law_told_formula [] (consM (callM F_slice_of [] (consM (fVar 4) (consM (fVar 2) (consM (fVar 6) (retM []))))) (consM (op2 (fVar 5) (fVar 6) oIx) (retM []))))))))))))))))))))))))))))
def F_law : FnT := fnOf [0] 1 16 f_law
end K89

/-! The derivations of the defs (printed) -/
namespace K89
open PySem PySem.Spec PyProof.Rows L2 FN GX GxR
def top (i : Nat) : Stmt := PySem.Challenge.pw_nevernot_k89_slices_there_and_back.main.body.getD i (.Pass ⟨0, 0, 0, 0⟩)
abbrev s_is_name : Stmt := top 9
abbrev s_make_atom : Stmt := top 10
abbrev s_at_least : Stmt := top 12
abbrev s_is_on : Stmt := top 14
abbrev s_is_below : Stmt := top 15
abbrev s_all_worlds : Stmt := top 16
abbrev s_signature_of : Stmt := top 18
abbrev s_least_of : Stmt := top 19
abbrev s_world_term : Stmt := top 20
abbrev s_form_of : Stmt := top 21
abbrev s_slice_is_on : Stmt := top 23
abbrev s_slice_of : Stmt := top 24
abbrev s_slices_of : Stmt := top 25
abbrev s_can_be_slice : Stmt := top 26
abbrev s_are_slices : Stmt := top 27
abbrev s_unslice : Stmt := top 28
abbrev s__law_cell : Stmt := top 30
abbrev s__law_digits : Stmt := top 31
abbrev s__law_take : Stmt := top 32
abbrev s__law_words : Stmt := top 33
abbrev s__law_all : Stmt := top 34
abbrev s__law_below : Stmt := top 35
abbrev s__law_on : Stmt := top 36
abbrev s__law_is_name : Stmt := top 37
abbrev s__law_is_formula : Stmt := top 38
abbrev s__law_positive : Stmt := top 39
abbrev s__law_formula : Stmt := top 40
abbrev s__law_tower : Stmt := top 41
abbrev s__law_exactly : Stmt := top 42
abbrev s__law_form : Stmt := top 43
abbrev s__law_by_bits : Stmt := top 44
abbrev s__law_grown : Stmt := top 45
abbrev s__law_fit : Stmt := top 46
abbrev s__law_row_fits : Stmt := top 47
abbrev s__law_at_least : Stmt := top 48
abbrev s__law_told_formula : Stmt := top 49
abbrev s__law_told_row : Stmt := top 50
abbrev s__law_lots : Stmt := top 51
abbrev s__law_spoilt : Stmt := top 52
abbrev s__law_one : Stmt := top 53
abbrev s_law : Stmt := top 54
structure TX (K : PySem.W.Frag) (mg : Str → Option Value) (base : Heap) (T : List Addr) : Prop where
  b_all : mg "all" = none
  b_any : mg "any" = none
  b_bool : mg "bool" = none
  b_enumerate : mg "enumerate" = none
  b_int : mg "int" = none
  b_isinstance : mg "isinstance" = none
  b_len : mg "len" = none
  b_list : mg "list" = none
  b_min : mg "min" = none
  b_range : mg "range" = none
  b_str : mg "str" = none
  b_tuple : mg "tuple" = none
  c_LETTERS : FN.Con K mg "LETTERS" c_LETTERS
  c_NAME_CHARACTERS : FN.Con K mg "NAME_CHARACTERS" c_NAME_CHARACTERS
  c_NEVER : FN.Con K mg "NEVER" c_NEVER
  c_RESERVED : FN.Con K mg "RESERVED" c_RESERVED
  c_SURE : FN.Con K mg "SURE" c_SURE
  d_is_name : ∃ fd, FunD K "is_name" "is_name" (defArgs s_is_name) (defBody s_is_name) (defScope s_is_name) [] [] (He.fAd K ("is_name", none)) fd
  g_is_name : mg "is_name" = some (.ref (He.fAd K ("is_name", none)))
  d_make_atom : ∃ fd, FunD K "make_atom" "make_atom" (defArgs s_make_atom) (defBody s_make_atom) (defScope s_make_atom) [] [] (He.fAd K ("make_atom", none)) fd
  g_make_atom : mg "make_atom" = some (.ref (He.fAd K ("make_atom", none)))
  d_at_least : ∃ fd, FunD K "at_least" "at_least" (defArgs s_at_least) (defBody s_at_least) (defScope s_at_least) [] [] (He.fAd K ("at_least", none)) fd
  g_at_least : mg "at_least" = some (.ref (He.fAd K ("at_least", none)))
  d_is_on : ∃ fd, FunD K "is_on" "is_on" (defArgs s_is_on) (defBody s_is_on) (defScope s_is_on) [] [] (He.fAd K ("is_on", none)) fd
  g_is_on : mg "is_on" = some (.ref (He.fAd K ("is_on", none)))
  d_is_below : ∃ fd, FunD K "is_below" "is_below" (defArgs s_is_below) (defBody s_is_below) (defScope s_is_below) [] [] (He.fAd K ("is_below", none)) fd
  g_is_below : mg "is_below" = some (.ref (He.fAd K ("is_below", none)))
  d_all_worlds : ∃ fd, FunD K "all_worlds" "all_worlds" (defArgs s_all_worlds) (defBody s_all_worlds) (defScope s_all_worlds) [] [] (He.fAd K ("all_worlds", none)) fd
  g_all_worlds : mg "all_worlds" = some (.ref (He.fAd K ("all_worlds", none)))
  d_signature_of : ∃ fd, FunD K "signature_of" "signature_of" (defArgs s_signature_of) (defBody s_signature_of) (defScope s_signature_of) [] [] (He.fAd K ("signature_of", none)) fd
  g_signature_of : mg "signature_of" = some (.ref (He.fAd K ("signature_of", none)))
  d_least_of : ∃ fd, FunD K "least_of" "least_of" (defArgs s_least_of) (defBody s_least_of) (defScope s_least_of) [] [] (He.fAd K ("least_of", none)) fd
  g_least_of : mg "least_of" = some (.ref (He.fAd K ("least_of", none)))
  d_world_term : ∃ fd, FunD K "world_term" "world_term" (defArgs s_world_term) (defBody s_world_term) (defScope s_world_term) [] [] (He.fAd K ("world_term", none)) fd
  g_world_term : mg "world_term" = some (.ref (He.fAd K ("world_term", none)))
  d_form_of : ∃ fd, FunD K "form_of" "form_of" (defArgs s_form_of) (defBody s_form_of) (defScope s_form_of) [.ref (He.dflAt ("form_of", none) 0 K)] [] (He.fAd K ("form_of", none)) fd
  g_form_of : mg "form_of" = some (.ref (He.fAd K ("form_of", none)))
  v_form_of_0 : ∀ G, Rep K G (.tuple []) (.ref (He.dflAt ("form_of", none) 0 K))
  d_slice_is_on : ∃ fd, FunD K "slice_is_on" "slice_is_on" (defArgs s_slice_is_on) (defBody s_slice_is_on) (defScope s_slice_is_on) [] [] (He.fAd K ("slice_is_on", none)) fd
  g_slice_is_on : mg "slice_is_on" = some (.ref (He.fAd K ("slice_is_on", none)))
  d_slice_of : ∃ fd, FunD K "slice_of" "slice_of" (defArgs s_slice_of) (defBody s_slice_of) (defScope s_slice_of) [] [] (He.fAd K ("slice_of", none)) fd
  g_slice_of : mg "slice_of" = some (.ref (He.fAd K ("slice_of", none)))
  d_slices_of : ∃ fd, FunD K "slices_of" "slices_of" (defArgs s_slices_of) (defBody s_slices_of) (defScope s_slices_of) [] [] (He.fAd K ("slices_of", none)) fd
  g_slices_of : mg "slices_of" = some (.ref (He.fAd K ("slices_of", none)))
  d_can_be_slice : ∃ fd, FunD K "can_be_slice" "can_be_slice" (defArgs s_can_be_slice) (defBody s_can_be_slice) (defScope s_can_be_slice) [] [] (He.fAd K ("can_be_slice", none)) fd
  g_can_be_slice : mg "can_be_slice" = some (.ref (He.fAd K ("can_be_slice", none)))
  d_are_slices : ∃ fd, FunD K "are_slices" "are_slices" (defArgs s_are_slices) (defBody s_are_slices) (defScope s_are_slices) [] [] (He.fAd K ("are_slices", none)) fd
  g_are_slices : mg "are_slices" = some (.ref (He.fAd K ("are_slices", none)))
  d_unslice : ∃ fd, FunD K "unslice" "unslice" (defArgs s_unslice) (defBody s_unslice) (defScope s_unslice) [] [] (He.fAd K ("unslice", none)) fd
  g_unslice : mg "unslice" = some (.ref (He.fAd K ("unslice", none)))
  d__law_cell : ∃ fd, FunD K "_law_cell" "_law_cell" (defArgs s__law_cell) (defBody s__law_cell) (defScope s__law_cell) [] [] (He.fAd K ("_law_cell", none)) fd
  g__law_cell : mg "_law_cell" = some (.ref (He.fAd K ("_law_cell", none)))
  d__law_digits : ∃ fd, FunD K "_law_digits" "_law_digits" (defArgs s__law_digits) (defBody s__law_digits) (defScope s__law_digits) [] [] (He.fAd K ("_law_digits", none)) fd
  g__law_digits : mg "_law_digits" = some (.ref (He.fAd K ("_law_digits", none)))
  d__law_take : ∃ fd, FunD K "_law_take" "_law_take" (defArgs s__law_take) (defBody s__law_take) (defScope s__law_take) [] [] (He.fAd K ("_law_take", none)) fd
  g__law_take : mg "_law_take" = some (.ref (He.fAd K ("_law_take", none)))
  d__law_words : ∃ fd, FunD K "_law_words" "_law_words" (defArgs s__law_words) (defBody s__law_words) (defScope s__law_words) [] [] (He.fAd K ("_law_words", none)) fd
  g__law_words : mg "_law_words" = some (.ref (He.fAd K ("_law_words", none)))
  d__law_all : ∃ fd, FunD K "_law_all" "_law_all" (defArgs s__law_all) (defBody s__law_all) (defScope s__law_all) [] [] (He.fAd K ("_law_all", none)) fd
  g__law_all : mg "_law_all" = some (.ref (He.fAd K ("_law_all", none)))
  d__law_below : ∃ fd, FunD K "_law_below" "_law_below" (defArgs s__law_below) (defBody s__law_below) (defScope s__law_below) [] [] (He.fAd K ("_law_below", none)) fd
  g__law_below : mg "_law_below" = some (.ref (He.fAd K ("_law_below", none)))
  d__law_on : ∃ fd, FunD K "_law_on" "_law_on" (defArgs s__law_on) (defBody s__law_on) (defScope s__law_on) [] [] (He.fAd K ("_law_on", none)) fd
  g__law_on : mg "_law_on" = some (.ref (He.fAd K ("_law_on", none)))
  d__law_is_name : ∃ fd, FunD K "_law_is_name" "_law_is_name" (defArgs s__law_is_name) (defBody s__law_is_name) (defScope s__law_is_name) [] [] (He.fAd K ("_law_is_name", none)) fd
  g__law_is_name : mg "_law_is_name" = some (.ref (He.fAd K ("_law_is_name", none)))
  d__law_is_formula : ∃ fd, FunD K "_law_is_formula" "_law_is_formula" (defArgs s__law_is_formula) (defBody s__law_is_formula) (defScope s__law_is_formula) [] [] (He.fAd K ("_law_is_formula", none)) fd
  g__law_is_formula : mg "_law_is_formula" = some (.ref (He.fAd K ("_law_is_formula", none)))
  d__law_positive : ∃ fd, FunD K "_law_positive" "_law_positive" (defArgs s__law_positive) (defBody s__law_positive) (defScope s__law_positive) [] [] (He.fAd K ("_law_positive", none)) fd
  g__law_positive : mg "_law_positive" = some (.ref (He.fAd K ("_law_positive", none)))
  d__law_formula : ∃ fd, FunD K "_law_formula" "_law_formula" (defArgs s__law_formula) (defBody s__law_formula) (defScope s__law_formula) [] [] (He.fAd K ("_law_formula", none)) fd
  g__law_formula : mg "_law_formula" = some (.ref (He.fAd K ("_law_formula", none)))
  d__law_tower : ∃ fd, FunD K "_law_tower" "_law_tower" (defArgs s__law_tower) (defBody s__law_tower) (defScope s__law_tower) [] [] (He.fAd K ("_law_tower", none)) fd
  g__law_tower : mg "_law_tower" = some (.ref (He.fAd K ("_law_tower", none)))
  d__law_exactly : ∃ fd, FunD K "_law_exactly" "_law_exactly" (defArgs s__law_exactly) (defBody s__law_exactly) (defScope s__law_exactly) [] [] (He.fAd K ("_law_exactly", none)) fd
  g__law_exactly : mg "_law_exactly" = some (.ref (He.fAd K ("_law_exactly", none)))
  d__law_form : ∃ fd, FunD K "_law_form" "_law_form" (defArgs s__law_form) (defBody s__law_form) (defScope s__law_form) [] [] (He.fAd K ("_law_form", none)) fd
  g__law_form : mg "_law_form" = some (.ref (He.fAd K ("_law_form", none)))
  d__law_by_bits : ∃ fd, FunD K "_law_by_bits" "_law_by_bits" (defArgs s__law_by_bits) (defBody s__law_by_bits) (defScope s__law_by_bits) [] [] (He.fAd K ("_law_by_bits", none)) fd
  g__law_by_bits : mg "_law_by_bits" = some (.ref (He.fAd K ("_law_by_bits", none)))
  d__law_grown : ∃ fd, FunD K "_law_grown" "_law_grown" (defArgs s__law_grown) (defBody s__law_grown) (defScope s__law_grown) [] [] (He.fAd K ("_law_grown", none)) fd
  g__law_grown : mg "_law_grown" = some (.ref (He.fAd K ("_law_grown", none)))
  d__law_fit : ∃ fd, FunD K "_law_fit" "_law_fit" (defArgs s__law_fit) (defBody s__law_fit) (defScope s__law_fit) [] [] (He.fAd K ("_law_fit", none)) fd
  g__law_fit : mg "_law_fit" = some (.ref (He.fAd K ("_law_fit", none)))
  d__law_row_fits : ∃ fd, FunD K "_law_row_fits" "_law_row_fits" (defArgs s__law_row_fits) (defBody s__law_row_fits) (defScope s__law_row_fits) [] [] (He.fAd K ("_law_row_fits", none)) fd
  g__law_row_fits : mg "_law_row_fits" = some (.ref (He.fAd K ("_law_row_fits", none)))
  d__law_at_least : ∃ fd, FunD K "_law_at_least" "_law_at_least" (defArgs s__law_at_least) (defBody s__law_at_least) (defScope s__law_at_least) [] [] (He.fAd K ("_law_at_least", none)) fd
  g__law_at_least : mg "_law_at_least" = some (.ref (He.fAd K ("_law_at_least", none)))
  d__law_told_formula : ∃ fd, FunD K "_law_told_formula" "_law_told_formula" (defArgs s__law_told_formula) (defBody s__law_told_formula) (defScope s__law_told_formula) [] [] (He.fAd K ("_law_told_formula", none)) fd
  g__law_told_formula : mg "_law_told_formula" = some (.ref (He.fAd K ("_law_told_formula", none)))
  d__law_told_row : ∃ fd, FunD K "_law_told_row" "_law_told_row" (defArgs s__law_told_row) (defBody s__law_told_row) (defScope s__law_told_row) [] [] (He.fAd K ("_law_told_row", none)) fd
  g__law_told_row : mg "_law_told_row" = some (.ref (He.fAd K ("_law_told_row", none)))
  d__law_lots : ∃ fd, FunD K "_law_lots" "_law_lots" (defArgs s__law_lots) (defBody s__law_lots) (defScope s__law_lots) [] [] (He.fAd K ("_law_lots", none)) fd
  g__law_lots : mg "_law_lots" = some (.ref (He.fAd K ("_law_lots", none)))
  d__law_spoilt : ∃ fd, FunD K "_law_spoilt" "_law_spoilt" (defArgs s__law_spoilt) (defBody s__law_spoilt) (defScope s__law_spoilt) [] [] (He.fAd K ("_law_spoilt", none)) fd
  g__law_spoilt : mg "_law_spoilt" = some (.ref (He.fAd K ("_law_spoilt", none)))
  d__law_one : ∃ fd, FunD K "_law_one" "_law_one" (defArgs s__law_one) (defBody s__law_one) (defScope s__law_one) [] [] (He.fAd K ("_law_one", none)) fd
  g__law_one : mg "_law_one" = some (.ref (He.fAd K ("_law_one", none)))
  d_law : ∃ fd, FunD K "law" "law" (defArgs s_law) (defBody s_law) (defScope s_law) [] [] (He.fAd K ("law", none)) fd
  g_law : mg "law" = some (.ref (He.fAd K ("law", none)))
  t_is_name : GxR.TabB base mg (He.codeOf K ("is_name", none)) (He.tabOf K (He.codeOf K ("is_name", none)))
  m_is_name : He.tabOf K (He.codeOf K ("is_name", none)) ∈ T
  t_is_on : GxR.TabB base mg (He.codeOf K ("is_on", none)) (He.tabOf K (He.codeOf K ("is_on", none)))
  m_is_on : He.tabOf K (He.codeOf K ("is_on", none)) ∈ T
  t_is_below : GxR.TabB base mg (He.codeOf K ("is_below", none)) (He.tabOf K (He.codeOf K ("is_below", none)))
  m_is_below : He.tabOf K (He.codeOf K ("is_below", none)) ∈ T
section
variable {P : Program} {w : World} {K : PySem.W.Frag} {mg : Str → Option Value} {base : Heap} {T : List Addr}
def N_is_name : List Str := ["value", "character"]
theorem sc_is_name : FnScope N_is_name ["value"] (defScope s_is_name) := C8.fnScope_by (by decide +kernel)
theorem fn_is_name (t : TX K mg base T) : ∃ fd, FunD K "is_name" "is_name" (defArgs s_is_name) (defBody s_is_name) (defScope s_is_name) [] [] (He.fAd K ("is_name", none)) fd ∧ FnOk P w K mg base CX0 3 (He.fAd K ("is_name", none)) fd ["value"] (spF K T 1 F_is_name) := by
  obtain ⟨fd, F⟩ := t.d_is_name
  refine ⟨fd, F, ?_⟩
  exact funD_ok (pin := [0]) (m := 1) (k := 2) F sc_is_name rfl rfl fun A outer s H E hr => (fss_cons (fs_if (ft_w (fw_or (notT (valT (fe_isi rfl t.b_isinstance boot_isinstance rfl t.b_str PyProof.Rows.boot_str (fv 0)))) (fw_or1 (cmpT o2_inB (xIn hr) (fv 0) (fe_con t.c_RESERVED rfl))))) (fss_one (fs_ret fe_bl)) fss_nil) (fss_cons (fs_if (ft_w (fw_or (notT (ft_chain o2_le op_le o2_le op_le fe_int (fe_callB on_len call_len rfl t.b_len boot_len (consA (fv 0) fa_nil)) fe_int)) (fw_or1 (cmpT o2_inB (xNi hr) (ixE (fv 0) fe_int) (fe_con t.c_LETTERS rfl))))) (fss_one (fs_ret fe_bl)) fss_nil) (fss_one (fs_ret (allG [("character", 1)] hr sc_is_name.nd t.b_all t.t_is_name t.m_is_name (seqI (dE (fv 0))) (fun _ _ _ _ _ _ _ => (nmG 1 sc_is_name.nd)) (fun _ _ _ _ _ _ _ => (cmpE o2_inB (xIn (room_gen hr)) (fv 1) (fe_con t.c_NAME_CHARACTERS rfl))) ul_name)))))
theorem cal_is_name (t : TX K mg base T) : FN.Cal P w K mg base T 3 "is_name" 1 F_is_name [] := by
  obtain ⟨fd, F, FO⟩ := fn_is_name (P := P) (w := w) t
  exact cal_of F t.g_is_name (F.bindsN (ps := ["value"]) fun _ _ _ _ _ _ us hl => match us, hl with | [_], _ => rfl) FO
def N_make_atom : List Str := ["name"]
theorem sc_make_atom : FnScope N_make_atom ["name"] (defScope s_make_atom) := C8.fnScope_by (by decide +kernel)
theorem fn_make_atom (t : TX K mg base T) : ∃ fd, FunD K "make_atom" "make_atom" (defArgs s_make_atom) (defBody s_make_atom) (defScope s_make_atom) [] [] (He.fAd K ("make_atom", none)) fd ∧ FnOk P w K mg base CX0 4 (He.fAd K ("make_atom", none)) fd ["name"] (spF K T 1 F_make_atom) := by
  obtain ⟨fd, F⟩ := t.d_make_atom
  refine ⟨fd, F, ?_⟩
  exact funD_ok (pin := [0]) (m := 0) (k := 3) F sc_make_atom rfl rfl fun A outer s H E hr => (fss_cons (fs_if (notT (valT (fe_call (cal_is_name t) hr (by have := fuel_eq; omega) rfl (consA (fv 0) fa_nil) (laC la_nil)))) (fss_one fs_never) fss_nil) (fss_one (fs_ret (tupE (consD (dE fe_str) (consD (dE (fv 0)) fds_nil))))))
theorem cal_make_atom (t : TX K mg base T) : FN.Cal P w K mg base T 4 "make_atom" 1 F_make_atom [] := by
  obtain ⟨fd, F, FO⟩ := fn_make_atom (P := P) (w := w) t
  exact cal_of F t.g_make_atom (F.bindsN (ps := ["name"]) fun _ _ _ _ _ _ us hl => match us, hl with | [_], _ => rfl) FO
def N_at_least : List Str := ["places", "j", "k", "with_last"]
theorem sc_at_least : FnScope N_at_least ["places", "j", "k"] (defScope s_at_least) := C8.fnScope_by (by decide +kernel)
theorem fn_at_least (t : TX K mg base T) (k : Nat) : ∃ fd, FunD K "at_least" "at_least" (defArgs s_at_least) (defBody s_at_least) (defScope s_at_least) [] [] (He.fAd K ("at_least", none)) fd ∧ FnOk P w K mg base CX0 (1 + 1 * k) (He.fAd K ("at_least", none)) fd ["places", "j", "k"] (spF K T 3 (F_at_least k)) := by
  obtain ⟨fd, F⟩ := t.d_at_least
  refine ⟨fd, F, ?_⟩
  have b : Binds K fd ["places", "j", "k"] [] := F.bindsN (ps := ["places", "j", "k"]) fun _ _ _ _ _ _ us hl => match us, hl with | [_, _, _], _ => rfl
  induction k with
  | zero => exact fn_none rfl
  | succ k ih0 =>
    have ih : FN.Cal P w K mg base T (1 + 1 * k) "at_least" 3 (F_at_least k) [] := cal_of F t.g_at_least b ih0
    have e : 1 + 1 * (k + 1) = (1 + 1 * k + 0) + 1 := by omega
    rw [e]
    exact funD_ok (pin := [0, 1, 2]) (m := 1) (k := 1 + 1 * k + 0) F sc_at_least rfl rfl fun A outer s H E hr => (fss_cons (fs_if (cmpT o2_eq (xEq hr) (fv 2) fe_int) (fss_one (fs_ret (fe_con t.c_SURE rfl))) fss_nil) (fss_cons (fs_if (cmpT o2_gt op_gt (fv 2) (fv 1)) (fss_one (fs_ret (fe_con t.c_NEVER rfl))) fss_nil) (fss_cons (setS' 3 sc_at_least.nd (tupE (consD (dE fe_str) (consD (dE (tupE (consD (dE (ixE (fv 0) (fe_bin o2_sub op_sub (fv 1) fe_int))) (consD (dE (fe_call ih hr (by have := fuel_eq; omega) rfl (consA (fv 0) (consA (fe_bin o2_sub op_sub (fv 1) fe_int) (consA (fe_bin o2_sub op_sub (fv 2) fe_int) fa_nil))) (laC (laC (laC la_nil))))) fds_nil)))) fds_nil)))) (fss_one (fs_ret (tupE (consD (dE fe_str) (consD (dE (tupE (consD (dE (fe_call ih hr (by have := fuel_eq; omega) rfl (consA (fv 0) (consA (fe_bin o2_sub op_sub (fv 1) fe_int) (consA (fv 2) fa_nil))) (laC (laC (laC la_nil))))) (consD (dE (fv 3)) fds_nil)))) fds_nil))))))))
theorem cal_at_least (t : TX K mg base T) (k : Nat) : FN.Cal P w K mg base T (1 + 1 * k) "at_least" 3 (F_at_least k) [] := by
  obtain ⟨fd, F, FO⟩ := fn_at_least (P := P) (w := w) t k
  exact cal_of F t.g_at_least (F.bindsN (ps := ["places", "j", "k"]) fun _ _ _ _ _ _ us hl => match us, hl with | [_, _, _], _ => rfl) FO
def N_is_on : List Str := ["member", "world", "part"]
theorem sc_is_on : FnScope N_is_on ["member", "world"] (defScope s_is_on) := C8.fnScope_by (by decide +kernel)
theorem fn_is_on (t : TX K mg base T) (k : Nat) : ∃ fd, FunD K "is_on" "is_on" (defArgs s_is_on) (defBody s_is_on) (defScope s_is_on) [] [] (He.fAd K ("is_on", none)) fd ∧ FnOk P w K mg base CX0 (3 + 2 * k) (He.fAd K ("is_on", none)) fd ["member", "world"] (spF K T 2 (F_is_on k)) := by
  obtain ⟨fd, F⟩ := t.d_is_on
  refine ⟨fd, F, ?_⟩
  have b : Binds K fd ["member", "world"] [] := F.bindsN (ps := ["member", "world"]) fun _ _ _ _ _ _ us hl => match us, hl with | [_, _], _ => rfl
  induction k with
  | zero => exact fn_none rfl
  | succ k ih0 =>
    have ih : FN.Cal P w K mg base T (3 + 2 * k) "is_on" 2 (F_is_on k) [] := cal_of F t.g_is_on b ih0
    have e : 3 + 2 * (k + 1) = (3 + 2 * k + 1) + 1 := by omega
    rw [e]
    exact funD_ok (pin := [0, 1]) (m := 1) (k := 3 + 2 * k + 1) F sc_is_on rfl rfl fun A outer s H E hr => (fss_cons (fs_if (cmpT o2_eq (xEq hr) (ixE (fv 0) fe_int) fe_str) (fss_one (fs_ret (cmpE o2_inB (xIn hr) (ixE (fv 0) fe_int) (fv 1)))) fss_nil) (fss_cons (fs_if (cmpT o2_eq (xEq hr) (ixE (fv 0) fe_int) fe_str) (fss_one (fs_ret (notE (fe_call ih hr (by have := fuel_eq; omega) rfl (consA (ixE (fv 0) fe_int) (consA (fv 1) fa_nil)) (laC (laC la_nil)))))) fss_nil) (fss_cons (fs_if (cmpT o2_eq (xEq hr) (ixE (fv 0) fe_int) fe_str) (fss_one (fs_ret (allG [("part", 2)] hr sc_is_on.nd t.b_all t.t_is_on t.m_is_on (seqI (dE (ixE (fv 0) fe_int))) (fun _ _ _ _ _ _ _ => (nmG 2 sc_is_on.nd)) (fun _ _ _ _ _ _ _ => (fe_call ih (room_gen hr) (by have := fuel_eq; omega) rfl (consA (fv 2) (consA (fv 1) fa_nil)) (laC (laC la_nil)))) ul_name))) fss_nil) (fss_one (fs_ret (anyG [("part", 2)] hr sc_is_on.nd t.b_any t.t_is_on t.m_is_on (seqI (dE (ixE (fv 0) fe_int))) (fun _ _ _ _ _ _ _ => (nmG 2 sc_is_on.nd)) (fun _ _ _ _ _ _ _ => (fe_call ih (room_gen hr) (by have := fuel_eq; omega) rfl (consA (fv 2) (consA (fv 1) fa_nil)) (laC (laC la_nil)))) ul_name))))))
theorem cal_is_on (t : TX K mg base T) (k : Nat) : FN.Cal P w K mg base T (3 + 2 * k) "is_on" 2 (F_is_on k) [] := by
  obtain ⟨fd, F, FO⟩ := fn_is_on (P := P) (w := w) t k
  exact cal_of F t.g_is_on (F.bindsN (ps := ["member", "world"]) fun _ _ _ _ _ _ us hl => match us, hl with | [_, _], _ => rfl) FO
def N_is_below : List Str := ["low", "high", "name"]
theorem sc_is_below : FnScope N_is_below ["low", "high"] (defScope s_is_below) := C8.fnScope_by (by decide +kernel)
theorem fn_is_below (t : TX K mg base T) : ∃ fd, FunD K "is_below" "is_below" (defArgs s_is_below) (defBody s_is_below) (defScope s_is_below) [] [] (He.fAd K ("is_below", none)) fd ∧ FnOk P w K mg base CX0 3 (He.fAd K ("is_below", none)) fd ["low", "high"] (spF K T 2 F_is_below) := by
  obtain ⟨fd, F⟩ := t.d_is_below
  refine ⟨fd, F, ?_⟩
  exact funD_ok (pin := [0, 1]) (m := 1) (k := 2) F sc_is_below rfl rfl fun A outer s H E hr => (fss_one (fs_ret (allG [("name", 2)] hr sc_is_below.nd t.b_all t.t_is_below t.m_is_below (seqI (dE (fv 0))) (fun _ _ _ _ _ _ _ => (nmG 2 sc_is_below.nd)) (fun _ _ _ _ _ _ _ => (cmpE o2_inB (xIn (room_gen hr)) (fv 2) (fv 1))) ul_name)))
theorem cal_is_below (t : TX K mg base T) : FN.Cal P w K mg base T 3 "is_below" 2 F_is_below [] := by
  obtain ⟨fd, F, FO⟩ := fn_is_below (P := P) (w := w) t
  exact cal_of F t.g_is_below (F.bindsN (ps := ["low", "high"]) fun _ _ _ _ _ _ us hl => match us, hl with | [_, _], _ => rfl) FO
def N_all_worlds : List Str := ["names", "found", "name", "world"]
theorem sc_all_worlds : FnScope N_all_worlds ["names"] (defScope s_all_worlds) := C8.fnScope_by (by decide +kernel)
theorem fn_all_worlds (t : TX K mg base T) : ∃ fd, FunD K "all_worlds" "all_worlds" (defArgs s_all_worlds) (defBody s_all_worlds) (defScope s_all_worlds) [] [] (He.fAd K ("all_worlds", none)) fd ∧ FnOk P w K mg base CX0 1 (He.fAd K ("all_worlds", none)) fd ["names"] (spF K T 1 F_all_worlds) := by
  obtain ⟨fd, F⟩ := t.d_all_worlds
  refine ⟨fd, F, ?_⟩
  exact funD_ok (pin := [0]) (m := 3) (k := 0) F sc_all_worlds rfl rfl fun A outer s H E hr => (fss_cons (setS' 1 sc_all_worlds.nd (lstE (consD (dE (tupE fds_nil)) fds_nil))) (fss_cons (forE (ws := [2]) PassesOwn.never (seqI (dE (fv 0))) (nmG 2 sc_all_worlds.nd) (fss_one (setS' 1 sc_all_worlds.nd (fe_bin o2_add op_addA (fv 1) (lcE [("world", 3)] sc_all_worlds.nd (seqI (dE (fv 1))) (fun _ _ _ _ _ => (nmG 3 sc_all_worlds.nd)) (fun _ _ _ _ _ => fts_nil) (fun _ _ _ _ _ => dE (fe_bin o2_add op_addA (fv 3) (tupE (consD (dE (fv 2)) fds_nil)))) ul_name))))) (fss_one (fs_ret (fe_callTy on_tuple call_tuple_of rfl t.b_tuple PyProof.Rows.boot_tuple (consA (fv 1) fa_nil))))))
theorem cal_all_worlds (t : TX K mg base T) : FN.Cal P w K mg base T 1 "all_worlds" 1 F_all_worlds [] := by
  obtain ⟨fd, F, FO⟩ := fn_all_worlds (P := P) (w := w) t
  exact cal_of F t.g_all_worlds (F.bindsN (ps := ["names"]) fun _ _ _ _ _ _ us hl => match us, hl with | [_], _ => rfl) FO
def N_signature_of : List Str := ["signs", "world", "sign"]
theorem sc_signature_of : FnScope N_signature_of ["signs", "world"] (defScope s_signature_of) := C8.fnScope_by (by decide +kernel)
theorem fn_signature_of (t : TX K mg base T) : ∃ fd, FunD K "signature_of" "signature_of" (defArgs s_signature_of) (defBody s_signature_of) (defScope s_signature_of) [] [] (He.fAd K ("signature_of", none)) fd ∧ FnOk P w K mg base CX0 84 (He.fAd K ("signature_of", none)) fd ["signs", "world"] (spF K T 2 F_signature_of) := by
  obtain ⟨fd, F⟩ := t.d_signature_of
  refine ⟨fd, F, ?_⟩
  exact funD_ok (pin := [0, 1]) (m := 1) (k := 83) F sc_signature_of rfl rfl fun A outer s H E hr => (fss_one (fs_ret (fe_callTy on_tuple call_tuple_of rfl t.b_tuple PyProof.Rows.boot_tuple (consA (lcE [("sign", 2)] sc_signature_of.nd (seqI (dE (fv 0))) (fun _ _ _ _ _ => (nmG 2 sc_signature_of.nd)) (fun _ _ _ _ _ => fts_nil) (fun _ _ _ _ _ => dE (fe_call (cal_is_on t fuel) hr (by have := fuel_eq; omega) rfl (consA (fv 2) (consA (fv 1) fa_nil)) (laC (laC la_nil)))) ul_name) fa_nil))))
theorem cal_signature_of (t : TX K mg base T) : FN.Cal P w K mg base T 84 "signature_of" 2 F_signature_of [] := by
  obtain ⟨fd, F, FO⟩ := fn_signature_of (P := P) (w := w) t
  exact cal_of F t.g_signature_of (F.bindsN (ps := ["signs", "world"]) fun _ _ _ _ _ _ us hl => match us, hl with | [_, _], _ => rfl) FO
def N_least_of : List Str := ["lot", "signs", "signatures", "least", "high", "lower", "world", "low"]
theorem sc_least_of : FnScope N_least_of ["lot", "signs"] (defScope s_least_of) := C8.fnScope_by (by decide +kernel)
theorem fn_least_of (t : TX K mg base T) : ∃ fd, FunD K "least_of" "least_of" (defArgs s_least_of) (defBody s_least_of) (defScope s_least_of) [] [] (He.fAd K ("least_of", none)) fd ∧ FnOk P w K mg base CX0 85 (He.fAd K ("least_of", none)) fd ["lot", "signs"] (spF K T 2 F_least_of) := by
  obtain ⟨fd, F⟩ := t.d_least_of
  refine ⟨fd, F, ?_⟩
  exact funD_ok (pin := [0, 1]) (m := 6) (k := 84) F sc_least_of rfl rfl fun A outer s H E hr => (fss_cons (setS' 2 sc_least_of.nd (lcE [("world", 6)] sc_least_of.nd (seqI (dE (fv 0))) (fun _ _ _ _ _ => (nmG 6 sc_least_of.nd)) (fun _ _ _ _ _ => fts_nil) (fun _ _ _ _ _ => dE (fe_call (cal_signature_of t) hr (by have := fuel_eq; omega) rfl (consA (fv 1) (consA (fv 6) fa_nil)) (laC (laC la_nil)))) ul_name)) (fss_cons (setS' 3 sc_least_of.nd (lstE fds_nil)) (fss_cons (forE (ws := [4]) PassesOwn.never (fi_range1 rfl t.b_range (fe_callB on_len call_len rfl t.b_len boot_len (consA (fv 0) fa_nil))) (nmG 4 sc_least_of.nd) (fss_cons (setL 5 [("low", 7)] sc_least_of.nd (fi_range1 rfl t.b_range (fv 4)) (fun _ _ _ _ _ => (nmG 7 sc_least_of.nd)) (fun _ _ _ _ _ => (fts_one (ft_w (fw_and (cmpT o2_eq (xEq hr) (ixE (fv 2) (fv 7)) (ixE (fv 2) (fv 4))) (fw_and1 (valT (fe_call (cal_is_below t) hr (by have := fuel_eq; omega) rfl (consA (ixE (fv 0) (fv 7)) (consA (ixE (fv 0) (fv 4)) fa_nil)) (laC (laC la_nil))))))))) (fun _ _ _ _ _ => dE (fv 7)) ul_name) (fss_one (fs_if (cmpT o2_eq (xEq hr) (fe_callB on_len call_len rfl t.b_len boot_len (consA (fv 5) fa_nil)) fe_int) (fss_one (fs_append (n := 3) rfl (vis1 rfl) (dE (ixE (fv 0) (fv 4))))) fss_nil)))) (fss_one (fs_ret (fe_callTy on_tuple call_tuple_of rfl t.b_tuple PyProof.Rows.boot_tuple (consA (fv 3) fa_nil)))))))
theorem cal_least_of (t : TX K mg base T) : FN.Cal P w K mg base T 85 "least_of" 2 F_least_of [] := by
  obtain ⟨fd, F, FO⟩ := fn_least_of (P := P) (w := w) t
  exact cal_of F t.g_least_of (F.bindsN (ps := ["lot", "signs"]) fun _ _ _ _ _ _ us hl => match us, hl with | [_, _], _ => rfl) FO
def N_world_term : List Str := ["world", "signs", "atoms", "denials", "name", "sign"]
theorem sc_world_term : FnScope N_world_term ["world", "signs"] (defScope s_world_term) := C8.fnScope_by (by decide +kernel)
theorem fn_world_term (t : TX K mg base T) : ∃ fd, FunD K "world_term" "world_term" (defArgs s_world_term) (defBody s_world_term) (defScope s_world_term) [] [] (He.fAd K ("world_term", none)) fd ∧ FnOk P w K mg base CX0 84 (He.fAd K ("world_term", none)) fd ["world", "signs"] (spF K T 2 F_world_term) := by
  obtain ⟨fd, F⟩ := t.d_world_term
  refine ⟨fd, F, ?_⟩
  exact funD_ok (pin := [0, 1]) (m := 4) (k := 83) F sc_world_term rfl rfl fun A outer s H E hr => (fss_cons (setL 2 [("name", 4)] sc_world_term.nd (seqI (dE (fv 0))) (fun _ _ _ _ _ => (nmG 4 sc_world_term.nd)) (fun _ _ _ _ _ => fts_nil) (fun _ _ _ _ _ => dE (fe_call (cal_make_atom t) hr (by have := fuel_eq; omega) rfl (consA (fv 4) fa_nil) (laC la_nil))) ul_name) (fss_cons (setL 3 [("sign", 5)] sc_world_term.nd (seqI (dE (fv 1))) (fun _ _ _ _ _ => (nmG 5 sc_world_term.nd)) (fun _ _ _ _ _ => (fts_one (notT (valT (fe_call (cal_is_on t fuel) hr (by have := fuel_eq; omega) rfl (consA (fv 5) (consA (fv 0) fa_nil)) (laC (laC la_nil))))))) (fun _ _ _ _ _ => dE (tupE (consD (dE fe_str) (consD (dE (fv 5)) fds_nil)))) ul_name) (fss_one (fs_ret (tupE (consD (dE fe_str) (consD (dE (fe_callTy on_tuple call_tuple_of rfl t.b_tuple PyProof.Rows.boot_tuple (consA (fe_bin o2_add op_addA (fv 2) (fv 3)) fa_nil))) fds_nil)))))))
theorem cal_world_term (t : TX K mg base T) : FN.Cal P w K mg base T 84 "world_term" 2 F_world_term [] := by
  obtain ⟨fd, F, FO⟩ := fn_world_term (P := P) (w := w) t
  exact cal_of F t.g_world_term (F.bindsN (ps := ["world", "signs"]) fun _ _ _ _ _ _ us hl => match us, hl with | [_, _], _ => rfl) FO
def N_form_of : List Str := ["lot", "signs", "world"]
theorem sc_form_of : FnScope N_form_of ["lot", "signs"] (defScope s_form_of) := C8.fnScope_by (by decide +kernel)
theorem fn_form_of (t : TX K mg base T) : ∃ fd, FunD K "form_of" "form_of" (defArgs s_form_of) (defBody s_form_of) (defScope s_form_of) [.ref (He.dflAt ("form_of", none) 0 K)] [] (He.fAd K ("form_of", none)) fd ∧ FnOk P w K mg base CX0 86 (He.fAd K ("form_of", none)) fd ["lot", "signs"] (spF K T 2 F_form_of) := by
  obtain ⟨fd, F⟩ := t.d_form_of
  refine ⟨fd, F, ?_⟩
  exact funD_ok (pin := [0, 1]) (m := 1) (k := 85) F sc_form_of rfl rfl fun A outer s H E hr => (fss_one (fs_ret (tupE (consD (dE fe_str) (consD (dE (fe_callTy on_tuple call_tuple_of rfl t.b_tuple PyProof.Rows.boot_tuple (consA (lcE [("world", 2)] sc_form_of.nd (seqI (dE (fe_call (cal_least_of t) hr (by have := fuel_eq; omega) rfl (consA (fv 0) (consA (fv 1) fa_nil)) (laC (laC la_nil))))) (fun _ _ _ _ _ => (nmG 2 sc_form_of.nd)) (fun _ _ _ _ _ => fts_nil) (fun _ _ _ _ _ => dE (fe_call (cal_world_term t) hr (by have := fuel_eq; omega) rfl (consA (fv 2) (consA (fv 1) fa_nil)) (laC (laC la_nil)))) ul_name) fa_nil))) fds_nil)))))
theorem cal_form_of_1 (t : TX K mg base T) : FN.Cal P w K mg base T 86 "form_of" 2 F_form_of [(.tuple [])] := by
  obtain ⟨fd, F, FO⟩ := fn_form_of (P := P) (w := w) t
  obtain ⟨ds, h1, h2⟩ := F.binds1 (ps := ["lot", "signs"]) 1 0 (by simp) rfl fun _ _ _ _ _ _ _ us its h1 h2 => match us, its, h1, h2 with | [_], [_], _, _ => ⟨_, rfl, rfl⟩
  exact calD_of F t.g_form_of h2 h1 (fun G => ⟨t.v_form_of_0 G, trivial⟩) FO
def N_slice_is_on : List Str := ["formula", "world", "k"]
theorem sc_slice_is_on : FnScope N_slice_is_on ["formula", "world", "k"] (defScope s_slice_is_on) := C8.fnScope_by (by decide +kernel)
theorem fn_slice_is_on (t : TX K mg base T) : ∃ fd, FunD K "slice_is_on" "slice_is_on" (defArgs s_slice_is_on) (defBody s_slice_is_on) (defScope s_slice_is_on) [] [] (He.fAd K ("slice_is_on", none)) fd ∧ FnOk P w K mg base CX0 84 (He.fAd K ("slice_is_on", none)) fd ["formula", "world", "k"] (spF K T 3 F_slice_is_on) := by
  obtain ⟨fd, F⟩ := t.d_slice_is_on
  refine ⟨fd, F, ?_⟩
  exact funD_ok (pin := [0, 1, 2]) (m := 0) (k := 83) F sc_slice_is_on rfl rfl fun A outer s H E hr => (fss_cons (fs_if (cmpT o2_eq (xEq hr) (fe_callB on_len call_len rfl t.b_len boot_len (consA (fv 1) fa_nil)) (fv 2)) (fss_one (fs_ret (fe_call (cal_is_on t fuel) hr (by have := fuel_eq; omega) rfl (consA (fv 0) (consA (fv 1) fa_nil)) (laC (laC la_nil))))) fss_nil) (fss_one (fs_ret (cmpE o2_gt op_gt (fe_callB on_len call_len rfl t.b_len boot_len (consA (fv 1) fa_nil)) (fv 2)))))
theorem cal_slice_is_on (t : TX K mg base T) : FN.Cal P w K mg base T 84 "slice_is_on" 3 F_slice_is_on [] := by
  obtain ⟨fd, F, FO⟩ := fn_slice_is_on (P := P) (w := w) t
  exact cal_of F t.g_slice_is_on (F.bindsN (ps := ["formula", "world", "k"]) fun _ _ _ _ _ _ us hl => match us, hl with | [_, _, _], _ => rfl) FO
def N_slice_of : List Str := ["formula", "names", "k", "world"]
theorem sc_slice_of : FnScope N_slice_of ["formula", "names", "k"] (defScope s_slice_of) := C8.fnScope_by (by decide +kernel)
theorem fn_slice_of (t : TX K mg base T) : ∃ fd, FunD K "slice_of" "slice_of" (defArgs s_slice_of) (defBody s_slice_of) (defScope s_slice_of) [] [] (He.fAd K ("slice_of", none)) fd ∧ FnOk P w K mg base CX0 87 (He.fAd K ("slice_of", none)) fd ["formula", "names", "k"] (spF K T 3 F_slice_of) := by
  obtain ⟨fd, F⟩ := t.d_slice_of
  refine ⟨fd, F, ?_⟩
  exact funD_ok (pin := [0, 1, 2]) (m := 1) (k := 86) F sc_slice_of rfl rfl fun A outer s H E hr => (fss_one (fs_ret (fe_call (cal_form_of_1 t) hr (by have := fuel_eq; omega) rfl (consA (fe_callTy on_tuple call_tuple_of rfl t.b_tuple PyProof.Rows.boot_tuple (consA (lcE [("world", 3)] sc_slice_of.nd (seqI (dE (fe_call (cal_all_worlds t) hr (by have := fuel_eq; omega) rfl (consA (fv 1) fa_nil) (laC la_nil)))) (fun _ _ _ _ _ => (nmG 3 sc_slice_of.nd)) (fun _ _ _ _ _ => (fts_one (valT (fe_call (cal_slice_is_on t) hr (by have := fuel_eq; omega) rfl (consA (fv 0) (consA (fv 3) (consA (fv 2) fa_nil))) (laC (laC (laC la_nil))))))) (fun _ _ _ _ _ => dE (fv 3)) ul_name) fa_nil)) fa_nil) (laC la_nil))))
theorem cal_slice_of (t : TX K mg base T) : FN.Cal P w K mg base T 87 "slice_of" 3 F_slice_of [] := by
  obtain ⟨fd, F, FO⟩ := fn_slice_of (P := P) (w := w) t
  exact cal_of F t.g_slice_of (F.bindsN (ps := ["formula", "names", "k"]) fun _ _ _ _ _ _ us hl => match us, hl with | [_, _, _], _ => rfl) FO
theorem calk_slice_of (t : TX K mg base T) : FN.CalK P w K mg base T 87 "slice_of" ["formula", "names", "k"] 3 F_slice_of := by
  obtain ⟨fd, F, FO⟩ := fn_slice_of (P := P) (w := w) t
  exact calK_of F t.g_slice_of (kbn_of F (ks := ["formula", "names", "k"]) fun _ _ _ _ _ _ ws hl => match ws, hl with | [_, _, _], _ => rfl) FO
def N_slices_of : List Str := ["formula", "names", "k"]
theorem sc_slices_of : FnScope N_slices_of ["formula", "names"] (defScope s_slices_of) := C8.fnScope_by (by decide +kernel)
theorem fn_slices_of (t : TX K mg base T) : ∃ fd, FunD K "slices_of" "slices_of" (defArgs s_slices_of) (defBody s_slices_of) (defScope s_slices_of) [] [] (He.fAd K ("slices_of", none)) fd ∧ FnOk P w K mg base CX0 88 (He.fAd K ("slices_of", none)) fd ["formula", "names"] (spF K T 2 F_slices_of) := by
  obtain ⟨fd, F⟩ := t.d_slices_of
  refine ⟨fd, F, ?_⟩
  exact funD_ok (pin := [0, 1]) (m := 1) (k := 87) F sc_slices_of rfl rfl fun A outer s H E hr => (fss_one (fs_ret (fe_callTy on_tuple call_tuple_of rfl t.b_tuple PyProof.Rows.boot_tuple (consA (lcE [("k", 2)] sc_slices_of.nd (fi_range1 rfl t.b_range (fe_bin o2_add op_addA (fe_callB on_len call_len rfl t.b_len boot_len (consA (fv 1) fa_nil)) fe_int)) (fun _ _ _ _ _ => (nmG 2 sc_slices_of.nd)) (fun _ _ _ _ _ => fts_nil) (fun _ _ _ _ _ => dE (fe_call (cal_slice_of t) hr (by have := fuel_eq; omega) rfl (consA (fv 0) (consA (fv 1) (consA (fv 2) fa_nil))) (laC (laC (laC la_nil))))) ul_name) fa_nil))))
theorem cal_slices_of (t : TX K mg base T) : FN.Cal P w K mg base T 88 "slices_of" 2 F_slices_of [] := by
  obtain ⟨fd, F, FO⟩ := fn_slices_of (P := P) (w := w) t
  exact cal_of F t.g_slices_of (F.bindsN (ps := ["formula", "names"]) fun _ _ _ _ _ _ us hl => match us, hl with | [_, _], _ => rfl) FO
def N_can_be_slice : List Str := ["formula", "names", "k", "world"]
theorem sc_can_be_slice : FnScope N_can_be_slice ["formula", "names", "k"] (defScope s_can_be_slice) := C8.fnScope_by (by decide +kernel)
theorem fn_can_be_slice (t : TX K mg base T) : ∃ fd, FunD K "can_be_slice" "can_be_slice" (defArgs s_can_be_slice) (defBody s_can_be_slice) (defScope s_can_be_slice) [] [] (He.fAd K ("can_be_slice", none)) fd ∧ FnOk P w K mg base CX0 84 (He.fAd K ("can_be_slice", none)) fd ["formula", "names", "k"] (spF K T 3 F_can_be_slice) := by
  obtain ⟨fd, F⟩ := t.d_can_be_slice
  refine ⟨fd, F, ?_⟩
  exact funD_ok (pin := [0, 1, 2]) (m := 1) (k := 83) F sc_can_be_slice rfl rfl fun A outer s H E hr => (fss_cons (forE (ws := [3]) PassesOwn.never (seqI (dE (fe_call (cal_all_worlds t) hr (by have := fuel_eq; omega) rfl (consA (fv 1) fa_nil) (laC la_nil)))) (nmG 3 sc_can_be_slice.nd) (fss_one (fs_if (ft_w (fw_and (cmpT o2_ne (xNe hr) (fe_callB on_len call_len rfl t.b_len boot_len (consA (fv 3) fa_nil)) (fv 2)) (fw_and1 (cmpT o2_ne (xNe hr) (fe_call (cal_is_on t fuel) hr (by have := fuel_eq; omega) rfl (consA (fv 0) (consA (fv 3) fa_nil)) (laC (laC la_nil))) (cmpE o2_gt op_gt (fe_callB on_len call_len rfl t.b_len boot_len (consA (fv 3) fa_nil)) (fv 2)))))) (fss_one (fs_ret fe_bl)) fss_nil))) (fss_one (fs_ret fe_bl)))
theorem cal_can_be_slice (t : TX K mg base T) : FN.Cal P w K mg base T 84 "can_be_slice" 3 F_can_be_slice [] := by
  obtain ⟨fd, F, FO⟩ := fn_can_be_slice (P := P) (w := w) t
  exact cal_of F t.g_can_be_slice (F.bindsN (ps := ["formula", "names", "k"]) fun _ _ _ _ _ _ us hl => match us, hl with | [_, _, _], _ => rfl) FO
def N_are_slices : List Str := ["formulas", "names", "k", "formula"]
theorem sc_are_slices : FnScope N_are_slices ["formulas", "names"] (defScope s_are_slices) := C8.fnScope_by (by decide +kernel)
theorem fn_are_slices (t : TX K mg base T) : ∃ fd, FunD K "are_slices" "are_slices" (defArgs s_are_slices) (defBody s_are_slices) (defScope s_are_slices) [] [] (He.fAd K ("are_slices", none)) fd ∧ FnOk P w K mg base CX0 85 (He.fAd K ("are_slices", none)) fd ["formulas", "names"] (spF K T 2 F_are_slices) := by
  obtain ⟨fd, F⟩ := t.d_are_slices
  refine ⟨fd, F, ?_⟩
  exact funD_ok (pin := [0, 1]) (m := 2) (k := 84) F sc_are_slices rfl rfl fun A outer s H E hr => (fss_cons (fs_if (cmpT o2_ne (xNe hr) (fe_callB on_len call_len rfl t.b_len boot_len (consA (fv 0) fa_nil)) (fe_bin o2_add op_addA (fe_callB on_len call_len rfl t.b_len boot_len (consA (fv 1) fa_nil)) fe_int)) (fss_one (fs_ret fe_bl)) fss_nil) (fss_one (fs_ret (fe_callB on_allL (cr_all rfl) rfl t.b_all boot_all (consA (lcE [("k", 2), ("formula", 3)] sc_are_slices.nd (enuI rfl t.b_enumerate (dE (fv 0))) (fun _ _ _ _ _ => (fg_tup rfl (fgs_cons (nmG 2 sc_are_slices.nd) (fgs_cons (nmG 3 sc_are_slices.nd) fgs_nil)))) (fun _ _ _ _ _ => fts_nil) (fun _ _ _ _ _ => dE (fe_call (cal_can_be_slice t) hr (by have := fuel_eq; omega) rfl (consA (fv 3) (consA (fv 1) (consA (fv 2) fa_nil))) (laC (laC (laC la_nil))))) (ul_tup (ul_cons ul_name (ul_cons ul_name ul_nil)))) fa_nil)))))
theorem cal_are_slices (t : TX K mg base T) : FN.Cal P w K mg base T 85 "are_slices" 2 F_are_slices [] := by
  obtain ⟨fd, F, FO⟩ := fn_are_slices (P := P) (w := w) t
  exact cal_of F t.g_are_slices (F.bindsN (ps := ["formulas", "names"]) fun _ _ _ _ _ _ us hl => match us, hl with | [_, _], _ => rfl) FO
theorem calk_are_slices (t : TX K mg base T) : FN.CalK P w K mg base T 85 "are_slices" ["formulas", "names"] 2 F_are_slices := by
  obtain ⟨fd, F, FO⟩ := fn_are_slices (P := P) (w := w) t
  exact calK_of F t.g_are_slices (kbn_of F (ks := ["formulas", "names"]) fun _ _ _ _ _ _ ws hl => match ws, hl with | [_, _], _ => rfl) FO
def N_unslice : List Str := ["formulas", "names", "places", "terms", "k", "formula", "name"]
theorem sc_unslice : FnScope N_unslice ["formulas", "names"] (defScope s_unslice) := C8.fnScope_by (by decide +kernel)
theorem fn_unslice (t : TX K mg base T) : ∃ fd, FunD K "unslice" "unslice" (defArgs s_unslice) (defBody s_unslice) (defScope s_unslice) [] [] (He.fAd K ("unslice", none)) fd ∧ FnOk P w K mg base CX0 42 (He.fAd K ("unslice", none)) fd ["formulas", "names"] (spF K T 2 F_unslice) := by
  obtain ⟨fd, F⟩ := t.d_unslice
  refine ⟨fd, F, ?_⟩
  exact funD_ok (pin := [0, 1]) (m := 5) (k := 41) F sc_unslice rfl rfl fun A outer s H E hr => (fss_cons (setS' 2 sc_unslice.nd (fe_callTy on_tuple call_tuple_of rfl t.b_tuple PyProof.Rows.boot_tuple (consA (lcE [("name", 6)] sc_unslice.nd (seqI (dE (fv 1))) (fun _ _ _ _ _ => (nmG 6 sc_unslice.nd)) (fun _ _ _ _ _ => fts_nil) (fun _ _ _ _ _ => dE (fe_call (cal_make_atom t) hr (by have := fuel_eq; omega) rfl (consA (fv 6) fa_nil) (laC la_nil))) ul_name) fa_nil))) (fss_cons (setS' 3 sc_unslice.nd (lstE fds_nil)) (fss_cons (forE (ws := [4, 5]) PassesOwn.never (enuI rfl t.b_enumerate (dE (fv 0))) (fg_tup rfl (fgs_cons (nmG 4 sc_unslice.nd) (fgs_cons (nmG 5 sc_unslice.nd) fgs_nil))) (fss_one (fs_append (n := 3) rfl (vis1 rfl) (dE (tupE (consD (dE fe_str) (consD (dE (tupE (consD (dE (fv 5)) (consD (dE (tupE (consD (dE fe_str) (consD (dE (fe_call (cal_at_least t fuel) hr (by have := fuel_eq; omega) rfl (consA (fv 2) (consA (fe_callB on_len call_len rfl t.b_len boot_len (consA (fv 2) fa_nil)) (consA (fe_bin o2_add op_addA (fv 4) fe_int) fa_nil))) (laC (laC (laC la_nil))))) fds_nil)))) fds_nil)))) fds_nil))))))) (fss_one (fs_ret (tupE (consD (dE fe_str) (consD (dE (fe_callTy on_tuple call_tuple_of rfl t.b_tuple PyProof.Rows.boot_tuple (consA (fv 3) fa_nil))) fds_nil))))))))
theorem cal_unslice (t : TX K mg base T) : FN.Cal P w K mg base T 42 "unslice" 2 F_unslice [] := by
  obtain ⟨fd, F, FO⟩ := fn_unslice (P := P) (w := w) t
  exact cal_of F t.g_unslice (F.bindsN (ps := ["formulas", "names"]) fun _ _ _ _ _ _ us hl => match us, hl with | [_, _], _ => rfl) FO
theorem calk_unslice (t : TX K mg base T) : FN.CalK P w K mg base T 42 "unslice" ["formulas", "names"] 2 F_unslice := by
  obtain ⟨fd, F, FO⟩ := fn_unslice (P := P) (w := w) t
  exact calK_of F t.g_unslice (kbn_of F (ks := ["formulas", "names"]) fun _ _ _ _ _ _ ws hl => match ws, hl with | [_, _], _ => rfl) FO
def N__law_cell : List Str := ["script", "at", "seed", "cell"]
theorem sc__law_cell : FnScope N__law_cell ["script", "at"] (defScope s__law_cell) := C8.fnScope_by (by decide +kernel)
theorem fn__law_cell (t : TX K mg base T) : ∃ fd, FunD K "_law_cell" "_law_cell" (defArgs s__law_cell) (defBody s__law_cell) (defScope s__law_cell) [] [] (He.fAd K ("_law_cell", none)) fd ∧ FnOk P w K mg base CX0 1 (He.fAd K ("_law_cell", none)) fd ["script", "at"] (spF K T 2 F__law_cell) := by
  obtain ⟨fd, F⟩ := t.d__law_cell
  refine ⟨fd, F, ?_⟩
  exact funD_ok (pin := [0, 1]) (m := 2) (k := 0) F sc__law_cell rfl rfl fun A outer s H E hr => (fss_cons (fs_if (cmpT o2_lt op_lt (fv 1) (fe_callB on_len call_len rfl t.b_len boot_len (consA (fv 0) fa_nil))) (fss_one (fs_ret (ixE (fv 0) (fv 1)))) fss_nil) (fss_cons (setS' 2 sc__law_cell.nd fe_int) (fss_cons (forE (ws := [3]) PassesOwn.never (seqI (dE (fv 0))) (nmG 3 sc__law_cell.nd) (fss_one (setS' 2 sc__law_cell.nd (fe_bin o2_mod op_mod (fe_callTy on_int call_int1 rfl t.b_int PyProof.Rows.boot_int (consA (fe_bin o2_add op_addA (fe_bin o2_mul op_mulA (fv 2) fe_int) (fe_bin o2_mod op_mod (fe_callTy on_int call_int1 rfl t.b_int PyProof.Rows.boot_int (consA (fv 3) fa_nil)) fe_int)) fa_nil)) fe_int)))) (fss_one (fs_ret (fe_bin o2_mod op_mod (fe_callTy on_int call_int1 rfl t.b_int PyProof.Rows.boot_int (consA (fe_bin o2_mul op_mulA (fe_bin o2_mul op_mulA (fe_bin o2_add op_addA (fv 2) fe_int) (fe_bin o2_add op_addA (fv 1) fe_int)) fe_int) fa_nil)) fe_int))))))
theorem cal__law_cell (t : TX K mg base T) : FN.Cal P w K mg base T 1 "_law_cell" 2 F__law_cell [] := by
  obtain ⟨fd, F, FO⟩ := fn__law_cell (P := P) (w := w) t
  exact cal_of F t.g__law_cell (F.bindsN (ps := ["script", "at"]) fun _ _ _ _ _ _ us hl => match us, hl with | [_, _], _ => rfl) FO
def N__law_digits : List Str := ["cell", "sizes", "row", "rest", "seed", "at", "size", "twice"]
theorem sc__law_digits : FnScope N__law_digits ["cell", "sizes"] (defScope s__law_digits) := C8.fnScope_by (by decide +kernel)
theorem fn__law_digits (t : TX K mg base T) : ∃ fd, FunD K "_law_digits" "_law_digits" (defArgs s__law_digits) (defBody s__law_digits) (defScope s__law_digits) [] [] (He.fAd K ("_law_digits", none)) fd ∧ FnOk P w K mg base CX0 1 (He.fAd K ("_law_digits", none)) fd ["cell", "sizes"] (spF K T 2 F__law_digits) := by
  obtain ⟨fd, F⟩ := t.d__law_digits
  refine ⟨fd, F, ?_⟩
  exact funD_ok (pin := [0, 1]) (m := 6) (k := 0) F sc__law_digits rfl rfl fun A outer s H E hr => (fss_cons (setS' 2 sc__law_digits.nd (lstE fds_nil)) (fss_cons (setS' 3 sc__law_digits.nd (fe_callTy on_int call_int1 rfl t.b_int PyProof.Rows.boot_int (consA (fv 0) fa_nil))) (fss_cons (fs_if (cmpT o2_ge op_ge (fv 3) (fe_bin o2_pow op_pow fe_int fe_int)) (fss_cons (setS' 3 sc__law_digits.nd (fe_bin o2_sub op_sub (fv 3) (fe_bin o2_pow op_pow fe_int fe_int))) (fss_cons (forE (ws := [6]) PassesOwn.never (seqI (dE (fv 1))) (nmG 6 sc__law_digits.nd) (fss_cons (fs_append (n := 2) rfl (vis1 rfl) (dE (fe_bin o2_mod op_mod (fe_callTy on_int call_int1 rfl t.b_int PyProof.Rows.boot_int (consA (fv 3) fa_nil)) (fv 6)))) (fss_one (setS' 3 sc__law_digits.nd (fe_bin o2_div op_fdiv (fe_callTy on_int call_int1 rfl t.b_int PyProof.Rows.boot_int (consA (fv 3) fa_nil)) (fv 6)))))) (fss_one (fs_ret (fv 2))))) fss_nil) (fss_cons (setS' 4 sc__law_digits.nd (fe_bin o2_mod op_mod (fe_callTy on_int call_int1 rfl t.b_int PyProof.Rows.boot_int (consA (fv 3) fa_nil)) fe_int)) (fss_cons (forE (ws := [5]) PassesOwn.never (fi_range1 rfl t.b_range (fe_callB on_len call_len rfl t.b_len boot_len (consA (fv 1) fa_nil))) (nmG 5 sc__law_digits.nd) (fss_cons (setS' 4 sc__law_digits.nd (fe_bin o2_mod op_mod (fe_callTy on_int call_int1 rfl t.b_int PyProof.Rows.boot_int (consA (fe_bin o2_add op_addA (fe_bin o2_add op_addA (fe_bin o2_mul op_mulA (fv 4) fe_int) (fe_bin o2_mul op_mulA fe_int (fv 5))) fe_int) fa_nil)) fe_int)) (fss_cons (setS' 7 sc__law_digits.nd (fe_bin o2_mod op_mod (fe_callTy on_int call_int1 rfl t.b_int PyProof.Rows.boot_int (consA (fe_bin o2_mul op_mulA (fv 4) (fe_bin o2_add op_addA (fe_bin o2_div op_fdiv (fv 4) fe_int) fe_int)) fa_nil)) fe_int)) (fss_one (fs_append (n := 2) rfl (vis1 rfl) (dE (fe_bin o2_mod op_mod (fe_bin o2_div op_fdiv (fv 7) fe_int) (ixE (fv 1) (fv 5))))))))) (fss_one (fs_ret (fv 2))))))))
theorem cal__law_digits (t : TX K mg base T) : FN.Cal P w K mg base T 1 "_law_digits" 2 F__law_digits [] := by
  obtain ⟨fd, F, FO⟩ := fn__law_digits (P := P) (w := w) t
  exact cal_of F t.g__law_digits (F.bindsN (ps := ["cell", "sizes"]) fun _ _ _ _ _ _ us hl => match us, hl with | [_, _], _ => rfl) FO
def N__law_take : List Str := ["row", "at", "size", "value"]
theorem sc__law_take : FnScope N__law_take ["row", "at", "size"] (defScope s__law_take) := C8.fnScope_by (by decide +kernel)
theorem fn__law_take (t : TX K mg base T) : ∃ fd, FunD K "_law_take" "_law_take" (defArgs s__law_take) (defBody s__law_take) (defScope s__law_take) [] [] (He.fAd K ("_law_take", none)) fd ∧ FnOk P w K mg base CX0 1 (He.fAd K ("_law_take", none)) fd ["row", "at", "size"] (spF K T 3 F__law_take) := by
  obtain ⟨fd, F⟩ := t.d__law_take
  refine ⟨fd, F, ?_⟩
  exact funD_ok (pin := [0, 1, 2]) (m := 1) (k := 0) F sc__law_take rfl rfl fun A outer s H E hr => (fss_cons (setS' 3 sc__law_take.nd (fe_bin o2_mod op_mod (fe_callTy on_int call_int1 rfl t.b_int PyProof.Rows.boot_int (consA (ixE (fv 0) (fe_bin o2_mod op_mod (ixE (fv 1) fe_int) (fe_callB on_len call_len rfl t.b_len boot_len (consA (fv 0) fa_nil)))) fa_nil)) (fv 2))) (fss_cons (fs_setG (ws := []) (dE (fe_bin o2_add op_addA (ixE (fv 1) fe_int) fe_int)) (fg_ix (n := 1) rfl (vis1 rfl) fe_int)) (fss_one (fs_ret (fv 3)))))
theorem cal__law_take (t : TX K mg base T) : FN.Cal P w K mg base T 1 "_law_take" 3 F__law_take [] := by
  obtain ⟨fd, F, FO⟩ := fn__law_take (P := P) (w := w) t
  exact cal_of F t.g__law_take (F.bindsN (ps := ["row", "at", "size"]) fun _ _ _ _ _ _ us hl => match us, hl with | [_, _, _], _ => rfl) FO
def N__law_words : List Str := ["digit", "many", "menus"]
theorem sc__law_words : FnScope N__law_words ["digit", "many"] (defScope s__law_words) := C8.fnScope_by (by decide +kernel)
theorem fn__law_words (t : TX K mg base T) : ∃ fd, FunD K "_law_words" "_law_words" (defArgs s__law_words) (defBody s__law_words) (defScope s__law_words) [] [] (He.fAd K ("_law_words", none)) fd ∧ FnOk P w K mg base CX0 1 (He.fAd K ("_law_words", none)) fd ["digit", "many"] (spF K T 2 F__law_words) := by
  obtain ⟨fd, F⟩ := t.d__law_words
  refine ⟨fd, F, ?_⟩
  exact funD_ok (pin := [0, 1]) (m := 1) (k := 0) F sc__law_words rfl rfl fun A outer s H E hr => (fss_cons (setS' 2 sc__law_words.nd (lstE (consD (dE (lstE (consD (dE fe_str) (consD (dE fe_str) (consD (dE fe_str) (consD (dE fe_str) fds_nil)))))) (consD (dE (lstE (consD (dE fe_str) (consD (dE fe_str) (consD (dE fe_str) (consD (dE fe_str) fds_nil)))))) (consD (dE (lstE (consD (dE fe_str) (consD (dE fe_str) (consD (dE fe_str) (consD (dE fe_str) fds_nil)))))) (consD (dE (lstE (consD (dE fe_str) (consD (dE fe_str) (consD (dE fe_str) (consD (dE fe_str) fds_nil)))))) (consD (dE (lstE (consD (dE fe_str) (consD (dE fe_str) (consD (dE fe_str) (consD (dE fe_str) fds_nil)))))) (consD (dE (lstE (consD (dE fe_str) (consD (dE fe_str) (consD (dE fe_str) (consD (dE fe_str) fds_nil)))))) (consD (dE (lstE (consD (dE fe_str) (consD (dE fe_str) (consD (dE fe_str) (consD (dE fe_str) fds_nil)))))) (consD (dE (lstE (consD (dE fe_str) (consD (dE fe_str) (consD (dE fe_str) (consD (dE fe_str) fds_nil)))))) (consD (dE (lstE (consD (dE fe_str) (consD (dE fe_str) (consD (dE fe_str) (consD (dE fe_str) fds_nil)))))) fds_nil))))))))))) (fss_one (fs_ret (fe_callTy on_tuple call_tuple_of rfl t.b_tuple PyProof.Rows.boot_tuple (consA (slE (ixE (fv 2) (fe_bin o2_mod op_mod (fe_callTy on_int call_int1 rfl t.b_int PyProof.Rows.boot_int (consA (fv 0) fa_nil)) fe_int)) fo_none (loE (fv 1))) fa_nil)))))
theorem cal__law_words (t : TX K mg base T) : FN.Cal P w K mg base T 1 "_law_words" 2 F__law_words [] := by
  obtain ⟨fd, F, FO⟩ := fn__law_words (P := P) (w := w) t
  exact cal_of F t.g__law_words (F.bindsN (ps := ["digit", "many"]) fun _ _ _ _ _ _ us hl => match us, hl with | [_, _], _ => rfl) FO
def N__law_all : List Str := ["words", "found", "word", "world"]
theorem sc__law_all : FnScope N__law_all ["words"] (defScope s__law_all) := C8.fnScope_by (by decide +kernel)
theorem fn__law_all (t : TX K mg base T) : ∃ fd, FunD K "_law_all" "_law_all" (defArgs s__law_all) (defBody s__law_all) (defScope s__law_all) [] [] (He.fAd K ("_law_all", none)) fd ∧ FnOk P w K mg base CX0 1 (He.fAd K ("_law_all", none)) fd ["words"] (spF K T 1 F__law_all) := by
  obtain ⟨fd, F⟩ := t.d__law_all
  refine ⟨fd, F, ?_⟩
  exact funD_ok (pin := [0]) (m := 3) (k := 0) F sc__law_all rfl rfl fun A outer s H E hr => (fss_cons (setS' 1 sc__law_all.nd (lstE (consD (dE (tupE fds_nil)) fds_nil))) (fss_cons (forE (ws := [2]) PassesOwn.never (seqI (dE (fv 0))) (nmG 2 sc__law_all.nd) (fss_one (setS' 1 sc__law_all.nd (fe_bin o2_add op_addA (fv 1) (lcE [("world", 3)] sc__law_all.nd (seqI (dE (fv 1))) (fun _ _ _ _ _ => (nmG 3 sc__law_all.nd)) (fun _ _ _ _ _ => fts_nil) (fun _ _ _ _ _ => dE (fe_bin o2_add op_addA (fv 3) (tupE (consD (dE (fv 2)) fds_nil)))) ul_name))))) (fss_one (fs_ret (fv 1)))))
theorem cal__law_all (t : TX K mg base T) : FN.Cal P w K mg base T 1 "_law_all" 1 F__law_all [] := by
  obtain ⟨fd, F, FO⟩ := fn__law_all (P := P) (w := w) t
  exact cal_of F t.g__law_all (F.bindsN (ps := ["words"]) fun _ _ _ _ _ _ us hl => match us, hl with | [_], _ => rfl) FO
def N__law_below : List Str := ["low", "high", "word"]
theorem sc__law_below : FnScope N__law_below ["low", "high"] (defScope s__law_below) := C8.fnScope_by (by decide +kernel)
theorem fn__law_below (t : TX K mg base T) : ∃ fd, FunD K "_law_below" "_law_below" (defArgs s__law_below) (defBody s__law_below) (defScope s__law_below) [] [] (He.fAd K ("_law_below", none)) fd ∧ FnOk P w K mg base CX0 1 (He.fAd K ("_law_below", none)) fd ["low", "high"] (spF K T 2 F__law_below) := by
  obtain ⟨fd, F⟩ := t.d__law_below
  refine ⟨fd, F, ?_⟩
  exact funD_ok (pin := [0, 1]) (m := 1) (k := 0) F sc__law_below rfl rfl fun A outer s H E hr => (fss_cons (forE (ws := [2]) PassesOwn.never (seqI (dE (fv 0))) (nmG 2 sc__law_below.nd) (fss_one (fs_if (cmpT o2_inB (xNi hr) (fv 2) (fv 1)) (fss_one (fs_ret fe_bl)) fss_nil))) (fss_one (fs_ret fe_bl)))
theorem cal__law_below (t : TX K mg base T) : FN.Cal P w K mg base T 1 "_law_below" 2 F__law_below [] := by
  obtain ⟨fd, F, FO⟩ := fn__law_below (P := P) (w := w) t
  exact cal_of F t.g__law_below (F.bindsN (ps := ["low", "high"]) fun _ _ _ _ _ _ us hl => match us, hl with | [_, _], _ => rfl) FO
def N__law_on : List Str := ["member", "world", "part"]
theorem sc__law_on : FnScope N__law_on ["member", "world"] (defScope s__law_on) := C8.fnScope_by (by decide +kernel)
theorem fn__law_on (t : TX K mg base T) (k : Nat) : ∃ fd, FunD K "_law_on" "_law_on" (defArgs s__law_on) (defBody s__law_on) (defScope s__law_on) [] [] (He.fAd K ("_law_on", none)) fd ∧ FnOk P w K mg base CX0 (1 + 1 * k) (He.fAd K ("_law_on", none)) fd ["member", "world"] (spF K T 2 (F__law_on k)) := by
  obtain ⟨fd, F⟩ := t.d__law_on
  refine ⟨fd, F, ?_⟩
  have b : Binds K fd ["member", "world"] [] := F.bindsN (ps := ["member", "world"]) fun _ _ _ _ _ _ us hl => match us, hl with | [_, _], _ => rfl
  induction k with
  | zero => exact fn_none rfl
  | succ k ih0 =>
    have ih : FN.Cal P w K mg base T (1 + 1 * k) "_law_on" 2 (F__law_on k) [] := cal_of F t.g__law_on b ih0
    have e : 1 + 1 * (k + 1) = (1 + 1 * k + 0) + 1 := by omega
    rw [e]
    exact funD_ok (pin := [0, 1]) (m := 1) (k := 1 + 1 * k + 0) F sc__law_on rfl rfl fun A outer s H E hr => (fss_cons (fs_if (cmpT o2_eq (xEq hr) (ixE (fv 0) fe_int) fe_str) (fss_one (fs_ret (cmpE o2_inB (xIn hr) (ixE (fv 0) fe_int) (fv 1)))) fss_nil) (fss_cons (fs_if (cmpT o2_eq (xEq hr) (ixE (fv 0) fe_int) fe_str) (fss_one (fs_ret (notE (fe_call ih hr (by have := fuel_eq; omega) rfl (consA (ixE (fv 0) fe_int) (consA (fv 1) fa_nil)) (laC (laC la_nil)))))) fss_nil) (fss_cons (forE (ws := [2]) PassesOwn.never (seqI (dE (ixE (fv 0) fe_int))) (nmG 2 sc__law_on.nd) (fss_one (fs_if (cmpT o2_ne (xNe hr) (fe_call ih hr (by have := fuel_eq; omega) rfl (consA (fv 2) (consA (fv 1) fa_nil)) (laC (laC la_nil))) (cmpE o2_eq (xEq hr) (ixE (fv 0) fe_int) fe_str)) (fss_one (fs_ret (cmpE o2_ne (xNe hr) (ixE (fv 0) fe_int) fe_str))) fss_nil))) (fss_one (fs_ret (cmpE o2_eq (xEq hr) (ixE (fv 0) fe_int) fe_str))))))
theorem cal__law_on (t : TX K mg base T) (k : Nat) : FN.Cal P w K mg base T (1 + 1 * k) "_law_on" 2 (F__law_on k) [] := by
  obtain ⟨fd, F, FO⟩ := fn__law_on (P := P) (w := w) t k
  exact cal_of F t.g__law_on (F.bindsN (ps := ["member", "world"]) fun _ _ _ _ _ _ us hl => match us, hl with | [_, _], _ => rfl) FO
def N__law_is_name : List Str := ["value", "at"]
theorem sc__law_is_name : FnScope N__law_is_name ["value"] (defScope s__law_is_name) := C8.fnScope_by (by decide +kernel)
theorem fn__law_is_name (t : TX K mg base T) : ∃ fd, FunD K "_law_is_name" "_law_is_name" (defArgs s__law_is_name) (defBody s__law_is_name) (defScope s__law_is_name) [] [] (He.fAd K ("_law_is_name", none)) fd ∧ FnOk P w K mg base CX0 1 (He.fAd K ("_law_is_name", none)) fd ["value"] (spF K T 1 F__law_is_name) := by
  obtain ⟨fd, F⟩ := t.d__law_is_name
  refine ⟨fd, F, ?_⟩
  exact funD_ok (pin := [0]) (m := 1) (k := 0) F sc__law_is_name rfl rfl fun A outer s H E hr => (fss_cons (fs_if (ft_w (fw_or (notT (valT (fe_isi rfl t.b_isinstance boot_isinstance rfl t.b_str PyProof.Rows.boot_str (fv 0)))) (fw_or (notT (ft_chain o2_le op_le o2_le op_le fe_int (fe_callB on_len call_len rfl t.b_len boot_len (consA (fv 0) fa_nil)) fe_int)) (fw_or1 (cmpT o2_inB (xIn hr) (fv 0) (lstE (consD (dE fe_str) (consD (dE fe_str) (consD (dE fe_str) (consD (dE fe_str) fds_nil)))))))))) (fss_one (fs_ret fe_bl)) fss_nil) (fss_cons (forE (ws := [1]) PassesOwn.never (fi_range1 rfl t.b_range (fe_callB on_len call_len rfl t.b_len boot_len (consA (fv 0) fa_nil))) (nmG 1 sc__law_is_name.nd) (fss_one (fs_if (ft_w (fw_or (cmpT o2_inB (xNi hr) (ixE (fv 0) (fv 1)) fe_str) (fw_or1 (ft_w (fw_and (cmpT o2_eq (xEq hr) (fv 1) fe_int) (fw_and1 (cmpT o2_inB (xIn hr) (ixE (fv 0) (fv 1)) fe_str))))))) (fss_one (fs_ret fe_bl)) fss_nil))) (fss_one (fs_ret fe_bl))))
theorem cal__law_is_name (t : TX K mg base T) : FN.Cal P w K mg base T 1 "_law_is_name" 1 F__law_is_name [] := by
  obtain ⟨fd, F, FO⟩ := fn__law_is_name (P := P) (w := w) t
  exact cal_of F t.g__law_is_name (F.bindsN (ps := ["value"]) fun _ _ _ _ _ _ us hl => match us, hl with | [_], _ => rfl) FO
def N__law_is_formula : List Str := ["value", "part"]
theorem sc__law_is_formula : FnScope N__law_is_formula ["value"] (defScope s__law_is_formula) := C8.fnScope_by (by decide +kernel)
theorem fn__law_is_formula (t : TX K mg base T) (k : Nat) : ∃ fd, FunD K "_law_is_formula" "_law_is_formula" (defArgs s__law_is_formula) (defBody s__law_is_formula) (defScope s__law_is_formula) [] [] (He.fAd K ("_law_is_formula", none)) fd ∧ FnOk P w K mg base CX0 (2 + 1 * k) (He.fAd K ("_law_is_formula", none)) fd ["value"] (spF K T 1 (F__law_is_formula k)) := by
  obtain ⟨fd, F⟩ := t.d__law_is_formula
  refine ⟨fd, F, ?_⟩
  have b : Binds K fd ["value"] [] := F.bindsN (ps := ["value"]) fun _ _ _ _ _ _ us hl => match us, hl with | [_], _ => rfl
  induction k with
  | zero => exact fn_none rfl
  | succ k ih0 =>
    have ih : FN.Cal P w K mg base T (2 + 1 * k) "_law_is_formula" 1 (F__law_is_formula k) [] := cal_of F t.g__law_is_formula b ih0
    have e : 2 + 1 * (k + 1) = (2 + 1 * k + 0) + 1 := by omega
    rw [e]
    exact funD_ok (pin := [0]) (m := 1) (k := 2 + 1 * k + 0) F sc__law_is_formula rfl rfl fun A outer s H E hr => (fss_cons (fs_if (ft_w (fw_or (notT (valT (fe_isi rfl t.b_isinstance boot_isinstance rfl t.b_tuple PyProof.Rows.boot_tuple (fv 0)))) (fw_or (cmpT o2_ne (xNe hr) (fe_callB on_len call_len rfl t.b_len boot_len (consA (fv 0) fa_nil)) fe_int) (fw_or1 (notT (valT (fe_isi rfl t.b_isinstance boot_isinstance rfl t.b_str PyProof.Rows.boot_str (ixE (fv 0) fe_int)))))))) (fss_one (fs_ret fe_bl)) fss_nil) (fss_cons (fs_if (cmpT o2_eq (xEq hr) (ixE (fv 0) fe_int) fe_str) (fss_one (fs_ret (fe_call (cal__law_is_name t) hr (by have := fuel_eq; omega) rfl (consA (ixE (fv 0) fe_int) fa_nil) (laC la_nil)))) fss_nil) (fss_cons (fs_if (ft_w (fw_or (cmpT o2_inB (xNi hr) (ixE (fv 0) fe_int) (lstE (consD (dE fe_str) (consD (dE fe_str) fds_nil)))) (fw_or1 (notT (valT (fe_isi rfl t.b_isinstance boot_isinstance rfl t.b_tuple PyProof.Rows.boot_tuple (ixE (fv 0) fe_int))))))) (fss_one (fs_ret fe_bl)) fss_nil) (fss_cons (forE (ws := [1]) PassesOwn.never (seqI (dE (ixE (fv 0) fe_int))) (nmG 1 sc__law_is_formula.nd) (fss_cons (fs_if (ft_w (fw_or (notT (valT (fe_isi rfl t.b_isinstance boot_isinstance rfl t.b_tuple PyProof.Rows.boot_tuple (fv 1)))) (fw_or1 (cmpT o2_ne (xNe hr) (fe_callB on_len call_len rfl t.b_len boot_len (consA (fv 1) fa_nil)) fe_int)))) (fss_one (fs_ret fe_bl)) fss_nil) (fss_one (fs_if (cmpT o2_eq (xEq hr) (ixE (fv 1) fe_int) fe_str) (fss_one (fs_if (notT (valT (fe_call ih hr (by have := fuel_eq; omega) rfl (consA (ixE (fv 1) fe_int) fa_nil) (laC la_nil)))) (fss_one (fs_ret fe_bl)) fss_nil)) (fss_one (fs_if (notT (valT (fe_call ih hr (by have := fuel_eq; omega) rfl (consA (fv 1) fa_nil) (laC la_nil)))) (fss_one (fs_ret fe_bl)) fss_nil)))))) (fss_one (fs_ret fe_bl))))))
theorem cal__law_is_formula (t : TX K mg base T) (k : Nat) : FN.Cal P w K mg base T (2 + 1 * k) "_law_is_formula" 1 (F__law_is_formula k) [] := by
  obtain ⟨fd, F, FO⟩ := fn__law_is_formula (P := P) (w := w) t k
  exact cal_of F t.g__law_is_formula (F.bindsN (ps := ["value"]) fun _ _ _ _ _ _ us hl => match us, hl with | [_], _ => rfl) FO
def N__law_positive : List Str := ["member", "part"]
theorem sc__law_positive : FnScope N__law_positive ["member"] (defScope s__law_positive) := C8.fnScope_by (by decide +kernel)
theorem fn__law_positive (t : TX K mg base T) (k : Nat) : ∃ fd, FunD K "_law_positive" "_law_positive" (defArgs s__law_positive) (defBody s__law_positive) (defScope s__law_positive) [] [] (He.fAd K ("_law_positive", none)) fd ∧ FnOk P w K mg base CX0 (1 + 1 * k) (He.fAd K ("_law_positive", none)) fd ["member"] (spF K T 1 (F__law_positive k)) := by
  obtain ⟨fd, F⟩ := t.d__law_positive
  refine ⟨fd, F, ?_⟩
  have b : Binds K fd ["member"] [] := F.bindsN (ps := ["member"]) fun _ _ _ _ _ _ us hl => match us, hl with | [_], _ => rfl
  induction k with
  | zero => exact fn_none rfl
  | succ k ih0 =>
    have ih : FN.Cal P w K mg base T (1 + 1 * k) "_law_positive" 1 (F__law_positive k) [] := cal_of F t.g__law_positive b ih0
    have e : 1 + 1 * (k + 1) = (1 + 1 * k + 0) + 1 := by omega
    rw [e]
    exact funD_ok (pin := [0]) (m := 1) (k := 1 + 1 * k + 0) F sc__law_positive rfl rfl fun A outer s H E hr => (fss_cons (fs_if (cmpT o2_eq (xEq hr) (ixE (fv 0) fe_int) fe_str) (fss_one (fs_ret fe_bl)) fss_nil) (fss_cons (fs_if (cmpT o2_eq (xEq hr) (ixE (fv 0) fe_int) fe_str) (fss_one (fs_ret fe_bl)) fss_nil) (fss_cons (forE (ws := [1]) PassesOwn.never (seqI (dE (ixE (fv 0) fe_int))) (nmG 1 sc__law_positive.nd) (fss_one (fs_if (notT (valT (fe_call ih hr (by have := fuel_eq; omega) rfl (consA (fv 1) fa_nil) (laC la_nil)))) (fss_one (fs_ret fe_bl)) fss_nil))) (fss_one (fs_ret fe_bl)))))
theorem cal__law_positive (t : TX K mg base T) (k : Nat) : FN.Cal P w K mg base T (1 + 1 * k) "_law_positive" 1 (F__law_positive k) [] := by
  obtain ⟨fd, F, FO⟩ := fn__law_positive (P := P) (w := w) t k
  exact cal_of F t.g__law_positive (F.bindsN (ps := ["member"]) fun _ _ _ _ _ _ us hl => match us, hl with | [_], _ => rfl) FO
def N__law_formula : List Str := ["row", "at", "words", "deep", "most", "pick", "members", "turn", "inner"]
theorem sc__law_formula : FnScope N__law_formula ["row", "at", "words", "deep", "most"] (defScope s__law_formula) := C8.fnScope_by (by decide +kernel)
theorem fn__law_formula (t : TX K mg base T) (k : Nat) : ∃ fd, FunD K "_law_formula" "_law_formula" (defArgs s__law_formula) (defBody s__law_formula) (defScope s__law_formula) [] [] (He.fAd K ("_law_formula", none)) fd ∧ FnOk P w K mg base CX0 (2 + 1 * k) (He.fAd K ("_law_formula", none)) fd ["row", "at", "words", "deep", "most"] (spF K T 5 (F__law_formula k)) := by
  obtain ⟨fd, F⟩ := t.d__law_formula
  refine ⟨fd, F, ?_⟩
  have b : Binds K fd ["row", "at", "words", "deep", "most"] [] := F.bindsN (ps := ["row", "at", "words", "deep", "most"]) fun _ _ _ _ _ _ us hl => match us, hl with | [_, _, _, _, _], _ => rfl
  induction k with
  | zero => exact fn_none rfl
  | succ k ih0 =>
    have ih : FN.Cal P w K mg base T (2 + 1 * k) "_law_formula" 5 (F__law_formula k) [] := cal_of F t.g__law_formula b ih0
    have e : 2 + 1 * (k + 1) = (2 + 1 * k + 0) + 1 := by omega
    rw [e]
    exact funD_ok (pin := [0, 1, 2, 3, 4]) (m := 4) (k := 2 + 1 * k + 0) F sc__law_formula rfl rfl fun A outer s H E hr => (fss_cons (setS' 5 sc__law_formula.nd (fe_call (cal__law_take t) hr (by have := fuel_eq; omega) rfl (consA (fv 0) (consA (fv 1) (consA fe_int fa_nil))) (laC (laC (laC la_nil))))) (fss_cons (fs_if (ft_w (fw_and (cmpT o2_gt op_gt (fe_callB on_len call_len rfl t.b_len boot_len (consA (fv 2) fa_nil)) fe_int) (fw_and1 (ft_w (fw_or (cmpT o2_eq (xEq hr) (fv 3) fe_int) (fw_or1 (cmpT o2_lt op_lt (fv 5) fe_int))))))) (fss_one (fs_ret (tupE (consD (dE fe_str) (consD (dE (ixE (fv 2) (fe_bin o2_mod op_mod (fe_callTy on_int call_int1 rfl t.b_int PyProof.Rows.boot_int (consA (fe_call (cal__law_take t) hr (by have := fuel_eq; omega) rfl (consA (fv 0) (consA (fv 1) (consA fe_int fa_nil))) (laC (laC (laC la_nil)))) fa_nil)) (fe_callB on_len call_len rfl t.b_len boot_len (consA (fv 2) fa_nil))))) fds_nil))))) fss_nil) (fss_cons (setS' 6 sc__law_formula.nd (lstE fds_nil)) (fss_cons (fs_if (cmpT o2_gt op_gt (fv 3) fe_int) (fss_one (forE (ws := [7]) PassesOwn.never (fi_range1 rfl t.b_range (fe_callB on_min2 (call_min2 rfl) rfl t.b_min boot_min (consA (fv 4) (consA (ixE (lstE (consD (dE fe_int) (consD (dE fe_int) (consD (dE fe_int) (consD (dE fe_int) (consD (dE fe_int) (consD (dE fe_int) (consD (dE fe_int) (consD (dE fe_int) (consD (dE fe_int) (consD (dE fe_int) (consD (dE fe_int) (consD (dE fe_int) fds_nil))))))))))))) (fe_call (cal__law_take t) hr (by have := fuel_eq; omega) rfl (consA (fv 0) (consA (fv 1) (consA fe_int fa_nil))) (laC (laC (laC la_nil))))) fa_nil)))) (nmG 7 sc__law_formula.nd) (fss_cons (setS' 8 sc__law_formula.nd (fe_call ih hr (by have := fuel_eq; omega) rfl (consA (fv 0) (consA (fv 1) (consA (fv 2) (consA (fe_bin o2_sub op_sub (fv 3) fe_int) (consA fe_int fa_nil))))) (laC (laC (laC (laC (laC la_nil))))))) (fss_cons (fs_if (cmpT o2_lt op_lt (fe_call (cal__law_take t) hr (by have := fuel_eq; omega) rfl (consA (fv 0) (consA (fv 1) (consA fe_int fa_nil))) (laC (laC (laC la_nil)))) fe_int) (fss_one (setS' 8 sc__law_formula.nd (tupE (consD (dE fe_str) (consD (dE (fv 8)) fds_nil))))) fss_nil) (fss_one (fs_append (n := 6) rfl (vis1 rfl) (dE (fv 8)))))))) fss_nil) (fss_one (fs_ret (tupE (consD (dE (ixE (lstE (consD (dE fe_str) (consD (dE fe_str) fds_nil))) (fe_call (cal__law_take t) hr (by have := fuel_eq; omega) rfl (consA (fv 0) (consA (fv 1) (consA fe_int fa_nil))) (laC (laC (laC la_nil)))))) (consD (dE (fe_callTy on_tuple call_tuple_of rfl t.b_tuple PyProof.Rows.boot_tuple (consA (fv 6) fa_nil))) fds_nil)))))))))
theorem cal__law_formula (t : TX K mg base T) (k : Nat) : FN.Cal P w K mg base T (2 + 1 * k) "_law_formula" 5 (F__law_formula k) [] := by
  obtain ⟨fd, F, FO⟩ := fn__law_formula (P := P) (w := w) t k
  exact cal_of F t.g__law_formula (F.bindsN (ps := ["row", "at", "words", "deep", "most"]) fun _ _ _ _ _ _ us hl => match us, hl with | [_, _, _, _, _], _ => rfl) FO
def N__law_tower : List Str := ["row", "at", "words", "high", "tower", "turn", "members", "other"]
theorem sc__law_tower : FnScope N__law_tower ["row", "at", "words", "high"] (defScope s__law_tower) := C8.fnScope_by (by decide +kernel)
theorem fn__law_tower (t : TX K mg base T) : ∃ fd, FunD K "_law_tower" "_law_tower" (defArgs s__law_tower) (defBody s__law_tower) (defScope s__law_tower) [] [] (He.fAd K ("_law_tower", none)) fd ∧ FnOk P w K mg base CX0 2 (He.fAd K ("_law_tower", none)) fd ["row", "at", "words", "high"] (spF K T 4 F__law_tower) := by
  obtain ⟨fd, F⟩ := t.d__law_tower
  refine ⟨fd, F, ?_⟩
  exact funD_ok (pin := [0, 1, 2, 3]) (m := 4) (k := 1) F sc__law_tower rfl rfl fun A outer s H E hr => (fss_cons (setS' 4 sc__law_tower.nd (tupE (consD (dE (ixE (lstE (consD (dE fe_str) (consD (dE fe_str) fds_nil))) (fe_call (cal__law_take t) hr (by have := fuel_eq; omega) rfl (consA (fv 0) (consA (fv 1) (consA fe_int fa_nil))) (laC (laC (laC la_nil)))))) (consD (dE (tupE fds_nil)) fds_nil)))) (fss_cons (fs_if (cmpT o2_gt op_gt (fe_callB on_len call_len rfl t.b_len boot_len (consA (fv 2) fa_nil)) fe_int) (fss_one (setS' 4 sc__law_tower.nd (tupE (consD (dE fe_str) (consD (dE (ixE (fv 2) (fe_bin o2_mod op_mod (fe_callTy on_int call_int1 rfl t.b_int PyProof.Rows.boot_int (consA (fe_call (cal__law_take t) hr (by have := fuel_eq; omega) rfl (consA (fv 0) (consA (fv 1) (consA fe_int fa_nil))) (laC (laC (laC la_nil)))) fa_nil)) (fe_callB on_len call_len rfl t.b_len boot_len (consA (fv 2) fa_nil))))) fds_nil))))) fss_nil) (fss_cons (forE (ws := [5]) PassesOwn.never (fi_range1 rfl t.b_range (fe_bin o2_sub op_sub (fv 3) (fe_callTy on_int call_int1 rfl t.b_int PyProof.Rows.boot_int (consA (cmpE o2_eq (xEq hr) (fe_callB on_len call_len rfl t.b_len boot_len (consA (fv 2) fa_nil)) fe_int) fa_nil)))) (nmG 5 sc__law_tower.nd) (fss_cons (setS' 6 sc__law_tower.nd (lstE (consD (dE (fv 4)) fds_nil))) (fss_cons (fs_if (cmpT o2_gt op_gt (fe_call (cal__law_take t) hr (by have := fuel_eq; omega) rfl (consA (fv 0) (consA (fv 1) (consA fe_int fa_nil))) (laC (laC (laC la_nil)))) fe_int) (fss_one (setS' 6 sc__law_tower.nd (lstE (consD (dE (tupE (consD (dE fe_str) (consD (dE (fv 4)) fds_nil)))) fds_nil)))) fss_nil) (fss_cons (fs_if (cmpT o2_gt op_gt (fe_callB on_len call_len rfl t.b_len boot_len (consA (fv 2) fa_nil)) fe_int) (fss_cons (setS' 7 sc__law_tower.nd (tupE (consD (dE fe_str) (consD (dE (ixE (fv 2) (fe_bin o2_mod op_mod (fe_callTy on_int call_int1 rfl t.b_int PyProof.Rows.boot_int (consA (fe_call (cal__law_take t) hr (by have := fuel_eq; omega) rfl (consA (fv 0) (consA (fv 1) (consA fe_int fa_nil))) (laC (laC (laC la_nil)))) fa_nil)) (fe_callB on_len call_len rfl t.b_len boot_len (consA (fv 2) fa_nil))))) fds_nil)))) (fss_cons (fs_if (cmpT o2_eq (xEq hr) (fe_call (cal__law_take t) hr (by have := fuel_eq; omega) rfl (consA (fv 0) (consA (fv 1) (consA fe_int fa_nil))) (laC (laC (laC la_nil)))) fe_int) (fss_one (setS' 7 sc__law_tower.nd (tupE (consD (dE fe_str) (consD (dE (fv 7)) fds_nil))))) fss_nil) (fss_one (fs_insert (n := 6) rfl (vis1 rfl) (fe_call (cal__law_take t) hr (by have := fuel_eq; omega) rfl (consA (fv 0) (consA (fv 1) (consA fe_int fa_nil))) (laC (laC (laC la_nil)))) (dE (fv 7)))))) fss_nil) (fss_one (setS' 4 sc__law_tower.nd (tupE (consD (dE (ixE (lstE (consD (dE fe_str) (consD (dE fe_str) fds_nil))) (fe_call (cal__law_take t) hr (by have := fuel_eq; omega) rfl (consA (fv 0) (consA (fv 1) (consA fe_int fa_nil))) (laC (laC (laC la_nil)))))) (consD (dE (fe_callTy on_tuple call_tuple_of rfl t.b_tuple PyProof.Rows.boot_tuple (consA (fv 6) fa_nil))) fds_nil))))))))) (fss_one (fs_ret (fv 4))))))
theorem cal__law_tower (t : TX K mg base T) : FN.Cal P w K mg base T 2 "_law_tower" 4 F__law_tower [] := by
  obtain ⟨fd, F, FO⟩ := fn__law_tower (P := P) (w := w) t
  exact cal_of F t.g__law_tower (F.bindsN (ps := ["row", "at", "words", "high"]) fun _ _ _ _ _ _ us hl => match us, hl with | [_, _, _, _], _ => rfl) FO
def N__law_exactly : List Str := ["world", "words", "members", "word"]
theorem sc__law_exactly : FnScope N__law_exactly ["world", "words"] (defScope s__law_exactly) := C8.fnScope_by (by decide +kernel)
theorem fn__law_exactly (t : TX K mg base T) : ∃ fd, FunD K "_law_exactly" "_law_exactly" (defArgs s__law_exactly) (defBody s__law_exactly) (defScope s__law_exactly) [] [] (He.fAd K ("_law_exactly", none)) fd ∧ FnOk P w K mg base CX0 1 (He.fAd K ("_law_exactly", none)) fd ["world", "words"] (spF K T 2 F__law_exactly) := by
  obtain ⟨fd, F⟩ := t.d__law_exactly
  refine ⟨fd, F, ?_⟩
  exact funD_ok (pin := [0, 1]) (m := 2) (k := 0) F sc__law_exactly rfl rfl fun A outer s H E hr => (fss_cons (setS' 2 sc__law_exactly.nd (lstE fds_nil)) (fss_cons (forE (ws := [3]) PassesOwn.never (seqI (dE (fv 1))) (nmG 3 sc__law_exactly.nd) (fss_one (fs_if (cmpT o2_inB (xIn hr) (fv 3) (fv 0)) (fss_one (fs_append (n := 2) rfl (vis1 rfl) (dE (tupE (consD (dE fe_str) (consD (dE (fv 3)) fds_nil)))))) (fss_one (fs_append (n := 2) rfl (vis1 rfl) (dE (tupE (consD (dE fe_str) (consD (dE (tupE (consD (dE fe_str) (consD (dE (fv 3)) fds_nil)))) fds_nil))))))))) (fss_one (fs_ret (tupE (consD (dE fe_str) (consD (dE (fe_callTy on_tuple call_tuple_of rfl t.b_tuple PyProof.Rows.boot_tuple (consA (fv 2) fa_nil))) fds_nil)))))))
theorem cal__law_exactly (t : TX K mg base T) : FN.Cal P w K mg base T 1 "_law_exactly" 2 F__law_exactly [] := by
  obtain ⟨fd, F, FO⟩ := fn__law_exactly (P := P) (w := w) t
  exact cal_of F t.g__law_exactly (F.bindsN (ps := ["world", "words"]) fun _ _ _ _ _ _ us hl => match us, hl with | [_, _], _ => rfl) FO
def N__law_form : List Str := ["lot", "alls", "world", "lower", "low", "word"]
theorem sc__law_form : FnScope N__law_form ["lot"] (defScope s__law_form) := C8.fnScope_by (by decide +kernel)
theorem fn__law_form (t : TX K mg base T) : ∃ fd, FunD K "_law_form" "_law_form" (defArgs s__law_form) (defBody s__law_form) (defScope s__law_form) [] [] (He.fAd K ("_law_form", none)) fd ∧ FnOk P w K mg base CX0 2 (He.fAd K ("_law_form", none)) fd ["lot"] (spF K T 1 F__law_form) := by
  obtain ⟨fd, F⟩ := t.d__law_form
  refine ⟨fd, F, ?_⟩
  exact funD_ok (pin := [0]) (m := 5) (k := 1) F sc__law_form rfl rfl fun A outer s H E hr => (fss_cons (setS' 1 sc__law_form.nd (lstE fds_nil)) (fss_cons (forE (ws := [2]) PassesOwn.never (seqI (dE (fv 0))) (nmG 2 sc__law_form.nd) (fss_cons (setL 3 [("low", 4)] sc__law_form.nd (seqI (dE (fv 0))) (fun _ _ _ _ _ => (nmG 4 sc__law_form.nd)) (fun _ _ _ _ _ => (fts_one (ft_w (fw_and (cmpT o2_ne (xNe hr) (fv 4) (fv 2)) (fw_and1 (valT (fe_call (cal__law_below t) hr (by have := fuel_eq; omega) rfl (consA (fv 4) (consA (fv 2) fa_nil)) (laC (laC la_nil))))))))) (fun _ _ _ _ _ => dE (fv 4)) ul_name) (fss_one (fs_if (cmpT o2_eq (xEq hr) (fe_callB on_len call_len rfl t.b_len boot_len (consA (fv 3) fa_nil)) fe_int) (fss_one (fs_append (n := 1) rfl (vis1 rfl) (dE (tupE (consD (dE fe_str) (consD (dE (fe_callTy on_tuple call_tuple_of rfl t.b_tuple PyProof.Rows.boot_tuple (consA (lcE [("word", 5)] sc__law_form.nd (seqI (dE (fv 2))) (fun _ _ _ _ _ => (nmG 5 sc__law_form.nd)) (fun _ _ _ _ _ => fts_nil) (fun _ _ _ _ _ => dE (tupE (consD (dE fe_str) (consD (dE (fv 5)) fds_nil)))) ul_name) fa_nil))) fds_nil)))))) fss_nil)))) (fss_one (fs_ret (tupE (consD (dE fe_str) (consD (dE (fe_callTy on_tuple call_tuple_of rfl t.b_tuple PyProof.Rows.boot_tuple (consA (fv 1) fa_nil))) fds_nil)))))))
theorem cal__law_form (t : TX K mg base T) : FN.Cal P w K mg base T 2 "_law_form" 1 F__law_form [] := by
  obtain ⟨fd, F, FO⟩ := fn__law_form (P := P) (w := w) t
  exact cal_of F t.g__law_form (F.bindsN (ps := ["lot"]) fun _ _ _ _ _ _ us hl => match us, hl with | [_], _ => rfl) FO
def N__law_by_bits : List Str := ["words", "bits", "picks", "turned", "worlds", "lot", "grown", "off", "more", "pick", "term", "rest", "at", "world"]
theorem sc__law_by_bits : FnScope N__law_by_bits ["words", "bits", "picks", "turned"] (defScope s__law_by_bits) := C8.fnScope_by (by decide +kernel)
theorem fn__law_by_bits (t : TX K mg base T) : ∃ fd, FunD K "_law_by_bits" "_law_by_bits" (defArgs s__law_by_bits) (defBody s__law_by_bits) (defScope s__law_by_bits) [] [] (He.fAd K ("_law_by_bits", none)) fd ∧ FnOk P w K mg base CX0 42 (He.fAd K ("_law_by_bits", none)) fd ["words", "bits", "picks", "turned"] (spF K T 4 F__law_by_bits) := by
  obtain ⟨fd, F⟩ := t.d__law_by_bits
  refine ⟨fd, F, ?_⟩
  exact funD_ok (pin := [0, 1, 2, 3]) (m := 10) (k := 41) F sc__law_by_bits rfl rfl fun A outer s H E hr => (fss_cons (setS' 4 sc__law_by_bits.nd (fe_call (cal__law_all t) hr (by have := fuel_eq; omega) rfl (consA (fv 0) fa_nil) (laC la_nil))) (fss_cons (setS' 5 sc__law_by_bits.nd (lcE [("at", 12)] sc__law_by_bits.nd (fi_range1 rfl t.b_range (fe_callB on_len call_len rfl t.b_len boot_len (consA (fv 4) fa_nil))) (fun _ _ _ _ _ => (nmG 12 sc__law_by_bits.nd)) (fun _ _ _ _ _ => (fts_one (cmpT o2_eq (xEq hr) (ixE (fv 1) (fv 12)) fe_int))) (fun _ _ _ _ _ => dE (ixE (fv 4) (fv 12))) ul_name)) (fss_cons (fs_if (cmpT o2_lt op_lt (fe_callB on_len call_len rfl t.b_len boot_len (consA (fv 0) fa_nil)) fe_int) (fss_cons (fs_if (valT (fv 3)) (fss_cons (setL 11 [("world", 13)] sc__law_by_bits.nd (seqI (dE (fv 4))) (fun _ _ _ _ _ => (nmG 13 sc__law_by_bits.nd)) (fun _ _ _ _ _ => (fts_one (cmpT o2_inB (xNi hr) (fv 13) (fv 5)))) (fun _ _ _ _ _ => dE (fv 13)) ul_name) (fss_one (fs_ret (tupE (consD (dE fe_str) (consD (dE (tupE (consD (dE (tupE (consD (dE fe_str) (consD (dE (tupE (consD (dE fe_str) (consD (dE (fe_callTy on_tuple call_tuple_of rfl t.b_tuple PyProof.Rows.boot_tuple (consA (lcE [("world", 13)] sc__law_by_bits.nd (seqI (dE (fv 11))) (fun _ _ _ _ _ => (nmG 13 sc__law_by_bits.nd)) (fun _ _ _ _ _ => fts_nil) (fun _ _ _ _ _ => dE (fe_call (cal__law_exactly t) hr (by have := fuel_eq; omega) rfl (consA (fv 13) (consA (fv 0) fa_nil)) (laC (laC la_nil)))) ul_name) fa_nil))) fds_nil)))) fds_nil)))) fds_nil))) fds_nil)))))) fss_nil) (fss_one (fs_ret (tupE (consD (dE fe_str) (consD (dE (fe_callTy on_tuple call_tuple_of rfl t.b_tuple PyProof.Rows.boot_tuple (consA (lcE [("world", 13)] sc__law_by_bits.nd (seqI (dE (fv 5))) (fun _ _ _ _ _ => (nmG 13 sc__law_by_bits.nd)) (fun _ _ _ _ _ => fts_nil) (fun _ _ _ _ _ => dE (fe_call (cal__law_exactly t) hr (by have := fuel_eq; omega) rfl (consA (fv 13) (consA (fv 0) fa_nil)) (laC (laC la_nil)))) ul_name) fa_nil))) fds_nil)))))) fss_nil) (fss_cons (setS' 6 sc__law_by_bits.nd (fe_call (cal__law_form t) hr (by have := fuel_eq; omega) rfl (consA (fv 5) fa_nil) (laC la_nil))) (fss_cons (setS' 7 sc__law_by_bits.nd (lstE fds_nil)) (fss_cons (setS' 8 sc__law_by_bits.nd (lstE fds_nil)) (fss_cons (forE (ws := [9]) PassesOwn.never (seqI (dE (fv 2))) (nmG 9 sc__law_by_bits.nd) (fss_cons (setS' 10 sc__law_by_bits.nd (fe_call (cal__law_exactly t) hr (by have := fuel_eq; omega) rfl (consA (ixE (fv 4) (fe_bin o2_mod op_mod (fe_callTy on_int call_int1 rfl t.b_int PyProof.Rows.boot_int (consA (fv 9) fa_nil)) fe_int)) (consA (fv 0) fa_nil)) (laC (laC la_nil)))) (fss_one (fs_if (ft_w (fw_and (cmpT o2_inB (xNi hr) (fv 10) (fv 7)) (fw_and1 (cmpT o2_inB (xNi hr) (fv 10) (fv 8))))) (fss_one (fs_if (valT (fe_call (cal__law_on t fuel) hr (by have := fuel_eq; omega) rfl (consA (fv 6) (consA (ixE (fv 4) (fe_bin o2_mod op_mod (fe_callTy on_int call_int1 rfl t.b_int PyProof.Rows.boot_int (consA (fv 9) fa_nil)) fe_int)) fa_nil)) (laC (laC la_nil)))) (fss_one (fs_append (n := 7) rfl (vis1 rfl) (dE (fv 10)))) (fss_one (fs_append (n := 8) rfl (vis1 rfl) (dE (fv 10)))))) fss_nil)))) (fss_one (fs_ret (tupE (consD (dE fe_str) (consD (dE (fe_bin o2_add op_addA (tupE (consD (dE (tupE (consD (dE fe_str) (consD (dE (tupE (consD (dE (fv 6)) (consD (dE (tupE (consD (dE fe_str) (consD (dE (tupE (consD (dE fe_str) (consD (dE (fe_callTy on_tuple call_tuple_of rfl t.b_tuple PyProof.Rows.boot_tuple (consA (fv 7) fa_nil))) fds_nil)))) fds_nil)))) fds_nil)))) fds_nil)))) fds_nil)) (fe_callTy on_tuple call_tuple_of rfl t.b_tuple PyProof.Rows.boot_tuple (consA (fv 8) fa_nil)))) fds_nil))))))))))))
theorem cal__law_by_bits (t : TX K mg base T) : FN.Cal P w K mg base T 42 "_law_by_bits" 4 F__law_by_bits [] := by
  obtain ⟨fd, F, FO⟩ := fn__law_by_bits (P := P) (w := w) t
  exact cal_of F t.g__law_by_bits (F.bindsN (ps := ["words", "bits", "picks", "turned"]) fun _ _ _ _ _ _ us hl => match us, hl with | [_, _, _, _], _ => rfl) FO
def N__law_grown : List Str := ["lot", "words", "way", "alls", "world", "rest", "clauses", "higher", "high", "word"]
theorem sc__law_grown : FnScope N__law_grown ["lot", "words", "way"] (defScope s__law_grown) := C8.fnScope_by (by decide +kernel)
theorem fn__law_grown (t : TX K mg base T) : ∃ fd, FunD K "_law_grown" "_law_grown" (defArgs s__law_grown) (defBody s__law_grown) (defScope s__law_grown) [] [] (He.fAd K ("_law_grown", none)) fd ∧ FnOk P w K mg base CX0 3 (He.fAd K ("_law_grown", none)) fd ["lot", "words", "way"] (spF K T 3 F__law_grown) := by
  obtain ⟨fd, F⟩ := t.d__law_grown
  refine ⟨fd, F, ?_⟩
  exact funD_ok (pin := [0, 1, 2]) (m := 7) (k := 2) F sc__law_grown rfl rfl fun A outer s H E hr => (fss_cons (fs_if (cmpT o2_eq (xEq hr) (fv 2) fe_int) (fss_one (fs_ret (fe_call (cal__law_form t) hr (by have := fuel_eq; omega) rfl (consA (fv 0) fa_nil) (laC la_nil)))) fss_nil) (fss_cons (fs_if (cmpT o2_eq (xEq hr) (fv 2) fe_int) (fss_cons (setS' 3 sc__law_grown.nd (lstE fds_nil)) (fss_cons (forE (ws := [4]) PassesOwn.never (seqI (dE (fv 0))) (nmG 4 sc__law_grown.nd) (fss_one (fs_insert (n := 3) rfl (vis1 rfl) fe_int (dE (tupE (consD (dE fe_str) (consD (dE (fe_callTy on_tuple call_tuple_of rfl t.b_tuple PyProof.Rows.boot_tuple (consA (lcE [("word", 9)] sc__law_grown.nd (seqI (dE (fv 4))) (fun _ _ _ _ _ => (nmG 9 sc__law_grown.nd)) (fun _ _ _ _ _ => fts_nil) (fun _ _ _ _ _ => dE (tupE (consD (dE fe_str) (consD (dE (fv 9)) fds_nil)))) ul_name) fa_nil))) fds_nil))))))) (fss_one (fs_ret (tupE (consD (dE fe_str) (consD (dE (fe_callTy on_tuple call_tuple_of rfl t.b_tuple PyProof.Rows.boot_tuple (consA (fv 3) fa_nil))) fds_nil))))))) fss_nil) (fss_cons (fs_if (cmpT o2_eq (xEq hr) (fv 2) fe_int) (fss_cons (setL 5 [("world", 4)] sc__law_grown.nd (seqI (dE (fe_call (cal__law_all t) hr (by have := fuel_eq; omega) rfl (consA (fv 1) fa_nil) (laC la_nil)))) (fun _ _ _ _ _ => (nmG 4 sc__law_grown.nd)) (fun _ _ _ _ _ => (fts_one (cmpT o2_inB (xNi hr) (fv 4) (fv 0)))) (fun _ _ _ _ _ => dE (fv 4)) ul_name) (fss_cons (setS' 6 sc__law_grown.nd (lstE fds_nil)) (fss_cons (forE (ws := [4]) PassesOwn.never (seqI (dE (fv 5))) (nmG 4 sc__law_grown.nd) (fss_cons (setL 7 [("high", 8)] sc__law_grown.nd (seqI (dE (fv 5))) (fun _ _ _ _ _ => (nmG 8 sc__law_grown.nd)) (fun _ _ _ _ _ => (fts_one (ft_w (fw_and (cmpT o2_ne (xNe hr) (fv 8) (fv 4)) (fw_and1 (valT (fe_call (cal__law_below t) hr (by have := fuel_eq; omega) rfl (consA (fv 4) (consA (fv 8) fa_nil)) (laC (laC la_nil))))))))) (fun _ _ _ _ _ => dE (fv 8)) ul_name) (fss_one (fs_if (cmpT o2_eq (xEq hr) (fe_callB on_len call_len rfl t.b_len boot_len (consA (fv 7) fa_nil)) fe_int) (fss_one (fs_append (n := 6) rfl (vis1 rfl) (dE (tupE (consD (dE fe_str) (consD (dE (fe_callTy on_tuple call_tuple_of rfl t.b_tuple PyProof.Rows.boot_tuple (consA (lcE [("word", 9)] sc__law_grown.nd (seqI (dE (fv 1))) (fun _ _ _ _ _ => (nmG 9 sc__law_grown.nd)) (fun _ _ _ _ _ => (fts_one (cmpT o2_inB (xNi hr) (fv 9) (fv 4)))) (fun _ _ _ _ _ => dE (tupE (consD (dE fe_str) (consD (dE (fv 9)) fds_nil)))) ul_name) fa_nil))) fds_nil)))))) fss_nil)))) (fss_one (fs_ret (tupE (consD (dE fe_str) (consD (dE (fe_callTy on_tuple call_tuple_of rfl t.b_tuple PyProof.Rows.boot_tuple (consA (fv 6) fa_nil))) fds_nil)))))))) fss_nil) (fss_one (fs_ret (tupE (consD (dE fe_str) (consD (dE (tupE (consD (dE (tupE (consD (dE fe_str) (consD (dE (tupE (consD (dE (fe_call (cal__law_form t) hr (by have := fuel_eq; omega) rfl (consA (fv 0) fa_nil) (laC la_nil))) (consD (dE (tupE (consD (dE fe_str) (consD (dE (tupE fds_nil)) fds_nil)))) fds_nil)))) fds_nil)))) (consD (dE (tupE (consD (dE fe_str) (consD (dE (tupE fds_nil)) fds_nil)))) fds_nil)))) fds_nil))))))))
theorem cal__law_grown (t : TX K mg base T) : FN.Cal P w K mg base T 3 "_law_grown" 3 F__law_grown [] := by
  obtain ⟨fd, F, FO⟩ := fn__law_grown (P := P) (w := w) t
  exact cal_of F t.g__law_grown (F.bindsN (ps := ["lot", "words", "way"]) fun _ _ _ _ _ _ us hl => match us, hl with | [_, _, _], _ => rfl) FO
def N__law_fit : List Str := ["one", "words", "at", "world"]
theorem sc__law_fit : FnScope N__law_fit ["one", "words", "at"] (defScope s__law_fit) := C8.fnScope_by (by decide +kernel)
theorem fn__law_fit (t : TX K mg base T) : ∃ fd, FunD K "_law_fit" "_law_fit" (defArgs s__law_fit) (defBody s__law_fit) (defScope s__law_fit) [] [] (He.fAd K ("_law_fit", none)) fd ∧ FnOk P w K mg base CX0 42 (He.fAd K ("_law_fit", none)) fd ["one", "words", "at"] (spF K T 3 F__law_fit) := by
  obtain ⟨fd, F⟩ := t.d__law_fit
  refine ⟨fd, F, ?_⟩
  exact funD_ok (pin := [0, 1, 2]) (m := 1) (k := 41) F sc__law_fit rfl rfl fun A outer s H E hr => (fss_cons (forE (ws := [3]) PassesOwn.never (seqI (dE (fe_call (cal__law_all t) hr (by have := fuel_eq; omega) rfl (consA (fv 1) fa_nil) (laC la_nil)))) (nmG 3 sc__law_fit.nd) (fss_one (fs_if (ft_w (fw_and (cmpT o2_ne (xNe hr) (fe_callB on_len call_len rfl t.b_len boot_len (consA (fv 3) fa_nil)) (fv 2)) (fw_and1 (cmpT o2_ne (xNe hr) (fe_call (cal__law_on t fuel) hr (by have := fuel_eq; omega) rfl (consA (fv 0) (consA (fv 3) fa_nil)) (laC (laC la_nil))) (cmpE o2_gt op_gt (fe_callB on_len call_len rfl t.b_len boot_len (consA (fv 3) fa_nil)) (fv 2)))))) (fss_one (fs_ret fe_bl)) fss_nil))) (fss_one (fs_ret fe_bl)))
theorem cal__law_fit (t : TX K mg base T) : FN.Cal P w K mg base T 42 "_law_fit" 3 F__law_fit [] := by
  obtain ⟨fd, F, FO⟩ := fn__law_fit (P := P) (w := w) t
  exact cal_of F t.g__law_fit (F.bindsN (ps := ["one", "words", "at"]) fun _ _ _ _ _ _ us hl => match us, hl with | [_, _, _], _ => rfl) FO
def N__law_row_fits : List Str := ["row", "words", "at"]
theorem sc__law_row_fits : FnScope N__law_row_fits ["row", "words"] (defScope s__law_row_fits) := C8.fnScope_by (by decide +kernel)
theorem fn__law_row_fits (t : TX K mg base T) : ∃ fd, FunD K "_law_row_fits" "_law_row_fits" (defArgs s__law_row_fits) (defBody s__law_row_fits) (defScope s__law_row_fits) [] [] (He.fAd K ("_law_row_fits", none)) fd ∧ FnOk P w K mg base CX0 43 (He.fAd K ("_law_row_fits", none)) fd ["row", "words"] (spF K T 2 F__law_row_fits) := by
  obtain ⟨fd, F⟩ := t.d__law_row_fits
  refine ⟨fd, F, ?_⟩
  exact funD_ok (pin := [0, 1]) (m := 1) (k := 42) F sc__law_row_fits rfl rfl fun A outer s H E hr => (fss_cons (fs_if (cmpT o2_ne (xNe hr) (fe_callB on_len call_len rfl t.b_len boot_len (consA (fv 0) fa_nil)) (fe_bin o2_add op_addA (fe_callB on_len call_len rfl t.b_len boot_len (consA (fv 1) fa_nil)) fe_int)) (fss_one (fs_ret fe_bl)) fss_nil) (fss_cons (forE (ws := [2]) PassesOwn.never (fi_range1 rfl t.b_range (fe_callB on_len call_len rfl t.b_len boot_len (consA (fv 0) fa_nil))) (nmG 2 sc__law_row_fits.nd) (fss_one (fs_if (notT (valT (fe_call (cal__law_fit t) hr (by have := fuel_eq; omega) rfl (consA (ixE (fv 0) (fv 2)) (consA (fv 1) (consA (fv 2) fa_nil))) (laC (laC (laC la_nil)))))) (fss_one (fs_ret fe_bl)) fss_nil))) (fss_one (fs_ret fe_bl))))
theorem cal__law_row_fits (t : TX K mg base T) : FN.Cal P w K mg base T 43 "_law_row_fits" 2 F__law_row_fits [] := by
  obtain ⟨fd, F, FO⟩ := fn__law_row_fits (P := P) (w := w) t
  exact cal_of F t.g__law_row_fits (F.bindsN (ps := ["row", "words"]) fun _ _ _ _ _ _ us hl => match us, hl with | [_, _], _ => rfl) FO
def N__law_at_least : List Str := ["words", "many", "at", "last"]
theorem sc__law_at_least : FnScope N__law_at_least ["words", "many", "at"] (defScope s__law_at_least) := C8.fnScope_by (by decide +kernel)
theorem fn__law_at_least (t : TX K mg base T) (k : Nat) : ∃ fd, FunD K "_law_at_least" "_law_at_least" (defArgs s__law_at_least) (defBody s__law_at_least) (defScope s__law_at_least) [] [] (He.fAd K ("_law_at_least", none)) fd ∧ FnOk P w K mg base CX0 (1 + 1 * k) (He.fAd K ("_law_at_least", none)) fd ["words", "many", "at"] (spF K T 3 (F__law_at_least k)) := by
  obtain ⟨fd, F⟩ := t.d__law_at_least
  refine ⟨fd, F, ?_⟩
  have b : Binds K fd ["words", "many", "at"] [] := F.bindsN (ps := ["words", "many", "at"]) fun _ _ _ _ _ _ us hl => match us, hl with | [_, _, _], _ => rfl
  induction k with
  | zero => exact fn_none rfl
  | succ k ih0 =>
    have ih : FN.Cal P w K mg base T (1 + 1 * k) "_law_at_least" 3 (F__law_at_least k) [] := cal_of F t.g__law_at_least b ih0
    have e : 1 + 1 * (k + 1) = (1 + 1 * k + 0) + 1 := by omega
    rw [e]
    exact funD_ok (pin := [0, 1, 2]) (m := 1) (k := 1 + 1 * k + 0) F sc__law_at_least rfl rfl fun A outer s H E hr => (fss_cons (fs_if (cmpT o2_eq (xEq hr) (fv 2) fe_int) (fss_one (fs_ret (tupE (consD (dE fe_str) (consD (dE (tupE fds_nil)) fds_nil))))) fss_nil) (fss_cons (fs_if (cmpT o2_gt op_gt (fv 2) (fv 1)) (fss_one (fs_ret (tupE (consD (dE fe_str) (consD (dE (tupE fds_nil)) fds_nil))))) fss_nil) (fss_cons (setS' 3 sc__law_at_least.nd (tupE (consD (dE fe_str) (consD (dE (tupE (consD (dE (tupE (consD (dE fe_str) (consD (dE (ixE (fv 0) (fe_bin o2_sub op_sub (fv 1) fe_int))) fds_nil)))) (consD (dE (fe_call ih hr (by have := fuel_eq; omega) rfl (consA (fv 0) (consA (fe_bin o2_sub op_sub (fv 1) fe_int) (consA (fe_bin o2_sub op_sub (fv 2) fe_int) fa_nil))) (laC (laC (laC la_nil))))) fds_nil)))) fds_nil)))) (fss_one (fs_ret (tupE (consD (dE fe_str) (consD (dE (tupE (consD (dE (fe_call ih hr (by have := fuel_eq; omega) rfl (consA (fv 0) (consA (fe_bin o2_sub op_sub (fv 1) fe_int) (consA (fv 2) fa_nil))) (laC (laC (laC la_nil))))) (consD (dE (fv 3)) fds_nil)))) fds_nil))))))))
theorem cal__law_at_least (t : TX K mg base T) (k : Nat) : FN.Cal P w K mg base T (1 + 1 * k) "_law_at_least" 3 (F__law_at_least k) [] := by
  obtain ⟨fd, F, FO⟩ := fn__law_at_least (P := P) (w := w) t k
  exact cal_of F t.g__law_at_least (F.bindsN (ps := ["words", "many", "at"]) fun _ _ _ _ _ _ us hl => match us, hl with | [_, _, _], _ => rfl) FO
def N__law_told_formula : List Str := ["value", "due"]
theorem sc__law_told_formula : FnScope N__law_told_formula ["value", "due"] (defScope s__law_told_formula) := C8.fnScope_by (by decide +kernel)
theorem fn__law_told_formula (t : TX K mg base T) : ∃ fd, FunD K "_law_told_formula" "_law_told_formula" (defArgs s__law_told_formula) (defBody s__law_told_formula) (defScope s__law_told_formula) [] [] (He.fAd K ("_law_told_formula", none)) fd ∧ FnOk P w K mg base CX0 43 (He.fAd K ("_law_told_formula", none)) fd ["value", "due"] (spF K T 2 F__law_told_formula) := by
  obtain ⟨fd, F⟩ := t.d__law_told_formula
  refine ⟨fd, F, ?_⟩
  exact funD_ok (pin := [0, 1]) (m := 0) (k := 42) F sc__law_told_formula rfl rfl fun A outer s H E hr => (fss_one (fs_ret (fe_and (fe_call (cal__law_is_formula t fuel) hr (by have := fuel_eq; omega) rfl (consA (fv 0) fa_nil) (laC la_nil)) (fe_one (cmpE o2_eq (xEq hr) (fv 0) (fv 1))))))
theorem cal__law_told_formula (t : TX K mg base T) : FN.Cal P w K mg base T 43 "_law_told_formula" 2 F__law_told_formula [] := by
  obtain ⟨fd, F, FO⟩ := fn__law_told_formula (P := P) (w := w) t
  exact cal_of F t.g__law_told_formula (F.bindsN (ps := ["value", "due"]) fun _ _ _ _ _ _ us hl => match us, hl with | [_, _], _ => rfl) FO
def N__law_told_row : List Str := ["value", "due", "at"]
theorem sc__law_told_row : FnScope N__law_told_row ["value", "due"] (defScope s__law_told_row) := C8.fnScope_by (by decide +kernel)
theorem fn__law_told_row (t : TX K mg base T) : ∃ fd, FunD K "_law_told_row" "_law_told_row" (defArgs s__law_told_row) (defBody s__law_told_row) (defScope s__law_told_row) [] [] (He.fAd K ("_law_told_row", none)) fd ∧ FnOk P w K mg base CX0 44 (He.fAd K ("_law_told_row", none)) fd ["value", "due"] (spF K T 2 F__law_told_row) := by
  obtain ⟨fd, F⟩ := t.d__law_told_row
  refine ⟨fd, F, ?_⟩
  exact funD_ok (pin := [0, 1]) (m := 1) (k := 43) F sc__law_told_row rfl rfl fun A outer s H E hr => (fss_cons (fs_if (ft_w (fw_or (notT (valT (fe_isi rfl t.b_isinstance boot_isinstance rfl t.b_tuple PyProof.Rows.boot_tuple (fv 0)))) (fw_or1 (cmpT o2_ne (xNe hr) (fe_callB on_len call_len rfl t.b_len boot_len (consA (fv 0) fa_nil)) (fe_callB on_len call_len rfl t.b_len boot_len (consA (fv 1) fa_nil)))))) (fss_one (fs_ret fe_bl)) fss_nil) (fss_cons (forE (ws := [2]) PassesOwn.never (fi_range1 rfl t.b_range (fe_callB on_len call_len rfl t.b_len boot_len (consA (fv 1) fa_nil))) (nmG 2 sc__law_told_row.nd) (fss_one (fs_if (notT (valT (fe_call (cal__law_told_formula t) hr (by have := fuel_eq; omega) rfl (consA (ixE (fv 0) (fv 2)) (consA (ixE (fv 1) (fv 2)) fa_nil)) (laC (laC la_nil))))) (fss_one (fs_ret fe_bl)) fss_nil))) (fss_one (fs_ret fe_bl))))
theorem cal__law_told_row (t : TX K mg base T) : FN.Cal P w K mg base T 44 "_law_told_row" 2 F__law_told_row [] := by
  obtain ⟨fd, F, FO⟩ := fn__law_told_row (P := P) (w := w) t
  exact cal_of F t.g__law_told_row (F.bindsN (ps := ["value", "due"]) fun _ _ _ _ _ _ us hl => match us, hl with | [_, _], _ => rfl) FO
def N__law_lots : List Str := ["words", "bits", "worlds", "lots", "many", "lot", "at"]
theorem sc__law_lots : FnScope N__law_lots ["words", "bits"] (defScope s__law_lots) := C8.fnScope_by (by decide +kernel)
theorem fn__law_lots (t : TX K mg base T) : ∃ fd, FunD K "_law_lots" "_law_lots" (defArgs s__law_lots) (defBody s__law_lots) (defScope s__law_lots) [] [] (He.fAd K ("_law_lots", none)) fd ∧ FnOk P w K mg base CX0 2 (He.fAd K ("_law_lots", none)) fd ["words", "bits"] (spF K T 2 F__law_lots) := by
  obtain ⟨fd, F⟩ := t.d__law_lots
  refine ⟨fd, F, ?_⟩
  exact funD_ok (pin := [0, 1]) (m := 5) (k := 1) F sc__law_lots rfl rfl fun A outer s H E hr => (fss_cons (setS' 2 sc__law_lots.nd (fe_call (cal__law_all t) hr (by have := fuel_eq; omega) rfl (consA (fv 0) fa_nil) (laC la_nil))) (fss_cons (setS' 3 sc__law_lots.nd (lstE fds_nil)) (fss_cons (forE (ws := [4]) PassesOwn.never (fi_range1 rfl t.b_range (fe_bin o2_add op_addA (fe_callB on_len call_len rfl t.b_len boot_len (consA (fv 0) fa_nil)) fe_int)) (nmG 4 sc__law_lots.nd) (fss_cons (setS' 5 sc__law_lots.nd (lstE fds_nil)) (fss_cons (forE (ws := [6]) PassesOwn.never (fi_range1 rfl t.b_range (fe_callB on_len call_len rfl t.b_len boot_len (consA (fv 2) fa_nil))) (nmG 6 sc__law_lots.nd) (fss_one (fs_if (ft_w (fw_or (cmpT o2_gt op_gt (fe_callB on_len call_len rfl t.b_len boot_len (consA (ixE (fv 2) (fv 6)) fa_nil)) (fv 4)) (fw_or1 (ft_w (fw_and (cmpT o2_eq (xEq hr) (fe_callB on_len call_len rfl t.b_len boot_len (consA (ixE (fv 2) (fv 6)) fa_nil)) (fv 4)) (fw_and1 (cmpT o2_eq (xEq hr) (ixE (fv 1) (fv 6)) fe_int))))))) (fss_one (fs_append (n := 5) rfl (vis1 rfl) (dE (ixE (fv 2) (fv 6))))) fss_nil))) (fss_one (fs_append (n := 3) rfl (vis1 rfl) (dE (fv 5))))))) (fss_one (fs_ret (fv 3))))))
theorem cal__law_lots (t : TX K mg base T) : FN.Cal P w K mg base T 2 "_law_lots" 2 F__law_lots [] := by
  obtain ⟨fd, F, FO⟩ := fn__law_lots (P := P) (w := w) t
  exact cal_of F t.g__law_lots (F.bindsN (ps := ["words", "bits"]) fun _ _ _ _ _ _ us hl => match us, hl with | [_, _], _ => rfl) FO
def N__law_spoilt : List Str := ["row", "lots", "words", "picks", "many", "worlds", "first", "second", "changed", "rows", "world", "place", "lot", "other"]
theorem sc__law_spoilt : FnScope N__law_spoilt ["row", "lots", "words", "picks"] (defScope s__law_spoilt) := C8.fnScope_by (by decide +kernel)
theorem fn__law_spoilt (t : TX K mg base T) : ∃ fd, FunD K "_law_spoilt" "_law_spoilt" (defArgs s__law_spoilt) (defBody s__law_spoilt) (defScope s__law_spoilt) [] [] (He.fAd K ("_law_spoilt", none)) fd ∧ FnOk P w K mg base CX0 4 (He.fAd K ("_law_spoilt", none)) fd ["row", "lots", "words", "picks"] (spF K T 4 F__law_spoilt) := by
  obtain ⟨fd, F⟩ := t.d__law_spoilt
  refine ⟨fd, F, ?_⟩
  exact funD_ok (pin := [0, 1, 2, 3]) (m := 10) (k := 3) F sc__law_spoilt rfl rfl fun A outer s H E hr => (fss_cons (setS' 4 sc__law_spoilt.nd (fe_callB on_len call_len rfl t.b_len boot_len (consA (fv 0) fa_nil))) (fss_cons (setS' 5 sc__law_spoilt.nd (fe_call (cal__law_all t) hr (by have := fuel_eq; omega) rfl (consA (fv 2) fa_nil) (laC la_nil))) (fss_cons (setS' 6 sc__law_spoilt.nd (fe_bin o2_mod op_mod (fe_callTy on_int call_int1 rfl t.b_int PyProof.Rows.boot_int (consA (ixE (fv 3) fe_int) fa_nil)) (fv 4))) (fss_cons (setS' 7 sc__law_spoilt.nd (fe_bin o2_mod op_mod (fe_callTy on_int call_int1 rfl t.b_int PyProof.Rows.boot_int (consA (ixE (fv 3) fe_int) fa_nil)) (fv 4))) (fss_cons (setS' 8 sc__law_spoilt.nd (fe_callTy on_list call_list_of rfl t.b_list PyProof.Rows.boot_list (consA (fv 0) fa_nil))) (fss_cons (fs_setG (ws := []) (dE (ixE (fv 0) (fv 7))) (fg_ix (n := 8) rfl (vis1 rfl) (fv 6))) (fss_cons (fs_setG (ws := []) (dE (ixE (fv 0) (fv 6))) (fg_ix (n := 8) rfl (vis1 rfl) (fv 7))) (fss_cons (setS' 9 sc__law_spoilt.nd (lstE (consD (dE (fe_callTy on_tuple call_tuple_of rfl t.b_tuple PyProof.Rows.boot_tuple (consA (fv 8) fa_nil))) (consD (dE (fe_bin o2_add op_addA (slE (fv 0) fo_none (loE (fv 6))) (slE (fv 0) (loE (fe_bin o2_add op_addA (fv 6) fe_int)) fo_none))) fds_nil)))) (fss_cons (fs_if (cmpT o2_eq (xEq hr) (fe_bin o2_mod op_mod (fe_callTy on_int call_int1 rfl t.b_int PyProof.Rows.boot_int (consA (ixE (fv 3) fe_int) fa_nil)) fe_int) fe_int) (fss_one (fs_append (n := 9) rfl (vis1 rfl) (dE (fe_bin o2_add op_addA (fv 0) (tupE (consD (dE (tupE (consD (dE fe_str) (consD (dE (tupE fds_nil)) fds_nil)))) fds_nil)))))) (fss_one (fs_append (n := 9) rfl (vis1 rfl) (dE (fe_bin o2_add op_addA (fe_bin o2_add op_addA (slE (fv 0) fo_none (loE (fv 7))) (tupE (consD (dE (ixE (fv 0) (fv 7))) fds_nil))) (slE (fv 0) (loE (fv 7)) fo_none)))))) (fss_cons (setS' 10 sc__law_spoilt.nd (ixE (fv 5) (fe_bin o2_mod op_mod (fe_callTy on_int call_int1 rfl t.b_int PyProof.Rows.boot_int (consA (ixE (fv 3) fe_int) fa_nil)) (fe_callB on_len call_len rfl t.b_len boot_len (consA (fv 5) fa_nil))))) (fss_cons (fs_if (cmpT o2_gt op_gt (fe_callB on_len call_len rfl t.b_len boot_len (consA (fv 10) fa_nil)) fe_int) (fss_cons (setS' 11 sc__law_spoilt.nd (fe_bin o2_mod op_mod (fe_callTy on_int call_int1 rfl t.b_int PyProof.Rows.boot_int (consA (ixE (fv 3) fe_int) fa_nil)) (fe_callB on_len call_len rfl t.b_len boot_len (consA (fv 10) fa_nil)))) (fss_cons (fs_if (cmpT o2_gt op_gt (fe_bin o2_mod op_mod (fe_callTy on_int call_int1 rfl t.b_int PyProof.Rows.boot_int (consA (ixE (fv 3) fe_int) fa_nil)) fe_int) fe_int) (fss_one (setS' 11 sc__law_spoilt.nd (fe_bin o2_sub op_sub (fe_callB on_len call_len rfl t.b_len boot_len (consA (fv 10) fa_nil)) fe_int))) fss_nil) (fss_cons (setL 12 [("other", 13)] sc__law_spoilt.nd (seqI (dE (ixE (fv 1) (fv 11)))) (fun _ _ _ _ _ => (nmG 13 sc__law_spoilt.nd)) (fun _ _ _ _ _ => (fts_one (notT (valT (fe_call (cal__law_below t) hr (by have := fuel_eq; omega) rfl (consA (fv 13) (consA (fv 10) fa_nil)) (laC (laC la_nil))))))) (fun _ _ _ _ _ => dE (fv 13)) ul_name) (fss_one (fs_append (n := 9) rfl (vis1 rfl) (dE (fe_bin o2_add op_addA (fe_bin o2_add op_addA (slE (fv 0) fo_none (loE (fv 11))) (tupE (consD (dE (fe_call (cal__law_grown t) hr (by have := fuel_eq; omega) rfl (consA (fv 12) (consA (fv 2) (consA (fe_bin o2_mod op_mod (fe_callTy on_int call_int1 rfl t.b_int PyProof.Rows.boot_int (consA (ixE (fv 3) fe_int) fa_nil)) fe_int) fa_nil))) (laC (laC (laC la_nil))))) fds_nil))) (slE (fv 0) (loE (fe_bin o2_add op_addA (fv 11) fe_int)) fo_none)))))))) fss_nil) (fss_cons (setS' 10 sc__law_spoilt.nd (ixE (fv 5) (fe_bin o2_mod op_mod (fe_callTy on_int call_int1 rfl t.b_int PyProof.Rows.boot_int (consA (ixE (fv 3) fe_int) fa_nil)) (fe_callB on_len call_len rfl t.b_len boot_len (consA (fv 5) fa_nil))))) (fss_cons (fs_if (cmpT o2_lt op_lt (fe_callB on_len call_len rfl t.b_len boot_len (consA (fv 10) fa_nil)) (fe_callB on_len call_len rfl t.b_len boot_len (consA (fv 2) fa_nil))) (fss_cons (setS' 11 sc__law_spoilt.nd (fe_bin o2_add op_addA (fe_bin o2_add op_addA (fe_callB on_len call_len rfl t.b_len boot_len (consA (fv 10) fa_nil)) fe_int) (fe_bin o2_mod op_mod (fe_callTy on_int call_int1 rfl t.b_int PyProof.Rows.boot_int (consA (ixE (fv 3) fe_int) fa_nil)) (fe_bin o2_sub op_sub (fe_callB on_len call_len rfl t.b_len boot_len (consA (fv 2) fa_nil)) (fe_callB on_len call_len rfl t.b_len boot_len (consA (fv 10) fa_nil)))))) (fss_cons (fs_if (cmpT o2_gt op_gt (fe_bin o2_mod op_mod (fe_callTy on_int call_int1 rfl t.b_int PyProof.Rows.boot_int (consA (ixE (fv 3) fe_int) fa_nil)) fe_int) fe_int) (fss_one (setS' 11 sc__law_spoilt.nd (fe_bin o2_add op_addA (fe_callB on_len call_len rfl t.b_len boot_len (consA (fv 10) fa_nil)) fe_int))) fss_nil) (fss_cons (setL 12 [("other", 13)] sc__law_spoilt.nd (seqI (dE (fv 5))) (fun _ _ _ _ _ => (nmG 13 sc__law_spoilt.nd)) (fun _ _ _ _ _ => (fts_one (ft_w (fw_or (cmpT o2_inB (xIn hr) (fv 13) (ixE (fv 1) (fv 11))) (fw_or1 (valT (fe_call (cal__law_below t) hr (by have := fuel_eq; omega) rfl (consA (fv 10) (consA (fv 13) fa_nil)) (laC (laC la_nil))))))))) (fun _ _ _ _ _ => dE (fv 13)) ul_name) (fss_one (fs_append (n := 9) rfl (vis1 rfl) (dE (fe_bin o2_add op_addA (fe_bin o2_add op_addA (slE (fv 0) fo_none (loE (fv 11))) (tupE (consD (dE (fe_call (cal__law_grown t) hr (by have := fuel_eq; omega) rfl (consA (fv 12) (consA (fv 2) (consA (fe_bin o2_mod op_mod (fe_callTy on_int call_int1 rfl t.b_int PyProof.Rows.boot_int (consA (ixE (fv 3) fe_int) fa_nil)) fe_int) fa_nil))) (laC (laC (laC la_nil))))) fds_nil))) (slE (fv 0) (loE (fe_bin o2_add op_addA (fv 11) fe_int)) fo_none)))))))) fss_nil) (fss_one (fs_ret (fv 9))))))))))))))))
theorem cal__law_spoilt (t : TX K mg base T) : FN.Cal P w K mg base T 4 "_law_spoilt" 4 F__law_spoilt [] := by
  obtain ⟨fd, F, FO⟩ := fn__law_spoilt (P := P) (w := w) t
  exact cal_of F t.g__law_spoilt (F.bindsN (ps := ["row", "lots", "words", "picks"]) fun _ _ _ _ _ _ us hl => match us, hl with | [_, _, _, _], _ => rfl) FO
def N__law_one : List Str := ["script", "words", "digits", "at", "pick", "bits"]
theorem sc__law_one : FnScope N__law_one ["script", "words"] (defScope s__law_one) := C8.fnScope_by (by decide +kernel)
theorem fn__law_one (t : TX K mg base T) : ∃ fd, FunD K "_law_one" "_law_one" (defArgs s__law_one) (defBody s__law_one) (defScope s__law_one) [] [] (He.fAd K ("_law_one", none)) fd ∧ FnOk P w K mg base CX0 43 (He.fAd K ("_law_one", none)) fd ["script", "words"] (spF K T 2 F__law_one) := by
  obtain ⟨fd, F⟩ := t.d__law_one
  refine ⟨fd, F, ?_⟩
  exact funD_ok (pin := [0, 1]) (m := 4) (k := 42) F sc__law_one rfl rfl fun A outer s H E hr => (fss_cons (setS' 2 sc__law_one.nd (fe_call (cal__law_digits t) hr (by have := fuel_eq; omega) rfl (consA (fe_call (cal__law_cell t) hr (by have := fuel_eq; omega) rfl (consA (fv 0) (consA fe_int fa_nil)) (laC (laC la_nil))) (consA (fe_bin o2_mul op_mulA (lstE (consD (dE fe_int) fds_nil)) fe_int) fa_nil)) (laC (laC la_nil)))) (fss_cons (setS' 3 sc__law_one.nd (lstE (consD (dE fe_int) fds_nil))) (fss_cons (setS' 4 sc__law_one.nd (fe_call (cal__law_take t) hr (by have := fuel_eq; omega) rfl (consA (fv 2) (consA (fv 3) (consA fe_int fa_nil))) (laC (laC (laC la_nil))))) (fss_cons (fs_if (cmpT o2_lt op_lt (fv 4) fe_int) (fss_one (fs_ret (fe_call (cal__law_formula t fuel) hr (by have := fuel_eq; omega) rfl (consA (fv 2) (consA (fv 3) (consA (fv 1) (consA fe_int (consA fe_int fa_nil))))) (laC (laC (laC (laC (laC la_nil)))))))) fss_nil) (fss_cons (fs_if (cmpT o2_eq (xEq hr) (fv 4) fe_int) (fss_one (fs_ret (fe_call (cal__law_tower t) hr (by have := fuel_eq; omega) rfl (consA (fv 2) (consA (fv 3) (consA (fv 1) (consA (ixE (lstE (consD (dE fe_int) (consD (dE fe_int) (consD (dE fe_int) (consD (dE fe_int) (consD (dE fe_int) (consD (dE fe_int) fds_nil))))))) (fe_call (cal__law_take t) hr (by have := fuel_eq; omega) rfl (consA (fv 2) (consA (fv 3) (consA fe_int fa_nil))) (laC (laC (laC la_nil))))) fa_nil)))) (laC (laC (laC (laC la_nil))))))) fss_nil) (fss_cons (setS' 5 sc__law_one.nd (fe_call (cal__law_digits t) hr (by have := fuel_eq; omega) rfl (consA (fe_call (cal__law_cell t) hr (by have := fuel_eq; omega) rfl (consA (fv 0) (consA fe_int fa_nil)) (laC (laC la_nil))) (consA (fe_bin o2_mul op_mulA (lstE (consD (dE fe_int) fds_nil)) fe_int) fa_nil)) (laC (laC la_nil)))) (fss_one (fs_ret (fe_call (cal__law_by_bits t) hr (by have := fuel_eq; omega) rfl (consA (fv 1) (consA (fv 5) (consA (slE (fv 2) (loE fe_int) (loE fe_int)) (consA (cmpE o2_eq (xEq hr) (fv 4) fe_int) fa_nil)))) (laC (laC (laC (laC la_nil)))))))))))))
theorem cal__law_one (t : TX K mg base T) : FN.Cal P w K mg base T 43 "_law_one" 2 F__law_one [] := by
  obtain ⟨fd, F, FO⟩ := fn__law_one (P := P) (w := w) t
  exact cal_of F t.g__law_one (F.bindsN (ps := ["script", "words"]) fun _ _ _ _ _ _ us hl => match us, hl with | [_, _], _ => rfl) FO
def N_law : List Str := ["script", "head", "words", "worlds", "one", "due", "many", "world", "bits", "ways", "lots", "row", "spoilt", "terms", "whole", "lot", "answer"]
theorem sc_law : FnScope N_law ["script"] (defScope s_law) := C8.fnScope_by (by decide +kernel)
theorem fn_law (t : TX K mg base T) : ∃ fd, FunD K "law" "law" (defArgs s_law) (defBody s_law) (defScope s_law) [] [] (He.fAd K ("law", none)) fd ∧ FnOk P w K mg base CX0 89 (He.fAd K ("law", none)) fd ["script"] (spF K T 1 F_law) := by
  obtain ⟨fd, F⟩ := t.d_law
  refine ⟨fd, F, ?_⟩
  exact funD_ok (pin := [0]) (m := 16) (k := 88) F sc_law rfl rfl fun A outer s H E hr => (fss_cons (setS' 1 sc_law.nd (fe_call (cal__law_digits t) hr (by have := fuel_eq; omega) rfl (consA (fe_call (cal__law_cell t) hr (by have := fuel_eq; omega) rfl (consA (fv 0) (consA fe_int fa_nil)) (laC (laC la_nil))) (consA (fe_bin o2_add op_addA (lstE (consD (dE fe_int) (consD (dE fe_int) fds_nil))) (fe_bin o2_mul op_mulA (lstE (consD (dE fe_int) fds_nil)) fe_int)) fa_nil)) (laC (laC la_nil)))) (fss_cons (setS' 2 sc_law.nd (fe_call (cal__law_words t) hr (by have := fuel_eq; omega) rfl (consA (ixE (fv 1) fe_int) (consA (ixE (lstE (consD (dE fe_int) (consD (dE fe_int) (consD (dE fe_int) (consD (dE fe_int) (consD (dE fe_int) (consD (dE fe_int) (consD (dE fe_int) (consD (dE fe_int) (consD (dE fe_int) (consD (dE fe_int) (consD (dE fe_int) (consD (dE fe_int) fds_nil))))))))))))) (ixE (fv 1) fe_int)) fa_nil)) (laC (laC la_nil)))) (fss_cons (setS' 3 sc_law.nd (fe_call (cal__law_all t) hr (by have := fuel_eq; omega) rfl (consA (fv 2) fa_nil) (laC la_nil))) (fss_cons (setS' 4 sc_law.nd (fe_call (cal__law_one t) hr (by have := fuel_eq; omega) rfl (consA (fv 0) (consA (fv 2) fa_nil)) (laC (laC la_nil)))) (fss_cons (setS' 5 sc_law.nd (lstE fds_nil)) (fss_cons (forE (ws := [6]) PassesOwn.never (fi_range1 rfl t.b_range (fe_bin o2_add op_addA (fe_callB on_len call_len rfl t.b_len boot_len (consA (fv 2) fa_nil)) fe_int)) (nmG 6 sc_law.nd) (fss_cons (setL 15 [("world", 7)] sc_law.nd (seqI (dE (fv 3))) (fun _ _ _ _ _ => (nmG 7 sc_law.nd)) (fun _ _ _ _ _ => (fts_one (ft_w (fw_or (cmpT o2_gt op_gt (fe_callB on_len call_len rfl t.b_len boot_len (consA (fv 7) fa_nil)) (fv 6)) (fw_or1 (ft_w (fw_and (cmpT o2_eq (xEq hr) (fe_callB on_len call_len rfl t.b_len boot_len (consA (fv 7) fa_nil)) (fv 6)) (fw_and1 (valT (fe_call (cal__law_on t fuel) hr (by have := fuel_eq; omega) rfl (consA (fv 4) (consA (fv 7) fa_nil)) (laC (laC la_nil)))))))))))) (fun _ _ _ _ _ => dE (fv 7)) ul_name) (fss_one (fs_append (n := 5) rfl (vis1 rfl) (dE (fe_call (cal__law_form t) hr (by have := fuel_eq; omega) rfl (consA (fv 15) fa_nil) (laC la_nil))))))) (fss_cons (setS' 5 sc_law.nd (fe_callTy on_tuple call_tuple_of rfl t.b_tuple PyProof.Rows.boot_tuple (consA (fv 5) fa_nil))) (fss_cons (forE (ws := [6]) PassesOwn.never (fi_range1 rfl t.b_range (fe_callB on_len call_len rfl t.b_len boot_len (consA (fv 5) fa_nil))) (nmG 6 sc_law.nd) (fss_one (fs_if (ft_w (fw_or (notT (valT (fe_call (cal__law_told_formula t) hr (by have := fuel_eq; omega) rfl (consA (fe_call (cal_slice_of t) hr (by have := fuel_eq; omega) rfl (consA (fv 4) (consA (fv 2) (consA (fv 6) fa_nil))) (laC (laC (laC la_nil)))) (consA (ixE (fv 5) (fv 6)) fa_nil)) (laC (laC la_nil))))) (fw_or1 (notT (valT (fe_call (cal__law_positive t fuel) hr (by have := fuel_eq; omega) rfl (consA (ixE (fv 5) (fv 6)) fa_nil) (laC la_nil))))))) (fss_one (fs_ret fe_bl)) fss_nil))) (fss_cons (fs_if (ft_w (fw_or (notT (valT (fe_call (cal__law_told_row t) hr (by have := fuel_eq; omega) rfl (consA (fe_call (cal_slices_of t) hr (by have := fuel_eq; omega) rfl (consA (fv 4) (consA (fv 2) fa_nil)) (laC (laC la_nil))) (consA (fv 5) fa_nil)) (laC (laC la_nil))))) (fw_or1 (cmpT o2_isB op_isNotA (fe_call (cal_are_slices t) hr (by have := fuel_eq; omega) rfl (consA (fv 5) (consA (fv 2) fa_nil)) (laC (laC la_nil))) fe_bl)))) (fss_one (fs_ret fe_bl)) fss_nil) (fss_cons (forE (ws := [7]) PassesOwn.never (seqI (dE (fv 3))) (nmG 7 sc_law.nd) (fss_one (fs_if (cmpT o2_ne (xNe hr) (fe_call (cal__law_on t fuel) hr (by have := fuel_eq; omega) rfl (consA (fv 4) (consA (fv 7) fa_nil)) (laC (laC la_nil))) (fe_call (cal__law_on t fuel) hr (by have := fuel_eq; omega) rfl (consA (ixE (fv 5) (fe_callB on_len call_len rfl t.b_len boot_len (consA (fv 7) fa_nil))) (consA (fv 7) fa_nil)) (laC (laC la_nil)))) (fss_one (fs_ret fe_bl)) fss_nil))) (fss_cons (setS' 8 sc_law.nd (fe_call (cal__law_digits t) hr (by have := fuel_eq; omega) rfl (consA (fe_call (cal__law_cell t) hr (by have := fuel_eq; omega) rfl (consA (fv 0) (consA fe_int fa_nil)) (laC (laC la_nil))) (consA (fe_bin o2_mul op_mulA (lstE (consD (dE fe_int) fds_nil)) fe_int) fa_nil)) (laC (laC la_nil)))) (fss_cons (setS' 9 sc_law.nd (fe_call (cal__law_digits t) hr (by have := fuel_eq; omega) rfl (consA (fe_call (cal__law_cell t) hr (by have := fuel_eq; omega) rfl (consA (fv 0) (consA fe_int fa_nil)) (laC (laC la_nil))) (consA (fe_bin o2_mul op_mulA (lstE (consD (dE fe_int) fds_nil)) fe_int) fa_nil)) (laC (laC la_nil)))) (fss_cons (setS' 10 sc_law.nd (fe_call (cal__law_lots t) hr (by have := fuel_eq; omega) rfl (consA (fv 2) (consA (fv 8) fa_nil)) (laC (laC la_nil)))) (fss_cons (setS' 11 sc_law.nd (fe_callTy on_tuple call_tuple_of rfl t.b_tuple PyProof.Rows.boot_tuple (consA (lcE [("many", 6)] sc_law.nd (fi_range1 rfl t.b_range (fe_callB on_len call_len rfl t.b_len boot_len (consA (fv 10) fa_nil))) (fun _ _ _ _ _ => (nmG 6 sc_law.nd)) (fun _ _ _ _ _ => fts_nil) (fun _ _ _ _ _ => dE (fe_call (cal__law_grown t) hr (by have := fuel_eq; omega) rfl (consA (ixE (fv 10) (fv 6)) (consA (fv 2) (consA (ixE (fv 9) (fv 6)) fa_nil))) (laC (laC (laC la_nil))))) ul_name) fa_nil))) (fss_cons (fs_if (cmpT o2_isB op_isNotA (fe_callK (calk_are_slices t) hr (by have := fuel_eq; omega) rfl (consK (fv 11) (consK (fv 2) fk_nil)) (laC (laC la_nil))) fe_bl) (fss_one (fs_ret fe_bl)) fss_nil) (fss_cons (forE (ws := [12]) PassesOwn.never (seqI (dE (fe_call (cal__law_spoilt t) hr (by have := fuel_eq; omega) rfl (consA (fv 11) (consA (fv 10) (consA (fv 2) (consA (slE (fv 1) (loE fe_int) (loE fe_int)) fa_nil)))) (laC (laC (laC (laC la_nil))))))) (nmG 12 sc_law.nd) (fss_cons (setS' 16 sc_law.nd (fe_call (cal_are_slices t) hr (by have := fuel_eq; omega) rfl (consA (fv 12) (consA (fv 2) fa_nil)) (laC (laC la_nil)))) (fss_one (fs_if (ft_w (fw_or (notT (valT (fe_isi rfl t.b_isinstance boot_isinstance rfl t.b_bool PyProof.Rows.boot_bool (fv 16)))) (fw_or1 (cmpT o2_ne (xNe hr) (fv 16) (fe_call (cal__law_row_fits t) hr (by have := fuel_eq; omega) rfl (consA (fv 12) (consA (fv 2) fa_nil)) (laC (laC la_nil))))))) (fss_one (fs_ret fe_bl)) fss_nil)))) (fss_cons (setS' 13 sc_law.nd (lstE fds_nil)) (fss_cons (forE (ws := [6]) PassesOwn.never (fi_range1 rfl t.b_range (fe_callB on_len call_len rfl t.b_len boot_len (consA (fv 11) fa_nil))) (nmG 6 sc_law.nd) (fss_one (fs_append (n := 13) rfl (vis1 rfl) (dE (tupE (consD (dE fe_str) (consD (dE (tupE (consD (dE (ixE (fv 11) (fv 6))) (consD (dE (tupE (consD (dE fe_str) (consD (dE (fe_call (cal__law_at_least t fuel) hr (by have := fuel_eq; omega) rfl (consA (fv 2) (consA (fe_callB on_len call_len rfl t.b_len boot_len (consA (fv 2) fa_nil)) (consA (fe_bin o2_add op_addA (fv 6) fe_int) fa_nil))) (laC (laC (laC la_nil))))) fds_nil)))) fds_nil)))) fds_nil))))))) (fss_cons (setS' 14 sc_law.nd (fe_call (cal_unslice t) hr (by have := fuel_eq; omega) rfl (consA (fv 11) (consA (fv 2) fa_nil)) (laC (laC la_nil)))) (fss_cons (fs_if (ft_w (fw_or (notT (valT (fe_call (cal__law_told_formula t) hr (by have := fuel_eq; omega) rfl (consA (fv 14) (consA (tupE (consD (dE fe_str) (consD (dE (fe_callTy on_tuple call_tuple_of rfl t.b_tuple PyProof.Rows.boot_tuple (consA (fv 13) fa_nil))) fds_nil))) fa_nil)) (laC (laC la_nil))))) (fw_or1 (cmpT o2_ne (xNe hr) (fe_callK (calk_unslice t) hr (by have := fuel_eq; omega) rfl (consK (fv 11) (consK (fv 2) fk_nil)) (laC (laC la_nil))) (fv 14))))) (fss_one (fs_ret fe_bl)) fss_nil) (fss_cons (forE (ws := [7]) PassesOwn.never (seqI (dE (fv 3))) (nmG 7 sc_law.nd) (fss_one (fs_if (cmpT o2_ne (xNe hr) (fe_call (cal__law_on t fuel) hr (by have := fuel_eq; omega) rfl (consA (fv 14) (consA (fv 7) fa_nil)) (laC (laC la_nil))) (fe_call (cal__law_on t fuel) hr (by have := fuel_eq; omega) rfl (consA (ixE (fv 11) (fe_callB on_len call_len rfl t.b_len boot_len (consA (fv 7) fa_nil))) (consA (fv 7) fa_nil)) (laC (laC la_nil)))) (fss_one (fs_ret fe_bl)) fss_nil))) (fss_cons (fs_if (notT (valT (fe_call (cal__law_told_row t) hr (by have := fuel_eq; omega) rfl (consA (fe_call (cal_slices_of t) hr (by have := fuel_eq; omega) rfl (consA (fv 14) (consA (fv 2) fa_nil)) (laC (laC la_nil))) (consA (fe_callTy on_tuple call_tuple_of rfl t.b_tuple PyProof.Rows.boot_tuple (consA (lcE [("lot", 15)] sc_law.nd (seqI (dE (fv 10))) (fun _ _ _ _ _ => (nmG 15 sc_law.nd)) (fun _ _ _ _ _ => fts_nil) (fun _ _ _ _ _ => dE (fe_call (cal__law_form t) hr (by have := fuel_eq; omega) rfl (consA (fv 15) fa_nil) (laC la_nil))) ul_name) fa_nil)) fa_nil)) (laC (laC la_nil))))) (fss_one (fs_ret fe_bl)) fss_nil) (fss_cons (setS' 6 sc_law.nd (fe_bin o2_mod op_mod (fe_callTy on_int call_int1 rfl t.b_int PyProof.Rows.boot_int (consA (ixE (fv 1) fe_int) fa_nil)) (fe_callB on_len call_len rfl t.b_len boot_len (consA (fv 5) fa_nil)))) (fss_one (fs_ret (fe_call (cal__law_told_formula t) hr (by have := fuel_eq; omega) rfl (consA (fe_callK (calk_slice_of t) hr (by have := fuel_eq; omega) rfl (consK (fv 4) (consK (fv 2) (consK (fv 6) fk_nil))) (laC (laC (laC la_nil)))) (consA (ixE (fv 5) (fv 6)) fa_nil)) (laC (laC la_nil))))))))))))))))))))))))))))
theorem cal_law (t : TX K mg base T) : FN.Cal P w K mg base T 89 "law" 1 F_law [] := by
  obtain ⟨fd, F, FO⟩ := fn_law (P := P) (w := w) t
  exact cal_of F t.g_law (F.bindsN (ps := ["script"]) fun _ _ _ _ _ _ us hl => match us, hl with | [_], _ => rfl) FO
end
end K89

namespace K89
open PySem FN
open PySem.PyData (strOk)
theorem below1 {low w : List Str} {x : Str} (hx : strOk x = true) (hw : Ws w) : f__law_below_1 [.im (wd low), .im (wd w), .im (.str x)] = if x ∈ w then some (.nx, [.im (wd low), .im (wd w), .im (.str x)]) else some (.rt (.im (.bool false)), [.im (wd low), .im (wd w), .im (.str x)]) := by
  by_cases h : x ∈ w
  · simp [f__law_below_1, a_bind, a_ret, a_fVar, a_fC, a_op2, a_opN, a_op1, FN.view, views, frz, a_frM, a_consM, a_tupM, a_lstM, mkT, mkL, a_boolE, evB, a_truE, truM, truSV, a_notM, a_notV, a_andM, a_orM, a_andV, a_orV, a_ifM, a_loM, evI, a_slM, a_setS, store, a_retS, retE, a_setG, a_seqS, a_ifS, retN, a_nxS, a_ite, a_itemsM, itemsOf, SV.dat, SV.asI, SV.asQ, a_enuM, enumM, oAdd, oSub, int1, oLt, oLe, oGt, oGe, List.getElem?_cons_zero, List.getElem?_cons_succ, List.set_cons_zero, List.set_cons_succ, oIn_wd hx hw, h]
  · simp [f__law_below_1, a_bind, a_ret, a_fVar, a_fC, a_op2, a_opN, a_op1, FN.view, views, frz, a_frM, a_consM, a_tupM, a_lstM, mkT, mkL, a_boolE, evB, a_truE, truM, truSV, a_notM, a_notV, a_andM, a_orM, a_andV, a_orV, a_ifM, a_loM, evI, a_slM, a_setS, store, a_retS, retE, a_setG, a_seqS, a_ifS, retN, a_nxS, a_ite, a_itemsM, itemsOf, SV.dat, SV.asI, SV.asQ, a_enuM, enumM, oAdd, oSub, int1, oLt, oLe, oGt, oGe, List.getElem?_cons_zero, List.getElem?_cons_succ, List.set_cons_zero, List.set_cons_succ, oIn_wd hx hw, h]
def sub (a b : List Str) : Bool := a.all fun x => decide (x ∈ b)
theorem law_below {low w : List Str} (hl : Ws low) (hw : Ws w) : F__law_below [.im (wd low), .im (wd w)] = some (.im (.bool (sub low w)), [.im (wd low), .im (wd w)]) := by
  have key := loop_ret (u := uName [0, 1] 2) (body := f__law_below_1) (ev := .im (.bool false)) (I := fun env => ∃ v, env = [.im (wd low), .im (wd w), v]) (J := fun env => ∃ v, env = [.im (wd low), .im (wd w), v]) (fun d => match d with | .str x => decide (x ∈ w) | _ => false) (wds low) [.im (wd low), .im (wd w), .no] (fun d hd env he => by
    obtain ⟨v, rfl⟩ := he
    obtain ⟨x, hx, rfl⟩ := List.mem_map.mp hd
    refine ⟨_, rfl, ?_⟩
    have := below1 (low := low) (hl x hx) hw
    by_cases h : x ∈ w
    · rw [if_pos h] at this
      exact .inl ⟨by simp [h], _, this, _, rfl⟩
    · rw [if_neg h] at this
      exact .inr ⟨by simp [h], _, this, _, rfl⟩) ⟨_, rfl⟩
  have e : (wds low).all (fun d => match d with | .str x => decide (x ∈ w) | _ => false) = sub low w := by
    unfold sub wds
    rw [List.all_map]
    rfl
  rw [e] at key
  have hi : itemsM (frM (fVar 0)) [.im (wd low), .im (wd w), .no] = some (wds low, [.im (wd low), .im (wd w), .no]) := rfl
  rcases key with ⟨h, env2, h1, v, rfl⟩ | ⟨h, env2, h1, v, rfl⟩
  · rw [h]
    simp [F__law_below, fnOf, outs, rg1, rg2, rg3, rg4, rg5, isIm, f__law_below, seqS, forS_eq hi, h1, retS, FN.bindM, fC, retM, retE]
  · rw [h]
    simp [F__law_below, fnOf, outs, rg1, rg2, rg3, rg4, rg5, isIm, f__law_below, seqS, forS_eq hi, h1, retS, FN.bindM, fC, retM, retE]
theorem is_below {low w : List Str} (hl : Ws low) (hw : Ws w) : F_is_below [.im (wd low), .im (wd w)] = some (.im (.bool (sub low w)), [.im (wd low), .im (wd w)]) := by
  have hi : itemsM (frM (fVar 0)) [.im (wd low), .im (wd w), .no] = some (wds low, [.im (wd low), .im (wd w), .no]) := rfl
  have g := gen_eq' (cont := true) (vs := [2]) (u := uName [0, 1] 2) (elt := f_is_below_1) (fun d => match d with | .str x => decide (x ∈ w) | _ => false) hi rfl fun d hd => by
    obtain ⟨x, hx, rfl⟩ := List.mem_map.mp hd
    exact ⟨_, rfl, by simp [f_is_below_1, a_bind, a_ret, a_fVar, a_fC, a_op2, a_opN, a_op1, FN.view, views, frz, a_frM, a_consM, a_tupM, a_lstM, mkT, mkL, a_boolE, evB, a_truE, truM, truSV, a_notM, a_notV, a_andM, a_orM, a_andV, a_orV, a_ifM, a_loM, evI, a_slM, a_setS, store, a_retS, retE, a_setG, a_seqS, a_ifS, retN, a_nxS, a_ite, a_itemsM, itemsOf, SV.dat, SV.asI, SV.asQ, a_enuM, enumM, oAdd, oSub, int1, oLt, oLe, oGt, oGe, List.getElem?_cons_zero, List.getElem?_cons_succ, List.set_cons_zero, List.set_cons_succ, wipeE, oIn_wd (hl x hx) hw], rfl⟩
  have e : (wds low).all (fun d => match d with | .str x => decide (x ∈ w) | _ => false) = sub low w := by
    unfold sub wds
    rw [List.all_map]
    rfl
  rw [if_pos rfl, e] at g
  simp [F_is_below, fnOf, outs, rg1, rg2, rg3, rg4, rg5, isIm, f_is_below, retS, FN.bindM, g, retE]theorem is_on : ∀ (n : Nat) (m : Mb) (w : List Str), dep m ≤ n → Mok m → Ws w → F_is_on n [.im (enc m), .im (wd w)] = some (.im (.bool (on m w)), [.im (enc m), .im (wd w)])
  | 0, m, w, h, _, _ => by cases m <;> simp [dep] at h
  | n + 1, .atom a, w, h, hm, hw => by
    have ha : strOk a = true := hm
    simp [F_is_on, fnOf, outs, rg1, rg2, rg3, rg4, rg5, isIm, f_is_on, a_bind, a_ret, a_fVar, a_fC, a_op2, a_opN, a_op1, FN.view, views, frz, a_frM, a_consM, a_tupM, a_lstM, mkT, mkL, a_boolE, evB, a_truE, truM, truSV, a_notM, a_notV, a_andM, a_orM, a_andV, a_orV, a_ifM, a_loM, evI, a_slM, a_setS, store, a_retS, retE, a_setG, a_seqS, a_ifS, retN, a_nxS, a_ite, a_itemsM, itemsOf, SV.dat, SV.asI, SV.asQ, a_enuM, enumM, oAdd, oSub, int1, oLt, oLe, oGt, oGe, List.getElem?_cons_zero, List.getElem?_cons_succ, List.set_cons_zero, List.set_cons_succ, enc, oIx0, oIx1, oEq_str, ok_atom, s_atom_atom, oIn_wd ha hw, on]
  | n + 1, .neg m, w, h, hm, hw => by
    have ih := is_on n m w (by simp only [dep] at h; omega) hm hw
    have e : enc (.neg m) = .tuple [.str "not", enc m] := rfl
    rw [e]
    have c : callM (F_is_on n) [] (consM (op2 (fVar 0) (fC (.int 1)) oIx) (consM (fVar 1) (retM []))) [.im (.tuple [.str "not", enc m]), .im (wd w), .no] = some (.im (.bool (on m w)), [.im (.tuple [.str "not", enc m]), .im (wd w), .no]) :=
      call_im [enc m, wd w] (by simp [a_bind, a_ret, a_fVar, a_fC, a_op2, a_opN, a_op1, FN.view, views, frz, a_frM, a_consM, a_tupM, a_lstM, mkT, mkL, a_boolE, evB, a_truE, truM, truSV, a_notM, a_notV, a_andM, a_orM, a_andV, a_orV, a_ifM, a_loM, evI, a_slM, a_setS, store, a_retS, retE, a_setG, a_seqS, a_ifS, retN, a_nxS, a_ite, a_itemsM, itemsOf, SV.dat, SV.asI, SV.asQ, a_enuM, enumM, oAdd, oSub, int1, oLt, oLe, oGt, oGe, List.getElem?_cons_zero, List.getElem?_cons_succ, List.set_cons_zero, List.set_cons_succ, oIx1]) ih im_ne
    simp [F_is_on, fnOf, outs, rg1, rg2, rg3, rg4, rg5, isIm, f_is_on, a_bind, a_ret, a_fVar, a_fC, a_op2, a_opN, a_op1, FN.view, views, frz, a_frM, a_consM, a_tupM, a_lstM, mkT, mkL, a_boolE, evB, a_truE, truM, truSV, a_notM, a_notV, a_andM, a_orM, a_andV, a_orV, a_ifM, a_loM, evI, a_slM, a_setS, store, a_retS, retE, a_setG, a_seqS, a_ifS, retN, a_nxS, a_ite, a_itemsM, itemsOf, SV.dat, SV.asI, SV.asQ, a_enuM, enumM, oAdd, oSub, int1, oLt, oLe, oGt, oGe, List.getElem?_cons_zero, List.getElem?_cons_succ, List.set_cons_zero, List.set_cons_succ, oIx0, oIx1, oEq_str, ok_atom, ok_not, s_not_atom, s_not_not, c, on]
  | n + 1, .grp b ms, w, h, hm, hw => by
    have ih : ∀ m ∈ ms, F_is_on n [.im (enc m), .im (wd w)] = some (.im (.bool (on m w)), [.im (enc m), .im (wd w)]) := fun m hx => is_on n m w (by have := deps_mem hx; simp only [dep] at h; omega) (Moks_mem hm m hx) hw
    have e : enc (.grp b ms) = .tuple [.str (gname b), .tuple (encs ms)] := rfl
    rw [e]
    have hi : itemsM (frM (op2 (fVar 0) (fC (.int 1)) oIx)) [.im (.tuple [.str (gname b), .tuple (encs ms)]), .im (wd w), .no] = some (ms.map enc, [.im (.tuple [.str (gname b), .tuple (encs ms)]), .im (wd w), .no]) := by simp [a_bind, a_ret, a_fVar, a_fC, a_op2, a_opN, a_op1, FN.view, views, frz, a_frM, a_consM, a_tupM, a_lstM, mkT, mkL, a_boolE, evB, a_truE, truM, truSV, a_notM, a_notV, a_andM, a_orM, a_andV, a_orV, a_ifM, a_loM, evI, a_slM, a_setS, store, a_retS, retE, a_setG, a_seqS, a_ifS, retN, a_nxS, a_ite, a_itemsM, itemsOf, SV.dat, SV.asI, SV.asQ, a_enuM, enumM, oAdd, oSub, int1, oLt, oLe, oGt, oGe, List.getElem?_cons_zero, List.getElem?_cons_succ, List.set_cons_zero, List.set_cons_succ, oIx1, encs_map]
    have el1 : ∀ m ∈ ms, f_is_on_1 (F_is_on n) [.im (.tuple [.str (gname b), .tuple (encs ms)]), .im (wd w), .im (enc m)] = some (on m w, [.im (.tuple [.str (gname b), .tuple (encs ms)]), .im (wd w), .im (enc m)]) := fun m hx => by
      have c : callM (F_is_on n) [] (consM (fVar 2) (consM (fVar 1) (retM []))) [.im (.tuple [.str (gname b), .tuple (encs ms)]), .im (wd w), .im (enc m)] = some (.im (.bool (on m w)), [.im (.tuple [.str (gname b), .tuple (encs ms)]), .im (wd w), .im (enc m)]) := call_im [enc m, wd w] (by simp [a_bind, a_ret, a_fVar, a_fC, a_op2, a_opN, a_op1, FN.view, views, frz, a_frM, a_consM, a_tupM, a_lstM, mkT, mkL, a_boolE, evB, a_truE, truM, truSV, a_notM, a_notV, a_andM, a_orM, a_andV, a_orV, a_ifM, a_loM, evI, a_slM, a_setS, store, a_retS, retE, a_setG, a_seqS, a_ifS, retN, a_nxS, a_ite, a_itemsM, itemsOf, SV.dat, SV.asI, SV.asQ, a_enuM, enumM, oAdd, oSub, int1, oLt, oLe, oGt, oGe, List.getElem?_cons_zero, List.getElem?_cons_succ, List.set_cons_zero, List.set_cons_succ]) (ih m hx) im_ne
      simp [f_is_on_1, a_bind, a_ret, a_fVar, a_fC, a_op2, a_opN, a_op1, FN.view, views, frz, a_frM, a_consM, a_tupM, a_lstM, mkT, mkL, a_boolE, evB, a_truE, truM, truSV, a_notM, a_notV, a_andM, a_orM, a_andV, a_orV, a_ifM, a_loM, evI, a_slM, a_setS, store, a_retS, retE, a_setG, a_seqS, a_ifS, retN, a_nxS, a_ite, a_itemsM, itemsOf, SV.dat, SV.asI, SV.asQ, a_enuM, enumM, oAdd, oSub, int1, oLt, oLe, oGt, oGe, List.getElem?_cons_zero, List.getElem?_cons_succ, List.set_cons_zero, List.set_cons_succ, c]
    have el2 : ∀ m ∈ ms, f_is_on_2 (F_is_on n) [.im (.tuple [.str (gname b), .tuple (encs ms)]), .im (wd w), .im (enc m)] = some (on m w, [.im (.tuple [.str (gname b), .tuple (encs ms)]), .im (wd w), .im (enc m)]) := el1
    have g1 := gen_map (cont := false) (vs := [2]) (u := uName [0, 1] 2) (elt := f_is_on_1 (F_is_on n)) enc (fun m => on m w) hi rfl fun m hx => ⟨_, rfl, el1 m hx, rfl⟩
    have g2 := gen_map (cont := true) (vs := [2]) (u := uName [0, 1] 2) (elt := f_is_on_2 (F_is_on n)) enc (fun m => on m w) hi rfl fun m hx => ⟨_, rfl, el2 m hx, rfl⟩
    cases b with
    | true =>
      rw [if_pos rfl] at g2
      simp only [gname, if_true] at g2 ⊢
      simp [F_is_on, fnOf, outs, rg1, rg2, rg3, rg4, rg5, isIm, f_is_on, a_bind, a_ret, a_fVar, a_fC, a_op2, a_opN, a_op1, FN.view, views, frz, a_frM, a_consM, a_tupM, a_lstM, mkT, mkL, a_boolE, evB, a_truE, truM, truSV, a_notM, a_notV, a_andM, a_orM, a_andV, a_orV, a_ifM, a_loM, evI, a_slM, a_setS, store, a_retS, retE, a_setG, a_seqS, a_ifS, retN, a_nxS, a_ite, a_itemsM, itemsOf, SV.dat, SV.asI, SV.asQ, a_enuM, enumM, oAdd, oSub, int1, oLt, oLe, oGt, oGe, List.getElem?_cons_zero, List.getElem?_cons_succ, List.set_cons_zero, List.set_cons_succ, oIx0, oIx1, oEq_str, ok_atom, ok_not, ok_all, s_all_atom, s_all_not, s_all_all, g2, on, onAll_all]
    | false =>
      rw [if_neg (by simp)] at g1
      simp only [gname, Bool.false_eq_true, if_false] at g1 ⊢
      simp [F_is_on, fnOf, outs, rg1, rg2, rg3, rg4, rg5, isIm, f_is_on, a_bind, a_ret, a_fVar, a_fC, a_op2, a_opN, a_op1, FN.view, views, frz, a_frM, a_consM, a_tupM, a_lstM, mkT, mkL, a_boolE, evB, a_truE, truM, truSV, a_notM, a_notV, a_andM, a_orM, a_andV, a_orV, a_ifM, a_loM, evI, a_slM, a_setS, store, a_retS, retE, a_setG, a_seqS, a_ifS, retN, a_nxS, a_ite, a_itemsM, itemsOf, SV.dat, SV.asI, SV.asQ, a_enuM, enumM, oAdd, oSub, int1, oLt, oLe, oGt, oGe, List.getElem?_cons_zero, List.getElem?_cons_succ, List.set_cons_zero, List.set_cons_succ, oIx0, oIx1, oEq_str, ok_atom, ok_not, ok_all, ok_some, s_some_atom, s_some_not, s_some_all, g1, on, onAny_any]
end K89

namespace K89
open PySem FN
open PySem.PyData (strOk)
theorem gname_all (b : Bool) : (gname b == "all") = b := by cases b <;> decide +kernel
theorem gname_atom (b : Bool) : (gname b == "atom") = false := by cases b <;> decide +kernel
theorem gname_not (b : Bool) : (gname b == "not") = false := by cases b <;> decide +kernel
theorem gname_ok (b : Bool) : strOk (gname b) = true := by cases b <;> decide +kernel
theorem law_on : ∀ (n : Nat) (m : Mb) (w : List Str), dep m ≤ n → Mok m → Ws w → F__law_on n [.im (enc m), .im (wd w)] = some (.im (.bool (on m w)), [.im (enc m), .im (wd w)])
  | 0, m, w, h, _, _ => by cases m <;> simp [dep] at h
  | n + 1, .atom a, w, h, hm, hw => by
    have ha : strOk a = true := hm
    simp [F__law_on, fnOf, outs, rg1, rg2, rg3, rg4, rg5, isIm, f__law_on, a_bind, a_ret, a_fVar, a_fC, a_op2, a_opN, a_op1, FN.view, views, frz, a_frM, a_consM, a_tupM, a_lstM, mkT, mkL, a_boolE, evB, a_truE, truM, truSV, a_notM, a_notV, a_andM, a_orM, a_andV, a_orV, a_ifM, a_loM, evI, a_slM, a_setS, store, a_retS, retE, a_setG, a_seqS, a_ifS, retN, a_nxS, a_ite, a_itemsM, itemsOf, SV.dat, SV.asI, SV.asQ, a_enuM, enumM, oAdd, oSub, int1, oLt, oLe, oGt, oGe, List.getElem?_cons_zero, List.getElem?_cons_succ, List.set_cons_zero, List.set_cons_succ, enc, oIx0, oIx1, oEq_str, ok_atom, s_atom_atom, oIn_wd ha hw, on]
  | n + 1, .neg m, w, h, hm, hw => by
    have ih := law_on n m w (by simp only [dep] at h; omega) hm hw
    have e : enc (.neg m) = .tuple [.str "not", enc m] := rfl
    rw [e]
    have c : callM (F__law_on n) [] (consM (op2 (fVar 0) (fC (.int 1)) oIx) (consM (fVar 1) (retM []))) [.im (.tuple [.str "not", enc m]), .im (wd w), .no] = some (.im (.bool (on m w)), [.im (.tuple [.str "not", enc m]), .im (wd w), .no]) :=
      call_im [enc m, wd w] (by simp [a_bind, a_ret, a_fVar, a_fC, a_op2, a_opN, a_op1, FN.view, views, frz, a_frM, a_consM, a_tupM, a_lstM, mkT, mkL, a_boolE, evB, a_truE, truM, truSV, a_notM, a_notV, a_andM, a_orM, a_andV, a_orV, a_ifM, a_loM, evI, a_slM, a_setS, store, a_retS, retE, a_setG, a_seqS, a_ifS, retN, a_nxS, a_ite, a_itemsM, itemsOf, SV.dat, SV.asI, SV.asQ, a_enuM, enumM, oAdd, oSub, int1, oLt, oLe, oGt, oGe, List.getElem?_cons_zero, List.getElem?_cons_succ, List.set_cons_zero, List.set_cons_succ, oIx1]) ih im_ne
    simp [F__law_on, fnOf, outs, rg1, rg2, rg3, rg4, rg5, isIm, f__law_on, a_bind, a_ret, a_fVar, a_fC, a_op2, a_opN, a_op1, FN.view, views, frz, a_frM, a_consM, a_tupM, a_lstM, mkT, mkL, a_boolE, evB, a_truE, truM, truSV, a_notM, a_notV, a_andM, a_orM, a_andV, a_orV, a_ifM, a_loM, evI, a_slM, a_setS, store, a_retS, retE, a_setG, a_seqS, a_ifS, retN, a_nxS, a_ite, a_itemsM, itemsOf, SV.dat, SV.asI, SV.asQ, a_enuM, enumM, oAdd, oSub, int1, oLt, oLe, oGt, oGe, List.getElem?_cons_zero, List.getElem?_cons_succ, List.set_cons_zero, List.set_cons_succ, oIx0, oIx1, oEq_str, ok_atom, ok_not, s_not_atom, s_not_not, c, on]
  | n + 1, .grp b ms, w, h, hm, hw => by
    have ih : ∀ m ∈ ms, F__law_on n [.im (enc m), .im (wd w)] = some (.im (.bool (on m w)), [.im (enc m), .im (wd w)]) := fun m hx => law_on n m w (by have := deps_mem hx; simp only [dep] at h; omega) (Moks_mem hm m hx) hw
    have e : enc (.grp b ms) = .tuple [.str (gname b), .tuple (encs ms)] := rfl
    rw [e]
    generalize hE : PyData.tuple [.str (gname b), .tuple (encs ms)] = E
    have hi : itemsM (frM (op2 (fVar 0) (fC (.int 1)) oIx)) [.im E, .im (wd w), .no] = some (ms.map enc, [.im E, .im (wd w), .no]) := by subst hE; simp [a_bind, a_ret, a_fVar, a_fC, a_op2, a_opN, a_op1, FN.view, views, frz, a_frM, a_consM, a_tupM, a_lstM, mkT, mkL, a_boolE, evB, a_truE, truM, truSV, a_notM, a_notV, a_andM, a_orM, a_andV, a_orV, a_ifM, a_loM, evI, a_slM, a_setS, store, a_retS, retE, a_setG, a_seqS, a_ifS, retN, a_nxS, a_ite, a_itemsM, itemsOf, SV.dat, SV.asI, SV.asQ, a_enuM, enumM, oAdd, oSub, int1, oLt, oLe, oGt, oGe, List.getElem?_cons_zero, List.getElem?_cons_succ, List.set_cons_zero, List.set_cons_succ, oIx1, encs_map]
    have key := loop_map (u := uName [0, 1] 2) (body := f__law_on_1 (F__law_on n)) (ev := .im (.bool (!b))) (I := fun env => ∃ v, env = [.im E, .im (wd w), v]) (J := fun env => ∃ v, env = [.im E, .im (wd w), v]) enc (fun m => on m w == b) ms [.im E, .im (wd w), .no] (fun m hx env he => by
      obtain ⟨v, rfl⟩ := he
      refine ⟨_, rfl, ?_⟩
      have c : callM (F__law_on n) [] (consM (fVar 2) (consM (fVar 1) (retM []))) [.im E, .im (wd w), .im (enc m)] = some (.im (.bool (on m w)), [.im E, .im (wd w), .im (enc m)]) := call_im [enc m, wd w] (by simp [a_bind, a_ret, a_fVar, a_fC, a_op2, a_opN, a_op1, FN.view, views, frz, a_frM, a_consM, a_tupM, a_lstM, mkT, mkL, a_boolE, evB, a_truE, truM, truSV, a_notM, a_notV, a_andM, a_orM, a_andV, a_orV, a_ifM, a_loM, evI, a_slM, a_setS, store, a_retS, retE, a_setG, a_seqS, a_ifS, retN, a_nxS, a_ite, a_itemsM, itemsOf, SV.dat, SV.asI, SV.asQ, a_enuM, enumM, oAdd, oSub, int1, oLt, oLe, oGt, oGe, List.getElem?_cons_zero, List.getElem?_cons_succ, List.set_cons_zero, List.set_cons_succ]) (ih m hx) im_ne
      subst hE
      have body : f__law_on_1 (F__law_on n) [.im (.tuple [.str (gname b), .tuple (encs ms)]), .im (wd w), .im (enc m)] = if (on m w == b) = true then some (.nx, [.im (.tuple [.str (gname b), .tuple (encs ms)]), .im (wd w), .im (enc m)]) else some (.rt (.im (.bool (!b))), [.im (.tuple [.str (gname b), .tuple (encs ms)]), .im (wd w), .im (enc m)]) := by
        cases b <;> cases hq : on m w <;> rw [hq] at c <;> simp [f__law_on_1, a_bind, a_ret, a_fVar, a_fC, a_op2, a_opN, a_op1, FN.view, views, frz, a_frM, a_consM, a_tupM, a_lstM, mkT, mkL, a_boolE, evB, a_truE, truM, truSV, a_notM, a_notV, a_andM, a_orM, a_andV, a_orV, a_ifM, a_loM, evI, a_slM, a_setS, store, a_retS, retE, a_setG, a_seqS, a_ifS, retN, a_nxS, a_ite, a_itemsM, itemsOf, SV.dat, SV.asI, SV.asQ, a_enuM, enumM, oAdd, oSub, int1, oLt, oLe, oGt, oGe, List.getElem?_cons_zero, List.getElem?_cons_succ, List.set_cons_zero, List.set_cons_succ, c, oIx0, oEq_str, oNe_str, gname_ok, ok_all, gname_all, oNe_bool]
      cases q : (on m w == b)
      · exact .inr ⟨rfl, _, body.trans (by rw [q]; rfl), _, rfl⟩
      · exact .inl ⟨rfl, _, body.trans (by rw [q]; rfl), _, rfl⟩) ⟨_, rfl⟩
    rcases key with ⟨h1, env2, h2, v, rfl⟩ | ⟨h1, env2, h2, v, rfl⟩
    · subst hE
      have ho : on (.grp b ms) w = b := by
        cases b with
        | true => rw [on, onAll_all]; simpa using h1
        | false => rw [on, onAny_any]; simpa using h1
      rw [ho]
      simp [F__law_on, fnOf, outs, rg1, rg2, rg3, rg4, rg5, isIm, f__law_on, a_bind, a_ret, a_fVar, a_fC, a_op2, a_opN, a_op1, FN.view, views, frz, a_frM, a_consM, a_tupM, a_lstM, mkT, mkL, a_boolE, evB, a_truE, truM, truSV, a_notM, a_notV, a_andM, a_orM, a_andV, a_orV, a_ifM, a_loM, evI, a_slM, a_setS, store, a_retS, retE, a_setG, a_seqS, a_ifS, retN, a_nxS, a_ite, a_itemsM, itemsOf, SV.dat, SV.asI, SV.asQ, a_enuM, enumM, oAdd, oSub, int1, oLt, oLe, oGt, oGe, List.getElem?_cons_zero, List.getElem?_cons_succ, List.set_cons_zero, List.set_cons_succ, oIx0, oIx1, oEq_str, gname_ok, ok_atom, ok_not, ok_all, gname_atom, gname_not, gname_all, forS_eq hi, h2]
    · subst hE
      have ho : on (.grp b ms) w = !b := by
        cases b with
        | true => rw [on, onAll_all]; simpa using h1
        | false =>
          rw [on, onAny_any]
          have : ¬ (ms.all fun m => on m w == false) = true := by rw [h1]; simp
          rw [Bool.not_false]
          rw [List.any_eq_true]
          rw [List.all_eq_true] at this
          by_cases hx : ∃ x ∈ ms, on x w = true
          · exact hx
          · exact absurd (fun x hm => by
              cases q : on x w with
              | false => rfl
              | true => exact absurd ⟨x, hm, q⟩ hx) this
      rw [ho]
      simp [F__law_on, fnOf, outs, rg1, rg2, rg3, rg4, rg5, isIm, f__law_on, a_bind, a_ret, a_fVar, a_fC, a_op2, a_opN, a_op1, FN.view, views, frz, a_frM, a_consM, a_tupM, a_lstM, mkT, mkL, a_boolE, evB, a_truE, truM, truSV, a_notM, a_notV, a_andM, a_orM, a_andV, a_orV, a_ifM, a_loM, evI, a_slM, a_setS, store, a_retS, retE, a_setG, a_seqS, a_ifS, retN, a_nxS, a_ite, a_itemsM, itemsOf, SV.dat, SV.asI, SV.asQ, a_enuM, enumM, oAdd, oSub, int1, oLt, oLe, oGt, oGe, List.getElem?_cons_zero, List.getElem?_cons_succ, List.set_cons_zero, List.set_cons_succ, oIx0, oIx1, oEq_str, gname_ok, ok_atom, ok_not, ok_all, gname_atom, gname_not, gname_all, forS_eq hi, h2]
/-! worlds -/
def grow (f : List (List Str)) (x : Str) : List (List Str) := f ++ f.map (· ++ [x])
def worlds (ws : List Str) : List (List Str) := ws.foldl grow [[]]
theorem worlds_snoc (ws : List Str) (x : Str) : worlds (ws ++ [x]) = grow (worlds ws) x := by unfold worlds; rw [List.foldl_append]; rfl
theorem foldl_length : ∀ (ws : List Str) (f : List (List Str)), (ws.foldl grow f).length = f.length * 2 ^ ws.length
  | [], f => by simp
  | x :: ws, f => by
    rw [List.foldl_cons, foldl_length ws, grow, List.length_append, List.length_map, List.length_cons, Nat.pow_succ, ← Nat.mul_two, Nat.mul_assoc, Nat.mul_comm 2]
theorem worlds_length (ws : List Str) : (worlds ws).length = 2 ^ ws.length := by
  unfold worlds
  rw [foldl_length]; simp
theorem Ws_worlds {ws : List Str} (h : Ws ws) : ∀ w ∈ worlds ws, Ws w := by
  have go : ∀ (l : List Str) (f : List (List Str)), Ws l → (∀ w ∈ f, Ws w) → ∀ w ∈ l.foldl grow f, Ws w := fun l => by
    induction l with
    | nil => intro f _ h; exact h
    | cons x l ih =>
      intro f hl hf
      refine ih _ (fun y hy => hl y (List.mem_cons_of_mem _ hy)) fun w hw => ?_
      unfold grow at hw
      rcases List.mem_append.mp hw with hw | hw
      · exact hf w hw
      · obtain ⟨v, hv, rfl⟩ := List.mem_map.mp hw
        intro y hy
        rcases List.mem_append.mp hy with hy | hy
        · exact hf v hv y hy
        · rw [List.mem_singleton.mp hy]; exact hl x List.mem_cons_self
  exact go ws [[]] h fun w hw => by rw [List.mem_singleton.mp hw]; intro y hy; cases hy
theorem wds_snoc (w : List Str) (x : Str) : wds (w ++ [x]) = wds w ++ [.str x] := by simp
theorem pow_small {n : Nat} (h : n ≤ 20) : 2 ^ n ≤ 2 ^ 20 := Nat.pow_le_pow_right (by omega) h
theorem all_body {ws pre : List Str} {x : Str} {v : SV} (hp : pre.length ≤ 8) (hx : ∀ w ∈ worlds pre, w.length ≤ 8) : f__law_all_2 [.im (wd ws), .mu ((worlds pre).map wd), .im (.str x), .no] = some (.nx, [.im (wd ws), .mu ((worlds (pre ++ [x])).map wd), .im (.str x), .no]) := by
  have hl : (worlds pre).length ≤ 256 := by rw [worlds_length]; exact Nat.le_trans (Nat.pow_le_pow_right (by omega) hp) (by decide)
  have hi : itemsM (frM (fVar 1)) [.im (wd ws), .mu ((worlds pre).map wd), .im (.str x), .no] = some ((worlds pre).map wd, [.im (wd ws), .im (.list ((worlds pre).map wd)), .im (.str x), .no]) := by simp [a_bind, a_ret, a_fVar, a_fC, a_op2, a_opN, a_op1, FN.view, views, frz, a_frM, a_consM, a_tupM, a_lstM, mkT, mkL, a_boolE, evB, a_truE, truM, truSV, a_notM, a_notV, a_andM, a_orM, a_andV, a_orV, a_ifM, a_loM, evI, a_slM, a_setS, store, a_retS, retE, a_setG, a_seqS, a_ifS, retN, a_nxS, a_ite, a_itemsM, itemsOf, SV.dat, SV.asI, SV.asQ, a_enuM, enumM, oAdd, oSub, int1, oLt, oLe, oGt, oGe, List.getElem?_cons_zero, List.getElem?_cons_succ, List.set_cons_zero, List.set_cons_succ]
  have lc := lcm_map (vs := [3]) (u := uName [0] 3) (elt := f__law_all_1) wd (fun w => wd (w ++ [x])) hi rfl (Nat.le_trans hl (by decide)) fun w hw => by
    have h1 := hx w hw
    refine ⟨_, rfl, ?_, rfl⟩
    have : w.length + 1 ≤ sizeLine := by show _ ≤ 2 ^ 24; omega
    have z2 : 1 ≤ sizeLine := by decide
    simp [f__law_all_1, a_bind, a_ret, a_fVar, a_fC, a_op2, a_opN, a_op1, FN.view, views, frz, a_frM, a_consM, a_tupM, a_lstM, mkT, mkL, a_boolE, evB, a_truE, truM, truSV, a_notM, a_notV, a_andM, a_orM, a_andV, a_orV, a_ifM, a_loM, evI, a_slM, a_setS, store, a_retS, retE, a_setG, a_seqS, a_ifS, retN, a_nxS, a_ite, a_itemsM, itemsOf, SV.dat, SV.asI, SV.asQ, a_enuM, enumM, oAdd, oSub, int1, oLt, oLe, oGt, oGe, List.getElem?_cons_zero, List.getElem?_cons_succ, List.set_cons_zero, List.set_cons_succ, wipeE, this, z2]
  have h2 : (worlds pre).length + (worlds pre).length ≤ sizeLine := by show _ ≤ 2 ^ 24; omega
  simp [f__law_all_2, a_bind, a_ret, a_fVar, a_fC, a_op2, a_opN, a_op1, FN.view, views, frz, a_frM, a_consM, a_tupM, a_lstM, mkT, mkL, a_boolE, evB, a_truE, truM, truSV, a_notM, a_notV, a_andM, a_orM, a_andV, a_orV, a_ifM, a_loM, evI, a_slM, a_setS, store, a_retS, retE, a_setG, a_seqS, a_ifS, retN, a_nxS, a_ite, a_itemsM, itemsOf, SV.dat, SV.asI, SV.asQ, a_enuM, enumM, oAdd, oSub, int1, oLt, oLe, oGt, oGe, List.getElem?_cons_zero, List.getElem?_cons_succ, List.set_cons_zero, List.set_cons_succ, lc, SV.asL, h2, worlds_snoc, grow]
theorem worlds_short {pre : List Str} : ∀ w ∈ worlds pre, w.length ≤ pre.length := by
  have go : ∀ (l : List Str) (f : List (List Str)) (n : Nat), (∀ w ∈ f, w.length ≤ n) → ∀ w ∈ l.foldl grow f, w.length ≤ n + l.length := fun l => by
    induction l with
    | nil => intro f n h; exact h
    | cons x l ih =>
      intro f n hf w hw
      have := ih (grow f x) (n + 1) (fun v hv => by
        unfold grow at hv
        rcases List.mem_append.mp hv with hv | hv
        · exact Nat.le_succ_of_le (hf v hv)
        · obtain ⟨u, hu, rfl⟩ := List.mem_map.mp hv
          rw [List.length_append, List.length_singleton]
          exact Nat.succ_le_succ (hf u hu)) w hw
      rw [List.length_cons]
      omega
  intro w hw
  have := go pre [[]] 0 (fun w hw => by rw [List.mem_singleton.mp hw]; exact Nat.le_refl _) w hw
  omega
theorem law_all {ws : List Str} (h : ws.length ≤ 8) : F__law_all [.im (wd ws)] = some (.own ((worlds ws).map wd), [.im (wd ws)]) := by
  obtain ⟨env2, h1, v, h2⟩ := loop_fold (u := uName [0] 2) (body := f__law_all_2) PyData.str (fun pre env => ∃ v, env = [.im (wd ws), .mu ((worlds pre).map wd), v, .no]) ws [] [.im (wd ws), .mu ((worlds []).map wd), .no, .no] (fun p d q env e i => by
    obtain ⟨v, rfl⟩ := i
    have hp : p.length ≤ 8 := by
      have := congrArg List.length e
      simp at this
      omega
    exact ⟨_, _, rfl, all_body (v := v) hp (fun w hw => Nat.le_trans (worlds_short w hw) hp), _, rfl⟩) ⟨_, rfl⟩
  subst h2
  have hi : itemsM (frM (fVar 0)) [.im (wd ws), .mu [.tuple []], .no, .no] = some (ws.map PyData.str, [.im (wd ws), .mu [.tuple []], .no, .no]) := rfl
  have h1' : loopS (uName [0] 2) f__law_all_2 (ws.map PyData.str) [.im (wd ws), .mu [.tuple []], .no, .no] = some (.nx, [.im (wd ws), .mu ((worlds ws).map wd), v, .no]) := h1
  have z1 : 0 ≤ sizeLine := by decide
  have z2 : 1 ≤ sizeLine := by decide
  simp [F__law_all, fnOf, outs, rg1, rg2, rg3, rg4, rg5, isIm, f__law_all, a_bind, a_ret, a_fVar, a_fC, a_op2, a_opN, a_op1, FN.view, views, frz, a_frM, a_consM, a_tupM, a_lstM, mkT, mkL, a_boolE, evB, a_truE, truM, truSV, a_notM, a_notV, a_andM, a_orM, a_andV, a_orV, a_ifM, a_loM, evI, a_slM, a_setS, store, a_retS, retE, a_setG, a_seqS, a_ifS, retN, a_nxS, a_ite, a_itemsM, itemsOf, SV.dat, SV.asI, SV.asQ, a_enuM, enumM, oAdd, oSub, int1, oLt, oLe, oGt, oGe, List.getElem?_cons_zero, List.getElem?_cons_succ, List.set_cons_zero, List.set_cons_succ, forS_eq hi, h1', z1, z2]
theorem all_body' {ws pre : List Str} {x : Str} {v : SV} (hp : pre.length ≤ 8) (hx : ∀ w ∈ worlds pre, w.length ≤ 8) : f_all_worlds_2 [.im (wd ws), .mu ((worlds pre).map wd), .im (.str x), .no] = some (.nx, [.im (wd ws), .mu ((worlds (pre ++ [x])).map wd), .im (.str x), .no]) := all_body (v := v) hp hx
theorem all_worlds {ws : List Str} (h : ws.length ≤ 8) : F_all_worlds [.im (wd ws)] = some (.im (.tuple ((worlds ws).map wd)), [.im (wd ws)]) := by
  obtain ⟨env2, h1, v, h2⟩ := loop_fold (u := uName [0] 2) (body := f_all_worlds_2) PyData.str (fun pre env => ∃ v, env = [.im (wd ws), .mu ((worlds pre).map wd), v, .no]) ws [] [.im (wd ws), .mu ((worlds []).map wd), .no, .no] (fun p d q env e i => by
    obtain ⟨v, rfl⟩ := i
    have hp : p.length ≤ 8 := by
      have := congrArg List.length e
      simp at this
      omega
    exact ⟨_, _, rfl, all_body' (v := v) hp (fun w hw => Nat.le_trans (worlds_short w hw) hp), _, rfl⟩) ⟨_, rfl⟩
  subst h2
  have hi : itemsM (frM (fVar 0)) [.im (wd ws), .mu [.tuple []], .no, .no] = some (ws.map PyData.str, [.im (wd ws), .mu [.tuple []], .no, .no]) := rfl
  have h1' : loopS (uName [0] 2) f_all_worlds_2 (ws.map PyData.str) [.im (wd ws), .mu [.tuple []], .no, .no] = some (.nx, [.im (wd ws), .mu ((worlds ws).map wd), v, .no]) := h1
  have z1 : 0 ≤ sizeLine := by decide
  have z2 : 1 ≤ sizeLine := by decide
  simp [F_all_worlds, fnOf, outs, rg1, rg2, rg3, rg4, rg5, isIm, f_all_worlds, a_bind, a_ret, a_fVar, a_fC, a_op2, a_opN, a_op1, FN.view, views, frz, a_frM, a_consM, a_tupM, a_lstM, mkT, mkL, a_boolE, evB, a_truE, truM, truSV, a_notM, a_notV, a_andM, a_orM, a_andV, a_orV, a_ifM, a_loM, evI, a_slM, a_setS, store, a_retS, retE, a_setG, a_seqS, a_ifS, retN, a_nxS, a_ite, a_itemsM, itemsOf, SV.dat, SV.asI, SV.asQ, a_enuM, enumM, oAdd, oSub, int1, oLt, oLe, oGt, oGe, List.getElem?_cons_zero, List.getElem?_cons_succ, List.set_cons_zero, List.set_cons_succ, forS_eq hi, h1', z1, z2, oTuple]
end K89

namespace K89
open PySem FN
open PySem.PyData (strOk)
def menus : List (List Str) := [["a", "b", "c", "d"], ["p", "q1", "rain", "s"], ["b", "ba", "bab", "x9"], ["door", "key", "lamp", "z"], ["m1", "m10", "m2", "n"], ["card", "code", "guard", "night0"], ["r", "s", "sl", "t"], ["t", "u", "v7", "w"], ["k", "sk", "slow", "sm"]]
def okI (r : Option (EV × List SV)) (x : Str) : Bool := match r with
  | some (.im (.bool true), [.im (.str y)]) => decide (y = x)
  | _ => false
theorem okI_eq {r : Option (EV × List SV)} {x : Str} (h : okI r x = true) : r = some (.im (.bool true), [.im (.str x)]) := by
  unfold okI at h
  split at h
  · rw [of_decide_eq_true h]
  · cases h
theorem names_ok : (menus.flatten.all fun x => okI (F_is_name [.im (.str x)]) x && okI (F__law_is_name [.im (.str x)]) x && strOk x) = true := by decide +kernel
def Nm (x : Str) : Prop := x ∈ menus.flatten
def Nms (w : List Str) : Prop := ∀ x ∈ w, Nm x
theorem nm_all {x : Str} (h : Nm x) : (okI (F_is_name [.im (.str x)]) x = true ∧ okI (F__law_is_name [.im (.str x)]) x = true) ∧ strOk x = true := by
  have := List.all_eq_true.mp names_ok x h
  rw [Bool.and_eq_true, Bool.and_eq_true] at this
  exact this
theorem Nm.ok {x : Str} (h : Nm x) : strOk x = true := (nm_all h).2
theorem Nms.ws {w : List Str} (h : Nms w) : Ws w := fun x hx => (h x hx).ok
theorem is_name {x : Str} (h : Nm x) : F_is_name [.im (.str x)] = some (.im (.bool true), [.im (.str x)]) := okI_eq (nm_all h).1.1
theorem law_is_name {x : Str} (h : Nm x) : F__law_is_name [.im (.str x)] = some (.im (.bool true), [.im (.str x)]) := okI_eq (nm_all h).1.2
theorem make_atom {x : Str} (h : Nm x) : F_make_atom [.im (.str x)] = some (.im (enc (.atom x)), [.im (.str x)]) := by
  have c : callM F_is_name [] (consM (fVar 0) (retM [])) [.im (.str x)] = some (.im (.bool true), [.im (.str x)]) := call_im [.str x] (by simp [a_bind, a_ret, a_fVar, a_fC, a_op2, a_opN, a_op1, FN.view, views, frz, a_frM, a_consM, a_tupM, a_lstM, mkT, mkL, a_boolE, evB, a_truE, truM, truSV, a_notM, a_notV, a_andM, a_orM, a_andV, a_orV, a_ifM, a_loM, evI, a_slM, a_setS, store, a_retS, retE, a_setG, a_seqS, a_ifS, retN, a_nxS, a_ite, a_itemsM, itemsOf, SV.dat, SV.asI, SV.asQ, a_enuM, enumM, oAdd, oSub, int1, oLt, oLe, oGt, oGe, List.getElem?_cons_zero, List.getElem?_cons_succ, List.set_cons_zero, List.set_cons_succ]) (is_name h) im_ne
  simp [F_make_atom, fnOf, outs, rg1, rg2, rg3, rg4, rg5, isIm, f_make_atom, a_bind, a_ret, a_fVar, a_fC, a_op2, a_opN, a_op1, FN.view, views, frz, a_frM, a_consM, a_tupM, a_lstM, mkT, mkL, a_boolE, evB, a_truE, truM, truSV, a_notM, a_notV, a_andM, a_orM, a_andV, a_orV, a_ifM, a_loM, evI, a_slM, a_setS, store, a_retS, retE, a_setG, a_seqS, a_ifS, retN, a_nxS, a_ite, a_itemsM, itemsOf, SV.dat, SV.asI, SV.asQ, a_enuM, enumM, oAdd, oSub, int1, oLt, oLe, oGt, oGe, List.getElem?_cons_zero, List.getElem?_cons_succ, List.set_cons_zero, List.set_cons_succ, c, enc, sz 2]
/-! at_least -/
def atL (ns : List Str) : Nat → Nat → Mb
  | _, 0 => .grp true []
  | 0, _ + 1 => .grp false []
  | j + 1, k + 1 => if k + 1 > j + 1 then .grp false [] else .grp false [atL ns j (k + 1), .grp true [.atom (ns.getD j ""), atL ns j k]]
theorem c_SURE_eq : c_SURE = enc (.grp true []) := rfl
theorem c_NEVER_eq : c_NEVER = enc (.grp false []) := rfl
theorem callM_at {F : FnT} {env : FEnv} {a b c : PyData} {f g h : M EV} {r : EV} {svs : List SV} (hf : f env = some (.im a, env)) (hg : g env = some (.im b, env)) (hh : h env = some (.im c, env)) (e : F [.im a, .im b, .im c] = some (r, svs)) (hr : ∀ i, r ≠ .slot i) : callM F [] (consM f (consM g (consM h (retM [])))) env = some (r, env) :=
  call_im [a, b, c] (by simp [a_bind, a_ret, a_fVar, a_fC, a_op2, a_opN, a_op1, FN.view, views, frz, a_frM, a_consM, a_tupM, a_lstM, mkT, mkL, a_boolE, evB, a_truE, truM, truSV, a_notM, a_notV, a_andM, a_orM, a_andV, a_orV, a_ifM, a_loM, evI, a_slM, a_setS, store, a_retS, retE, a_setG, a_seqS, a_ifS, retN, a_nxS, a_ite, a_itemsM, itemsOf, SV.dat, SV.asI, SV.asQ, a_enuM, enumM, oAdd, oSub, int1, oLt, oLe, oGt, oGe, List.getElem?_cons_zero, List.getElem?_cons_succ, List.set_cons_zero, List.set_cons_succ, hf, hg, hh]) e hr
theorem at_least (ns : List Str) : ∀ (n j k : Nat), j < n → j ≤ ns.length → F_at_least n [.im (.tuple (ns.map fun x => enc (.atom x))), .im (.int j), .im (.int k)] = some (.im (enc (atL ns j k)), [.im (.tuple (ns.map fun x => enc (.atom x))), .im (.int j), .im (.int k)])
  | n + 1, j, 0, h, _ => by
    have e : atL ns j 0 = .grp true [] := by cases j <;> rfl
    rw [e]
    simp [F_at_least, fnOf, outs, rg1, rg2, rg3, rg4, rg5, isIm, f_at_least, a_bind, a_ret, a_fVar, a_fC, a_op2, a_opN, a_op1, FN.view, views, frz, a_frM, a_consM, a_tupM, a_lstM, mkT, mkL, a_boolE, evB, a_truE, truM, truSV, a_notM, a_notV, a_andM, a_orM, a_andV, a_orV, a_ifM, a_loM, evI, a_slM, a_setS, store, a_retS, retE, a_setG, a_seqS, a_ifS, retN, a_nxS, a_ite, a_itemsM, itemsOf, SV.dat, SV.asI, SV.asQ, a_enuM, enumM, oAdd, oSub, int1, oLt, oLe, oGt, oGe, List.getElem?_cons_zero, List.getElem?_cons_succ, List.set_cons_zero, List.set_cons_succ, oEq_int, c_SURE_eq]
  | n + 1, 0, k + 1, h, _ => by
    have e : atL ns 0 (k + 1) = .grp false [] := rfl
    rw [e]
    have h1 : ((((k : Nat) : Int) + 1) == 0) = false := by simp; omega
    have h2 : (0 : Int) < ((k : Nat) : Int) + 1 := by omega
    simp [F_at_least, fnOf, outs, rg1, rg2, rg3, rg4, rg5, isIm, f_at_least, a_bind, a_ret, a_fVar, a_fC, a_op2, a_opN, a_op1, FN.view, views, frz, a_frM, a_consM, a_tupM, a_lstM, mkT, mkL, a_boolE, evB, a_truE, truM, truSV, a_notM, a_notV, a_andM, a_orM, a_andV, a_orV, a_ifM, a_loM, evI, a_slM, a_setS, store, a_retS, retE, a_setG, a_seqS, a_ifS, retN, a_nxS, a_ite, a_itemsM, itemsOf, SV.dat, SV.asI, SV.asQ, a_enuM, enumM, oAdd, oSub, int1, oLt, oLe, oGt, oGe, List.getElem?_cons_zero, List.getElem?_cons_succ, List.set_cons_zero, List.set_cons_succ, oEq_int, c_NEVER_eq, h1, h2]
  | n + 1, j + 1, k + 1, h, hl => by
    have i1 := at_least ns n j (k + 1) (by omega) (by omega)
    have i2 := at_least ns n j k (by omega) (by omega)
    generalize hP : (PyData.tuple (ns.map fun x => enc (.atom x))) = P at i1 i2 ⊢
    have h1 : ((((k : Nat) : Int) + 1) == 0) = false := by simp; omega
    by_cases hk : k > j
    · have e : atL ns (j + 1) (k + 1) = .grp false [] := by rw [atL, if_pos (by omega)]
      have h2 : j < k := hk
      rw [e]
      simp [F_at_least, fnOf, outs, rg1, rg2, rg3, rg4, rg5, isIm, f_at_least, a_bind, a_ret, a_fVar, a_fC, a_op2, a_opN, a_op1, FN.view, views, frz, a_frM, a_consM, a_tupM, a_lstM, mkT, mkL, a_boolE, evB, a_truE, truM, truSV, a_notM, a_notV, a_andM, a_orM, a_andV, a_orV, a_ifM, a_loM, evI, a_slM, a_setS, store, a_retS, retE, a_setG, a_seqS, a_ifS, retN, a_nxS, a_ite, a_itemsM, itemsOf, SV.dat, SV.asI, SV.asQ, a_enuM, enumM, oAdd, oSub, int1, oLt, oLe, oGt, oGe, List.getElem?_cons_zero, List.getElem?_cons_succ, List.set_cons_zero, List.set_cons_succ, oEq_int, c_NEVER_eq, h1, h2]
    · have e : atL ns (j + 1) (k + 1) = .grp false [atL ns j (k + 1), .grp true [.atom (ns.getD j ""), atL ns j k]] := by rw [atL, if_neg (by omega)]
      have h2 : ¬ j < k := hk
      have hj : (((j : Nat) : Int) + 1 - 1) = j := by omega
      have hk1 : (((k : Nat) : Int) + 1 - 1) = k := by omega
      have ix : oIx (.im P) (.im (.int (j : Nat))) = some (.im (enc (.atom (ns.getD j "")))) := by
        subst hP
        rw [oIx_tup, atI_nat, List.getElem?_map, List.getElem?_eq_getElem (by omega)]
        rw [List.getD_eq_getElem?_getD, List.getElem?_eq_getElem (by omega)]
        rfl
      have ek : (((k + 1 : Nat) : Int)) = (k : Int) + 1 := by omega
      rw [ek] at i1
      have c2 : callM (F_at_least n) [] (consM (fVar 0) (consM (op2 (fVar 1) (fC (.int 1)) oSub) (consM (op2 (fVar 2) (fC (.int 1)) oSub) (retM [])))) [.im P, .im (.int ((j : Int) + 1)), .im (.int ((k : Int) + 1)), .no] = some (.im (enc (atL ns j k)), [.im P, .im (.int ((j : Int) + 1)), .im (.int ((k : Int) + 1)), .no]) :=
        callM_at (a := P) (b := .int j) (c := .int k) (by simp [a_bind, a_ret, a_fVar, a_fC, a_op2, a_opN, a_op1, FN.view, views, frz, a_frM, a_consM, a_tupM, a_lstM, mkT, mkL, a_boolE, evB, a_truE, truM, truSV, a_notM, a_notV, a_andM, a_orM, a_andV, a_orV, a_ifM, a_loM, evI, a_slM, a_setS, store, a_retS, retE, a_setG, a_seqS, a_ifS, retN, a_nxS, a_ite, a_itemsM, itemsOf, SV.dat, SV.asI, SV.asQ, a_enuM, enumM, oAdd, oSub, int1, oLt, oLe, oGt, oGe, List.getElem?_cons_zero, List.getElem?_cons_succ, List.set_cons_zero, List.set_cons_succ]) (by simp [a_bind, a_ret, a_fVar, a_fC, a_op2, a_opN, a_op1, FN.view, views, frz, a_frM, a_consM, a_tupM, a_lstM, mkT, mkL, a_boolE, evB, a_truE, truM, truSV, a_notM, a_notV, a_andM, a_orM, a_andV, a_orV, a_ifM, a_loM, evI, a_slM, a_setS, store, a_retS, retE, a_setG, a_seqS, a_ifS, retN, a_nxS, a_ite, a_itemsM, itemsOf, SV.dat, SV.asI, SV.asQ, a_enuM, enumM, oAdd, oSub, int1, oLt, oLe, oGt, oGe, List.getElem?_cons_zero, List.getElem?_cons_succ, List.set_cons_zero, List.set_cons_succ]) (by simp [a_bind, a_ret, a_fVar, a_fC, a_op2, a_opN, a_op1, FN.view, views, frz, a_frM, a_consM, a_tupM, a_lstM, mkT, mkL, a_boolE, evB, a_truE, truM, truSV, a_notM, a_notV, a_andM, a_orM, a_andV, a_orV, a_ifM, a_loM, evI, a_slM, a_setS, store, a_retS, retE, a_setG, a_seqS, a_ifS, retN, a_nxS, a_ite, a_itemsM, itemsOf, SV.dat, SV.asI, SV.asQ, a_enuM, enumM, oAdd, oSub, int1, oLt, oLe, oGt, oGe, List.getElem?_cons_zero, List.getElem?_cons_succ, List.set_cons_zero, List.set_cons_succ]) i2 im_ne
      have c1 : ∀ v, callM (F_at_least n) [] (consM (fVar 0) (consM (op2 (fVar 1) (fC (.int 1)) oSub) (consM (fVar 2) (retM [])))) [.im P, .im (.int ((j : Int) + 1)), .im (.int ((k : Int) + 1)), v] = some (.im (enc (atL ns j (k + 1))), [.im P, .im (.int ((j : Int) + 1)), .im (.int ((k : Int) + 1)), v]) := fun v =>
        callM_at (a := P) (b := .int j) (c := .int ((k : Int) + 1)) (by simp [a_bind, a_ret, a_fVar, a_fC, a_op2, a_opN, a_op1, FN.view, views, frz, a_frM, a_consM, a_tupM, a_lstM, mkT, mkL, a_boolE, evB, a_truE, truM, truSV, a_notM, a_notV, a_andM, a_orM, a_andV, a_orV, a_ifM, a_loM, evI, a_slM, a_setS, store, a_retS, retE, a_setG, a_seqS, a_ifS, retN, a_nxS, a_ite, a_itemsM, itemsOf, SV.dat, SV.asI, SV.asQ, a_enuM, enumM, oAdd, oSub, int1, oLt, oLe, oGt, oGe, List.getElem?_cons_zero, List.getElem?_cons_succ, List.set_cons_zero, List.set_cons_succ]) (by simp [a_bind, a_ret, a_fVar, a_fC, a_op2, a_opN, a_op1, FN.view, views, frz, a_frM, a_consM, a_tupM, a_lstM, mkT, mkL, a_boolE, evB, a_truE, truM, truSV, a_notM, a_notV, a_andM, a_orM, a_andV, a_orV, a_ifM, a_loM, evI, a_slM, a_setS, store, a_retS, retE, a_setG, a_seqS, a_ifS, retN, a_nxS, a_ite, a_itemsM, itemsOf, SV.dat, SV.asI, SV.asQ, a_enuM, enumM, oAdd, oSub, int1, oLt, oLe, oGt, oGe, List.getElem?_cons_zero, List.getElem?_cons_succ, List.set_cons_zero, List.set_cons_succ]) (by simp [a_bind, a_ret, a_fVar, a_fC, a_op2, a_opN, a_op1, FN.view, views, frz, a_frM, a_consM, a_tupM, a_lstM, mkT, mkL, a_boolE, evB, a_truE, truM, truSV, a_notM, a_notV, a_andM, a_orM, a_andV, a_orV, a_ifM, a_loM, evI, a_slM, a_setS, store, a_retS, retE, a_setG, a_seqS, a_ifS, retN, a_nxS, a_ite, a_itemsM, itemsOf, SV.dat, SV.asI, SV.asQ, a_enuM, enumM, oAdd, oSub, int1, oLt, oLe, oGt, oGe, List.getElem?_cons_zero, List.getElem?_cons_succ, List.set_cons_zero, List.set_cons_succ]) i1 im_ne
      rw [e]
      simp [F_at_least, fnOf, outs, rg1, rg2, rg3, rg4, rg5, isIm, f_at_least, a_bind, a_ret, a_fVar, a_fC, a_op2, a_opN, a_op1, FN.view, views, frz, a_frM, a_consM, a_tupM, a_lstM, mkT, mkL, a_boolE, evB, a_truE, truM, truSV, a_notM, a_notV, a_andM, a_orM, a_andV, a_orV, a_ifM, a_loM, evI, a_slM, a_setS, store, a_retS, retE, a_setG, a_seqS, a_ifS, retN, a_nxS, a_ite, a_itemsM, itemsOf, SV.dat, SV.asI, SV.asQ, a_enuM, enumM, oAdd, oSub, int1, oLt, oLe, oGt, oGe, List.getElem?_cons_zero, List.getElem?_cons_succ, List.set_cons_zero, List.set_cons_succ, oEq_int, h1, h2, c1, c2, ix, sz 2, enc, encs, gname]
end K89

namespace K89
open PySem FN
open PySem.PyData (strOk)
theorem law_at_least (ns : List Str) : ∀ (n j k : Nat), j < n → j ≤ ns.length → F__law_at_least n [.im (wd ns), .im (.int j), .im (.int k)] = some (.im (enc (atL ns j k)), [.im (wd ns), .im (.int j), .im (.int k)])
  | n + 1, j, 0, h, _ => by
    have e : atL ns j 0 = .grp true [] := by cases j <;> rfl
    rw [e]
    simp [F__law_at_least, fnOf, outs, rg1, rg2, rg3, rg4, rg5, isIm, f__law_at_least, a_bind, a_ret, a_fVar, a_fC, a_op2, a_opN, a_op1, FN.view, views, frz, a_frM, a_consM, a_tupM, a_lstM, mkT, mkL, a_boolE, evB, a_truE, truM, truSV, a_notM, a_notV, a_andM, a_orM, a_andV, a_orV, a_ifM, a_loM, evI, a_slM, a_setS, store, a_retS, retE, a_setG, a_seqS, a_ifS, retN, a_nxS, a_ite, a_itemsM, itemsOf, SV.dat, SV.asI, SV.asQ, a_enuM, enumM, oAdd, oSub, int1, oLt, oLe, oGt, oGe, List.getElem?_cons_zero, List.getElem?_cons_succ, List.set_cons_zero, List.set_cons_succ, oEq_int, sz 0, sz 2, enc, encs, gname]
  | n + 1, 0, k + 1, h, _ => by
    have e : atL ns 0 (k + 1) = .grp false [] := rfl
    rw [e]
    have h1 : ((((k : Nat) : Int) + 1) == 0) = false := by simp; omega
    have h2 : (0 : Int) < ((k : Nat) : Int) + 1 := by omega
    simp [F__law_at_least, fnOf, outs, rg1, rg2, rg3, rg4, rg5, isIm, f__law_at_least, a_bind, a_ret, a_fVar, a_fC, a_op2, a_opN, a_op1, FN.view, views, frz, a_frM, a_consM, a_tupM, a_lstM, mkT, mkL, a_boolE, evB, a_truE, truM, truSV, a_notM, a_notV, a_andM, a_orM, a_andV, a_orV, a_ifM, a_loM, evI, a_slM, a_setS, store, a_retS, retE, a_setG, a_seqS, a_ifS, retN, a_nxS, a_ite, a_itemsM, itemsOf, SV.dat, SV.asI, SV.asQ, a_enuM, enumM, oAdd, oSub, int1, oLt, oLe, oGt, oGe, List.getElem?_cons_zero, List.getElem?_cons_succ, List.set_cons_zero, List.set_cons_succ, oEq_int, h1, h2, sz 0, sz 2, enc, encs, gname]
  | n + 1, j + 1, k + 1, h, hl => by
    have i1 := law_at_least ns n j (k + 1) (by omega) (by omega)
    have i2 := law_at_least ns n j k (by omega) (by omega)
    have h1 : ((((k : Nat) : Int) + 1) == 0) = false := by simp; omega
    have ix : oIx (.im (wd ns)) (.im (.int (j : Nat))) = some (.im (.str (ns.getD j ""))) := by
      rw [oIx_tup, atI_nat, List.getElem?_map, List.getElem?_eq_getElem (by omega)]
      rw [List.getD_eq_getElem?_getD, List.getElem?_eq_getElem (by omega)]
      rfl
    generalize hP : wd ns = P at i1 i2 ix ⊢
    by_cases hk : k > j
    · have e : atL ns (j + 1) (k + 1) = .grp false [] := by rw [atL, if_pos (by omega)]
      have h2 : j < k := hk
      rw [e]
      simp [F__law_at_least, fnOf, outs, rg1, rg2, rg3, rg4, rg5, isIm, f__law_at_least, a_bind, a_ret, a_fVar, a_fC, a_op2, a_opN, a_op1, FN.view, views, frz, a_frM, a_consM, a_tupM, a_lstM, mkT, mkL, a_boolE, evB, a_truE, truM, truSV, a_notM, a_notV, a_andM, a_orM, a_andV, a_orV, a_ifM, a_loM, evI, a_slM, a_setS, store, a_retS, retE, a_setG, a_seqS, a_ifS, retN, a_nxS, a_ite, a_itemsM, itemsOf, SV.dat, SV.asI, SV.asQ, a_enuM, enumM, oAdd, oSub, int1, oLt, oLe, oGt, oGe, List.getElem?_cons_zero, List.getElem?_cons_succ, List.set_cons_zero, List.set_cons_succ, oEq_int, h1, h2, sz 0, sz 2, enc, encs, gname]
    · have e : atL ns (j + 1) (k + 1) = .grp false [atL ns j (k + 1), .grp true [.atom (ns.getD j ""), atL ns j k]] := by rw [atL, if_neg (by omega)]
      have h2 : ¬ j < k := hk
      have ek : (((k + 1 : Nat) : Int)) = (k : Int) + 1 := by omega
      rw [ek] at i1
      have c2 : callM (F__law_at_least n) [] (consM (fVar 0) (consM (op2 (fVar 1) (fC (.int 1)) oSub) (consM (op2 (fVar 2) (fC (.int 1)) oSub) (retM [])))) [.im P, .im (.int ((j : Int) + 1)), .im (.int ((k : Int) + 1)), .no] = some (.im (enc (atL ns j k)), [.im P, .im (.int ((j : Int) + 1)), .im (.int ((k : Int) + 1)), .no]) :=
        callM_at (a := P) (b := .int j) (c := .int k) (by simp [a_bind, a_ret, a_fVar, a_fC, a_op2, a_opN, a_op1, FN.view, views, frz, a_frM, a_consM, a_tupM, a_lstM, mkT, mkL, a_boolE, evB, a_truE, truM, truSV, a_notM, a_notV, a_andM, a_orM, a_andV, a_orV, a_ifM, a_loM, evI, a_slM, a_setS, store, a_retS, retE, a_setG, a_seqS, a_ifS, retN, a_nxS, a_ite, a_itemsM, itemsOf, SV.dat, SV.asI, SV.asQ, a_enuM, enumM, oAdd, oSub, int1, oLt, oLe, oGt, oGe, List.getElem?_cons_zero, List.getElem?_cons_succ, List.set_cons_zero, List.set_cons_succ]) (by simp [a_bind, a_ret, a_fVar, a_fC, a_op2, a_opN, a_op1, FN.view, views, frz, a_frM, a_consM, a_tupM, a_lstM, mkT, mkL, a_boolE, evB, a_truE, truM, truSV, a_notM, a_notV, a_andM, a_orM, a_andV, a_orV, a_ifM, a_loM, evI, a_slM, a_setS, store, a_retS, retE, a_setG, a_seqS, a_ifS, retN, a_nxS, a_ite, a_itemsM, itemsOf, SV.dat, SV.asI, SV.asQ, a_enuM, enumM, oAdd, oSub, int1, oLt, oLe, oGt, oGe, List.getElem?_cons_zero, List.getElem?_cons_succ, List.set_cons_zero, List.set_cons_succ]) (by simp [a_bind, a_ret, a_fVar, a_fC, a_op2, a_opN, a_op1, FN.view, views, frz, a_frM, a_consM, a_tupM, a_lstM, mkT, mkL, a_boolE, evB, a_truE, truM, truSV, a_notM, a_notV, a_andM, a_orM, a_andV, a_orV, a_ifM, a_loM, evI, a_slM, a_setS, store, a_retS, retE, a_setG, a_seqS, a_ifS, retN, a_nxS, a_ite, a_itemsM, itemsOf, SV.dat, SV.asI, SV.asQ, a_enuM, enumM, oAdd, oSub, int1, oLt, oLe, oGt, oGe, List.getElem?_cons_zero, List.getElem?_cons_succ, List.set_cons_zero, List.set_cons_succ]) i2 im_ne
      have c1 : ∀ v, callM (F__law_at_least n) [] (consM (fVar 0) (consM (op2 (fVar 1) (fC (.int 1)) oSub) (consM (fVar 2) (retM [])))) [.im P, .im (.int ((j : Int) + 1)), .im (.int ((k : Int) + 1)), v] = some (.im (enc (atL ns j (k + 1))), [.im P, .im (.int ((j : Int) + 1)), .im (.int ((k : Int) + 1)), v]) := fun v =>
        callM_at (a := P) (b := .int j) (c := .int ((k : Int) + 1)) (by simp [a_bind, a_ret, a_fVar, a_fC, a_op2, a_opN, a_op1, FN.view, views, frz, a_frM, a_consM, a_tupM, a_lstM, mkT, mkL, a_boolE, evB, a_truE, truM, truSV, a_notM, a_notV, a_andM, a_orM, a_andV, a_orV, a_ifM, a_loM, evI, a_slM, a_setS, store, a_retS, retE, a_setG, a_seqS, a_ifS, retN, a_nxS, a_ite, a_itemsM, itemsOf, SV.dat, SV.asI, SV.asQ, a_enuM, enumM, oAdd, oSub, int1, oLt, oLe, oGt, oGe, List.getElem?_cons_zero, List.getElem?_cons_succ, List.set_cons_zero, List.set_cons_succ]) (by simp [a_bind, a_ret, a_fVar, a_fC, a_op2, a_opN, a_op1, FN.view, views, frz, a_frM, a_consM, a_tupM, a_lstM, mkT, mkL, a_boolE, evB, a_truE, truM, truSV, a_notM, a_notV, a_andM, a_orM, a_andV, a_orV, a_ifM, a_loM, evI, a_slM, a_setS, store, a_retS, retE, a_setG, a_seqS, a_ifS, retN, a_nxS, a_ite, a_itemsM, itemsOf, SV.dat, SV.asI, SV.asQ, a_enuM, enumM, oAdd, oSub, int1, oLt, oLe, oGt, oGe, List.getElem?_cons_zero, List.getElem?_cons_succ, List.set_cons_zero, List.set_cons_succ]) (by simp [a_bind, a_ret, a_fVar, a_fC, a_op2, a_opN, a_op1, FN.view, views, frz, a_frM, a_consM, a_tupM, a_lstM, mkT, mkL, a_boolE, evB, a_truE, truM, truSV, a_notM, a_notV, a_andM, a_orM, a_andV, a_orV, a_ifM, a_loM, evI, a_slM, a_setS, store, a_retS, retE, a_setG, a_seqS, a_ifS, retN, a_nxS, a_ite, a_itemsM, itemsOf, SV.dat, SV.asI, SV.asQ, a_enuM, enumM, oAdd, oSub, int1, oLt, oLe, oGt, oGe, List.getElem?_cons_zero, List.getElem?_cons_succ, List.set_cons_zero, List.set_cons_succ]) i1 im_ne
      rw [e]
      simp [F__law_at_least, fnOf, outs, rg1, rg2, rg3, rg4, rg5, isIm, f__law_at_least, a_bind, a_ret, a_fVar, a_fC, a_op2, a_opN, a_op1, FN.view, views, frz, a_frM, a_consM, a_tupM, a_lstM, mkT, mkL, a_boolE, evB, a_truE, truM, truSV, a_notM, a_notV, a_andM, a_orM, a_andV, a_orV, a_ifM, a_loM, evI, a_slM, a_setS, store, a_retS, retE, a_setG, a_seqS, a_ifS, retN, a_nxS, a_ite, a_itemsM, itemsOf, SV.dat, SV.asI, SV.asQ, a_enuM, enumM, oAdd, oSub, int1, oLt, oLe, oGt, oGe, List.getElem?_cons_zero, List.getElem?_cons_succ, List.set_cons_zero, List.set_cons_succ, oEq_int, h1, h2, c1, c2, ix, sz 2, enc, encs, gname]
/-! forms -/
abbrev lots (l : List (List Str)) : PyData := .tuple (l.map wd)
def Wss (l : List (List Str)) : Prop := ∀ w ∈ l, Nms w
theorem signature_of {w : List Str} : F_signature_of [.im (.tuple []), .im (wd w)] = some (.im (.tuple []), [.im (.tuple []), .im (wd w)]) := by
  have hi : itemsM (frM (fVar 0)) [.im (.tuple []), .im (wd w), .no] = some (([] : List Str).map PyData.str, [.im (.tuple []), .im (wd w), .no]) := rfl
  have lc := lcm_map (vs := [2]) (u := uName [0, 1] 2) (elt := f_signature_of_1) PyData.str PyData.str hi rfl (sz 0) (fun d hd => by cases hd)
  simp [F_signature_of, fnOf, outs, rg1, rg2, rg3, rg4, rg5, isIm, f_signature_of, a_bind, a_ret, a_fVar, a_fC, a_op2, a_opN, a_op1, FN.view, views, frz, a_frM, a_consM, a_tupM, a_lstM, mkT, mkL, a_boolE, evB, a_truE, truM, truSV, a_notM, a_notV, a_andM, a_orM, a_andV, a_orV, a_ifM, a_loM, evI, a_slM, a_setS, store, a_retS, retE, a_setG, a_seqS, a_ifS, retN, a_nxS, a_ite, a_itemsM, itemsOf, SV.dat, SV.asI, SV.asQ, a_enuM, enumM, oAdd, oSub, int1, oLt, oLe, oGt, oGe, List.getElem?_cons_zero, List.getElem?_cons_succ, List.set_cons_zero, List.set_cons_succ, lc, oTuple]
/-- those that no earlier one stands below -/
def leastGo (seen : List (List Str)) : List (List Str) → List (List Str)
  | [] => []
  | w :: ws => if seen.any (fun v => sub v w) = true then leastGo (seen ++ [w]) ws else w :: leastGo (seen ++ [w]) ws
def least (l : List (List Str)) : List (List Str) := leastGo [] l
theorem leastGo_snoc (w : List Str) : ∀ (l seen : List (List Str)), leastGo seen (l ++ [w]) = leastGo seen l ++ (if (seen ++ l).any (fun v => sub v w) = true then [] else [w])
  | [], seen => by
    simp only [List.nil_append, leastGo, List.append_nil]
  | x :: l, seen => by
    rw [List.cons_append, leastGo, leastGo, leastGo_snoc w l (seen ++ [x])]
    rw [List.append_assoc, List.singleton_append]
    first | done | (split <;> rfl)
theorem enc_term (w : List Str) : enc (.grp true (w.map Mb.atom)) = .tuple [.str "all", .tuple (w.map fun x => enc (.atom x))] := by
  simp only [enc, encs_map, gname, List.map_map]
  rfl
theorem world_term {w : List Str} (hw : Nms w) (hl : w.length ≤ 8) : F_world_term [.im (wd w), .im (.tuple [])] = some (.im (enc (.grp true (w.map Mb.atom))), [.im (wd w), .im (.tuple [])]) := by
  have hi : itemsM (frM (fVar 0)) [.im (wd w), .im (.tuple []), .no, .no, .no, .no] = some (w.map PyData.str, [.im (wd w), .im (.tuple []), .no, .no, .no, .no]) := rfl
  have l1 := lcm_map (vs := [4]) (u := uName [0, 1] 4) (elt := f_world_term_3) PyData.str (fun x => enc (.atom x)) hi rfl (sz _) fun x hx => by
    refine ⟨_, rfl, ?_, rfl⟩
    have c : callM F_make_atom [] (consM (fVar 4) (retM [])) [.im (wd w), .im (.tuple []), .no, .no, .im (.str x), .no] = some (.im (enc (.atom x)), [.im (wd w), .im (.tuple []), .no, .no, .im (.str x), .no]) := call_im [.str x] (by simp [a_bind, a_ret, a_fVar, a_fC, a_op2, a_opN, a_op1, FN.view, views, frz, a_frM, a_consM, a_tupM, a_lstM, mkT, mkL, a_boolE, evB, a_truE, truM, truSV, a_notM, a_notV, a_andM, a_orM, a_andV, a_orV, a_ifM, a_loM, evI, a_slM, a_setS, store, a_retS, retE, a_setG, a_seqS, a_ifS, retN, a_nxS, a_ite, a_itemsM, itemsOf, SV.dat, SV.asI, SV.asQ, a_enuM, enumM, oAdd, oSub, int1, oLt, oLe, oGt, oGe, List.getElem?_cons_zero, List.getElem?_cons_succ, List.set_cons_zero, List.set_cons_succ]) (make_atom (hw x hx)) im_ne
    simp [f_world_term_3, a_bind, a_ret, a_fVar, a_fC, a_op2, a_opN, a_op1, FN.view, views, frz, a_frM, a_consM, a_tupM, a_lstM, mkT, mkL, a_boolE, evB, a_truE, truM, truSV, a_notM, a_notV, a_andM, a_orM, a_andV, a_orV, a_ifM, a_loM, evI, a_slM, a_setS, store, a_retS, retE, a_setG, a_seqS, a_ifS, retN, a_nxS, a_ite, a_itemsM, itemsOf, SV.dat, SV.asI, SV.asQ, a_enuM, enumM, oAdd, oSub, int1, oLt, oLe, oGt, oGe, List.getElem?_cons_zero, List.getElem?_cons_succ, List.set_cons_zero, List.set_cons_succ, wipeE, c]
  have hi2 : itemsM (frM (fVar 1)) [.im (wd w), .im (.tuple []), .mu (w.map fun x => enc (.atom x)), .no, .no, .no] = some (([] : List Str).map PyData.str, [.im (wd w), .im (.tuple []), .mu (w.map fun x => enc (.atom x)), .no, .no, .no]) := rfl
  have l2 := lcg_map (vs := [5]) (u := uName [0, 1] 5) (test := f_world_term_1) (elt := f_world_term_2) PyData.str (fun _ => true) PyData.str hi2 rfl (sz 0) (fun d hd => by cases hd)
  rw [enc_term]
  simp [F_world_term, fnOf, outs, rg1, rg2, rg3, rg4, rg5, isIm, f_world_term, a_bind, a_ret, a_fVar, a_fC, a_op2, a_opN, a_op1, FN.view, views, frz, a_frM, a_consM, a_tupM, a_lstM, mkT, mkL, a_boolE, evB, a_truE, truM, truSV, a_notM, a_notV, a_andM, a_orM, a_andV, a_orV, a_ifM, a_loM, evI, a_slM, a_setS, store, a_retS, retE, a_setG, a_seqS, a_ifS, retN, a_nxS, a_ite, a_itemsM, itemsOf, SV.dat, SV.asI, SV.asQ, a_enuM, enumM, oAdd, oSub, int1, oLt, oLe, oGt, oGe, List.getElem?_cons_zero, List.getElem?_cons_succ, List.set_cons_zero, List.set_cons_succ, l1, l2, oTuple, SV.asL, sz 2, sz w.length]
theorem any_take {l : List (List Str)} {p : List Str → Bool} : ∀ {h : Nat} (hh : h ≤ l.length), ((List.range h).filter fun k => p (l.getD k [])) = [] ↔ (l.take h).any p = false := fun {h} hh => by
  rw [List.filter_eq_nil_iff, List.any_eq_false]
  constructor
  · intro z x hx
    obtain ⟨k, hk, rfl⟩ := List.mem_iff_getElem.mp hx
    have hk' : k < h := by rw [List.length_take] at hk; omega
    have := z k (List.mem_range.mpr hk')
    rw [List.getD_eq_getElem?_getD, List.getElem?_eq_getElem (by omega)] at this
    rw [List.getElem_take]
    exact this
  · intro z k hk
    have hk := List.mem_range.mp hk
    rw [List.getD_eq_getElem?_getD, List.getElem?_eq_getElem (by omega)]
    exact z _ (List.mem_iff_getElem.mpr ⟨k, by rw [List.length_take]; omega, by rw [List.getElem_take]; rfl⟩)
theorem least_take {l : List (List Str)} {h : Nat} (hh : h < l.length) : least (l.take (h + 1)) = least (l.take h) ++ (if (l.take h).any (fun v => sub v l[h]) = true then [] else [l[h]]) := by
  unfold least
  rw [List.take_succ, List.getElem?_eq_getElem hh]
  exact leastGo_snoc l[h] (l.take h) []
theorem least_len : ∀ (l s : List (List Str)), (leastGo s l).length ≤ l.length
  | [], s => Nat.le_refl _
  | w :: l, s => by
    rw [leastGo]
    have := least_len l (s ++ [w])
    split
    · rw [List.length_cons]; omega
    · rw [List.length_cons, List.length_cons]; omega
end K89

namespace K89
open PySem FN
open PySem.PyData (strOk)
theorem least_body {l : List (List Str)} (hl : Wss l) (hn : l.length ≤ 300) {h : Nat} (hh : h < l.length) {w : SV} : f_least_of_3 [.im (lots l), .im (.tuple []), .mu (l.map fun _ => .tuple []), .mu ((least (l.take h)).map wd), .im (.int (h : Int)), w, .no, .no] =
    some (.nx, [.im (lots l), .im (.tuple []), .mu (l.map fun _ => .tuple []), .mu ((least (l.take (h + 1))).map wd), .im (.int (h : Int)), .mu (((List.range h).filter fun k => sub (l.getD k []) l[h]).map iD), .no, .no]) := by
  have hi : rng1 (fVar 4) [.im (lots l), .im (.tuple []), .mu (l.map fun _ => .tuple []), .mu ((least (l.take h)).map wd), .im (.int (h : Int)), w, .no, .no] = some ((List.range h).map iD, [.im (lots l), .im (.tuple []), .mu (l.map fun _ => .tuple []), .mu ((least (l.take h)).map wd), .im (.int (h : Int)), w, .no, .no]) := by
    exact rng1_eq (by simp [a_bind, a_ret, a_fVar, a_fC, a_op2, a_opN, a_op1, FN.view, views, frz, a_frM, a_consM, a_tupM, a_lstM, mkT, mkL, a_boolE, evB, a_truE, truM, truSV, a_notM, a_notV, a_andM, a_orM, a_andV, a_orV, a_ifM, a_loM, evI, a_slM, a_setS, store, a_retS, retE, a_setG, a_seqS, a_ifS, retN, a_nxS, a_ite, a_itemsM, itemsOf, SV.dat, SV.asI, SV.asQ, a_enuM, enumM, oAdd, oSub, int1, oLt, oLe, oGt, oGe, List.getElem?_cons_zero, List.getElem?_cons_succ, List.set_cons_zero, List.set_cons_succ]) (by omega)
  have lc := lcg_map (vs := [7]) (u := uName [0, 1] 7) (test := f_least_of_1) (elt := f_least_of_2) iD (fun k => sub (l.getD k []) l[h]) iD hi rfl (sz _ (by rw [List.length_range]; omega)) fun k hk => by
    have hk := List.mem_range.mp hk
    have hkl : k < l.length := by omega
    have eg : l.getD k [] = l[k] := by rw [List.getD_eq_getElem?_getD, List.getElem?_eq_getElem hkl]; rfl
    have i1 := ixM (f := fun _ => PyData.tuple []) hkl
    have i2 := ixM (f := fun _ => PyData.tuple []) hh
    have i3 := ixT (f := wd) hkl
    have i4 := ixT (f := wd) hh
    have c : callM F_is_below [] (consM (op2 (fVar 0) (fVar 7) oIx) (consM (op2 (fVar 0) (fVar 4) oIx) (retM []))) [.im (lots l), .im (.tuple []), .mu (l.map fun _ => .tuple []), .mu ((least (l.take h)).map wd), .im (.int h), w, .no, .im (.int k)] = some (.im (.bool (sub l[k] l[h])), [.im (lots l), .im (.tuple []), .mu (l.map fun _ => .tuple []), .mu ((least (l.take h)).map wd), .im (.int h), w, .no, .im (.int k)]) :=
      call_im [wd l[k], wd l[h]] (by simp [a_bind, a_ret, a_fVar, a_fC, a_op2, a_opN, a_op1, FN.view, views, frz, a_frM, a_consM, a_tupM, a_lstM, mkT, mkL, a_boolE, evB, a_truE, truM, truSV, a_notM, a_notV, a_andM, a_orM, a_andV, a_orV, a_ifM, a_loM, evI, a_slM, a_setS, store, a_retS, retE, a_setG, a_seqS, a_ifS, retN, a_nxS, a_ite, a_itemsM, itemsOf, SV.dat, SV.asI, SV.asQ, a_enuM, enumM, oAdd, oSub, int1, oLt, oLe, oGt, oGe, List.getElem?_cons_zero, List.getElem?_cons_succ, List.set_cons_zero, List.set_cons_succ, i3, i4]) (is_below (hl _ (List.getElem_mem hkl)).ws (hl _ (List.getElem_mem hh)).ws) im_ne
    refine ⟨_, rfl, ?_, fun _ => ?_, rfl⟩
    · simp only [eg]
      simp [f_least_of_1, a_bind, a_ret, a_fVar, a_fC, a_op2, a_opN, a_op1, FN.view, views, frz, a_frM, a_consM, a_tupM, a_lstM, mkT, mkL, a_boolE, evB, a_truE, truM, truSV, a_notM, a_notV, a_andM, a_orM, a_andV, a_orV, a_ifM, a_loM, evI, a_slM, a_setS, store, a_retS, retE, a_setG, a_seqS, a_ifS, retN, a_nxS, a_ite, a_itemsM, itemsOf, SV.dat, SV.asI, SV.asQ, a_enuM, enumM, oAdd, oSub, int1, oLt, oLe, oGt, oGe, List.getElem?_cons_zero, List.getElem?_cons_succ, List.set_cons_zero, List.set_cons_succ, wipeE, i1, i2, oEq_nil, c]
    · simp [f_least_of_2, a_bind, a_ret, a_fVar, a_fC, a_op2, a_opN, a_op1, FN.view, views, frz, a_frM, a_consM, a_tupM, a_lstM, mkT, mkL, a_boolE, evB, a_truE, truM, truSV, a_notM, a_notV, a_andM, a_orM, a_andV, a_orV, a_ifM, a_loM, evI, a_slM, a_setS, store, a_retS, retE, a_setG, a_seqS, a_ifS, retN, a_nxS, a_ite, a_itemsM, itemsOf, SV.dat, SV.asI, SV.asQ, a_enuM, enumM, oAdd, oSub, int1, oLt, oLe, oGt, oGe, List.getElem?_cons_zero, List.getElem?_cons_succ, List.set_cons_zero, List.set_cons_succ, wipeE]
  have hb := least_len (l.take h) []
  have hb2 : (least (l.take h)).length < sizeLine := by
    have : (least (l.take h)).length ≤ (l.take h).length := hb
    rw [List.length_take] at this
    exact szl _ (by omega)
  have i4 := ixT (f := wd) hh
  rw [least_take hh]
  have at' := any_take (p := fun v => sub v l[h]) (Nat.le_of_lt hh)
  by_cases q : (l.take h).any (fun v => sub v l[h]) = true
  · have hne : ((List.range h).filter fun k => sub (l.getD k []) l[h]) ≠ [] := fun z => by
      have := at'.mp z
      rw [q] at this; cases this
    rw [if_pos q]
    generalize ((List.range h).filter fun k => sub (l.getD k []) l[h]) = L at lc hne ⊢
    have hL : ((((L.map iD).length : Nat) : Int) == 0) = false := by
      cases L with
      | nil => exact absurd rfl hne
      | cons a L => simp; omega
    rw [List.length_map] at hL
    simp [f_least_of_3, a_bind, a_ret, a_fVar, a_fC, a_op2, a_opN, a_op1, FN.view, views, frz, a_frM, a_consM, a_tupM, a_lstM, mkT, mkL, a_boolE, evB, a_truE, truM, truSV, a_notM, a_notV, a_andM, a_orM, a_andV, a_orV, a_ifM, a_loM, evI, a_slM, a_setS, store, a_retS, retE, a_setG, a_seqS, a_ifS, retN, a_nxS, a_ite, a_itemsM, itemsOf, SV.dat, SV.asI, SV.asQ, a_enuM, enumM, oAdd, oSub, int1, oLt, oLe, oGt, oGe, List.getElem?_cons_zero, List.getElem?_cons_succ, List.set_cons_zero, List.set_cons_succ, lc, oLen, oEq_int, hL]
  · have hne : ((List.range h).filter fun k => sub (l.getD k []) l[h]) = [] := at'.mpr (by simpa using q)
    rw [if_neg q]
    rw [hne] at lc ⊢
    simp [f_least_of_3, a_bind, a_ret, a_fVar, a_fC, a_op2, a_opN, a_op1, FN.view, views, frz, a_frM, a_consM, a_tupM, a_lstM, mkT, mkL, a_boolE, evB, a_truE, truM, truSV, a_notM, a_notV, a_andM, a_orM, a_andV, a_orV, a_ifM, a_loM, evI, a_slM, a_setS, store, a_retS, retE, a_setG, a_seqS, a_ifS, retN, a_nxS, a_ite, a_itemsM, itemsOf, SV.dat, SV.asI, SV.asQ, a_enuM, enumM, oAdd, oSub, int1, oLt, oLe, oGt, oGe, List.getElem?_cons_zero, List.getElem?_cons_succ, List.set_cons_zero, List.set_cons_succ, lc, oLen, oEq_int, i4, a_appS, hb2]
theorem least_of {l : List (List Str)} (hl : Wss l) (hn : l.length ≤ 300) : F_least_of [.im (lots l), .im (.tuple [])] = some (.im (lots (least l)), [.im (lots l), .im (.tuple [])]) := by
  have hi : itemsM (frM (fVar 0)) [.im (lots l), .im (.tuple []), .no, .no, .no, .no, .no, .no] = some (l.map wd, [.im (lots l), .im (.tuple []), .no, .no, .no, .no, .no, .no]) := rfl
  have l1 := lcm_map (vs := [6]) (u := uName [0, 1] 6) (elt := f_least_of_4) wd (fun _ => .tuple []) hi rfl (sz _) fun w hw => by
    refine ⟨_, rfl, ?_, rfl⟩
    have c : callM F_signature_of [] (consM (fVar 1) (consM (fVar 6) (retM []))) [.im (lots l), .im (.tuple []), .no, .no, .no, .no, .im (wd w), .no] = some (.im (.tuple []), [.im (lots l), .im (.tuple []), .no, .no, .no, .no, .im (wd w), .no]) := call_im [.tuple [], wd w] (by simp [a_bind, a_ret, a_fVar, a_fC, a_op2, a_opN, a_op1, FN.view, views, frz, a_frM, a_consM, a_tupM, a_lstM, mkT, mkL, a_boolE, evB, a_truE, truM, truSV, a_notM, a_notV, a_andM, a_orM, a_andV, a_orV, a_ifM, a_loM, evI, a_slM, a_setS, store, a_retS, retE, a_setG, a_seqS, a_ifS, retN, a_nxS, a_ite, a_itemsM, itemsOf, SV.dat, SV.asI, SV.asQ, a_enuM, enumM, oAdd, oSub, int1, oLt, oLe, oGt, oGe, List.getElem?_cons_zero, List.getElem?_cons_succ, List.set_cons_zero, List.set_cons_succ]) signature_of im_ne
    simp [f_least_of_4, a_bind, a_ret, a_fVar, a_fC, a_op2, a_opN, a_op1, FN.view, views, frz, a_frM, a_consM, a_tupM, a_lstM, mkT, mkL, a_boolE, evB, a_truE, truM, truSV, a_notM, a_notV, a_andM, a_orM, a_andV, a_orV, a_ifM, a_loM, evI, a_slM, a_setS, store, a_retS, retE, a_setG, a_seqS, a_ifS, retN, a_nxS, a_ite, a_itemsM, itemsOf, SV.dat, SV.asI, SV.asQ, a_enuM, enumM, oAdd, oSub, int1, oLt, oLe, oGt, oGe, List.getElem?_cons_zero, List.getElem?_cons_succ, List.set_cons_zero, List.set_cons_succ, wipeE, c]
  have loop := loop_fold (u := uName [0, 1] 4) (body := f_least_of_3) iD (fun pre env => ∃ v w, env = [.im (lots l), .im (.tuple []), .mu (l.map fun _ => .tuple []), .mu ((least (l.take pre.length)).map wd), v, w, .no, .no]) (List.range l.length) [] [.im (lots l), .im (.tuple []), .mu (l.map fun _ => .tuple []), .mu [], .no, .no, .no, .no] (fun p d q env e i => by
    obtain ⟨v, w, rfl⟩ := i
    obtain ⟨rfl, hd⟩ := range_split e
    refine ⟨_, _, rfl, least_body hl hn hd, ?_⟩
    rw [List.length_append, List.length_singleton]
    exact ⟨_, _, rfl⟩) ⟨_, _, rfl⟩
  obtain ⟨env2, h1, v, w, rfl⟩ := loop
  have hr : rng1 (opN (consM (fVar 0) (retM [])) oLen) [.im (lots l), .im (.tuple []), .mu (l.map fun _ => .tuple []), .mu [], .no, .no, .no, .no] = some ((List.range l.length).map iD, [.im (lots l), .im (.tuple []), .mu (l.map fun _ => .tuple []), .mu [], .no, .no, .no, .no]) := by
    exact rng1_eq (by simp [a_bind, a_ret, a_fVar, a_fC, a_op2, a_opN, a_op1, FN.view, views, frz, a_frM, a_consM, a_tupM, a_lstM, mkT, mkL, a_boolE, evB, a_truE, truM, truSV, a_notM, a_notV, a_andM, a_orM, a_andV, a_orV, a_ifM, a_loM, evI, a_slM, a_setS, store, a_retS, retE, a_setG, a_seqS, a_ifS, retN, a_nxS, a_ite, a_itemsM, itemsOf, SV.dat, SV.asI, SV.asQ, a_enuM, enumM, oAdd, oSub, int1, oLt, oLe, oGt, oGe, List.getElem?_cons_zero, List.getElem?_cons_succ, List.set_cons_zero, List.set_cons_succ, oLen]) (by omega)
  simp only [List.nil_append, List.length_range, List.take_length] at h1
  generalize (l.map fun _ => PyData.tuple []) = sg at l1 hr h1
  simp [F_least_of, fnOf, outs, rg1, rg2, rg3, rg4, rg5, isIm, f_least_of, a_bind, a_ret, a_fVar, a_fC, a_op2, a_opN, a_op1, FN.view, views, frz, a_frM, a_consM, a_tupM, a_lstM, mkT, mkL, a_boolE, evB, a_truE, truM, truSV, a_notM, a_notV, a_andM, a_orM, a_andV, a_orV, a_ifM, a_loM, evI, a_slM, a_setS, store, a_retS, retE, a_setG, a_seqS, a_ifS, retN, a_nxS, a_ite, a_itemsM, itemsOf, SV.dat, SV.asI, SV.asQ, a_enuM, enumM, oAdd, oSub, int1, oLt, oLe, oGt, oGe, List.getElem?_cons_zero, List.getElem?_cons_succ, List.set_cons_zero, List.set_cons_succ, l1, forS_eq hr, h1, oTuple, sz 0]
end K89

namespace K89
open PySem FN
open PySem.PyData (strOk)
def form (l : List (List Str)) : Mb := .grp false ((least l).map fun w => .grp true (w.map Mb.atom))
def Sm (l : List (List Str)) : Prop := ∀ w ∈ l, w.length ≤ 8
theorem leastGo_sub : ∀ (l s : List (List Str)) (w : List Str), w ∈ leastGo s l → w ∈ l
  | x :: l, s, w, h => by
    rw [leastGo] at h
    split at h
    · exact List.mem_cons_of_mem _ (leastGo_sub l _ w h)
    · rcases List.mem_cons.mp h with rfl | h
      · exact List.mem_cons_self
      · exact List.mem_cons_of_mem _ (leastGo_sub l _ w h)
theorem least_sub {l : List (List Str)} {w : List Str} (h : w ∈ least l) : w ∈ l := leastGo_sub l [] w h
theorem least_le (l : List (List Str)) : (least l).length ≤ l.length := least_len l []
theorem enc_form (l : List (List Str)) : enc (form l) = .tuple [.str "some", .tuple ((least l).map fun w => enc (.grp true (w.map Mb.atom)))] := by
  rw [form, enc, encs_map, List.map_map]
  rfl
theorem form_of {l : List (List Str)} (hl : Wss l) (hs : Sm l) (hn : l.length ≤ 300) : F_form_of [.im (lots l), .im (.tuple [])] = some (.im (enc (form l)), [.im (lots l), .im (.tuple [])]) := by
  have c : callM F_least_of [] (consM (fVar 0) (consM (fVar 1) (retM []))) [.im (lots l), .im (.tuple []), .no] = some (.im (lots (least l)), [.im (lots l), .im (.tuple []), .no]) := call_im [lots l, .tuple []] (by simp [a_bind, a_ret, a_fVar, a_fC, a_op2, a_opN, a_op1, FN.view, views, frz, a_frM, a_consM, a_tupM, a_lstM, mkT, mkL, a_boolE, evB, a_truE, truM, truSV, a_notM, a_notV, a_andM, a_orM, a_andV, a_orV, a_ifM, a_loM, evI, a_slM, a_setS, store, a_retS, retE, a_setG, a_seqS, a_ifS, retN, a_nxS, a_ite, a_itemsM, itemsOf, SV.dat, SV.asI, SV.asQ, a_enuM, enumM, oAdd, oSub, int1, oLt, oLe, oGt, oGe, List.getElem?_cons_zero, List.getElem?_cons_succ, List.set_cons_zero, List.set_cons_succ]) (least_of hl hn) im_ne
  have hi : itemsM (frM (callM F_least_of [] (consM (fVar 0) (consM (fVar 1) (retM []))))) [.im (lots l), .im (.tuple []), .no] = some ((least l).map wd, [.im (lots l), .im (.tuple []), .no]) := by simp [a_bind, a_ret, a_fVar, a_fC, a_op2, a_opN, a_op1, FN.view, views, frz, a_frM, a_consM, a_tupM, a_lstM, mkT, mkL, a_boolE, evB, a_truE, truM, truSV, a_notM, a_notV, a_andM, a_orM, a_andV, a_orV, a_ifM, a_loM, evI, a_slM, a_setS, store, a_retS, retE, a_setG, a_seqS, a_ifS, retN, a_nxS, a_ite, a_itemsM, itemsOf, SV.dat, SV.asI, SV.asQ, a_enuM, enumM, oAdd, oSub, int1, oLt, oLe, oGt, oGe, List.getElem?_cons_zero, List.getElem?_cons_succ, List.set_cons_zero, List.set_cons_succ, c]
  have hle := least_le l
  have lc := lcm_map (vs := [2]) (u := uName [0, 1] 2) (elt := f_form_of_1) wd (fun w => enc (.grp true (w.map Mb.atom))) hi rfl (sz _) fun w hw => by
    refine ⟨_, rfl, ?_, rfl⟩
    have hw := least_sub hw
    have c : callM F_world_term [] (consM (fVar 2) (consM (fVar 1) (retM []))) [.im (lots l), .im (.tuple []), .im (wd w)] = some (.im (enc (.grp true (w.map Mb.atom))), [.im (lots l), .im (.tuple []), .im (wd w)]) := call_im [wd w, .tuple []] (by simp [a_bind, a_ret, a_fVar, a_fC, a_op2, a_opN, a_op1, FN.view, views, frz, a_frM, a_consM, a_tupM, a_lstM, mkT, mkL, a_boolE, evB, a_truE, truM, truSV, a_notM, a_notV, a_andM, a_orM, a_andV, a_orV, a_ifM, a_loM, evI, a_slM, a_setS, store, a_retS, retE, a_setG, a_seqS, a_ifS, retN, a_nxS, a_ite, a_itemsM, itemsOf, SV.dat, SV.asI, SV.asQ, a_enuM, enumM, oAdd, oSub, int1, oLt, oLe, oGt, oGe, List.getElem?_cons_zero, List.getElem?_cons_succ, List.set_cons_zero, List.set_cons_succ]) (world_term (hl w hw) (hs w hw)) im_ne
    simp [f_form_of_1, a_bind, a_ret, a_fVar, a_fC, a_op2, a_opN, a_op1, FN.view, views, frz, a_frM, a_consM, a_tupM, a_lstM, mkT, mkL, a_boolE, evB, a_truE, truM, truSV, a_notM, a_notV, a_andM, a_orM, a_andV, a_orV, a_ifM, a_loM, evI, a_slM, a_setS, store, a_retS, retE, a_setG, a_seqS, a_ifS, retN, a_nxS, a_ite, a_itemsM, itemsOf, SV.dat, SV.asI, SV.asQ, a_enuM, enumM, oAdd, oSub, int1, oLt, oLe, oGt, oGe, List.getElem?_cons_zero, List.getElem?_cons_succ, List.set_cons_zero, List.set_cons_succ, wipeE, c]
  rw [enc_form]
  simp [F_form_of, fnOf, outs, rg1, rg2, rg3, rg4, rg5, isIm, f_form_of, a_bind, a_ret, a_fVar, a_fC, a_op2, a_opN, a_op1, FN.view, views, frz, a_frM, a_consM, a_tupM, a_lstM, mkT, mkL, a_boolE, evB, a_truE, truM, truSV, a_notM, a_notV, a_andM, a_orM, a_andV, a_orV, a_ifM, a_loM, evI, a_slM, a_setS, store, a_retS, retE, a_setG, a_seqS, a_ifS, retN, a_nxS, a_ite, a_itemsM, itemsOf, SV.dat, SV.asI, SV.asQ, a_enuM, enumM, oAdd, oSub, int1, oLt, oLe, oGt, oGe, List.getElem?_cons_zero, List.getElem?_cons_succ, List.set_cons_zero, List.set_cons_succ, lc, oTuple, sz 2]
/-! slices -/
def lotOf (m : Mb) (ws : List Str) (k : Nat) : List (List Str) := (worlds ws).filter fun w => if w.length = k then on m w else decide (k < w.length)
theorem slice_is_on {m : Mb} {w : List Str} {k : Nat} (hd : dep m ≤ 40) (hm : Mok m) (hw : Ws w) (hl : w.length ≤ 8) : F_slice_is_on [.im (enc m), .im (wd w), .im (iD k)] = some (.im (.bool (if w.length = k then on m w else decide (k < w.length))), [.im (enc m), .im (wd w), .im (iD k)]) := by
  have c : callM (F_is_on fuel) [] (consM (fVar 0) (consM (fVar 1) (retM []))) [.im (enc m), .im (wd w), .im (iD k)] = some (.im (.bool (on m w)), [.im (enc m), .im (wd w), .im (iD k)]) := call_im [enc m, wd w] (by simp [a_bind, a_ret, a_fVar, a_fC, a_op2, a_opN, a_op1, FN.view, views, frz, a_frM, a_consM, a_tupM, a_lstM, mkT, mkL, a_boolE, evB, a_truE, truM, truSV, a_notM, a_notV, a_andM, a_orM, a_andV, a_orV, a_ifM, a_loM, evI, a_slM, a_setS, store, a_retS, retE, a_setG, a_seqS, a_ifS, retN, a_nxS, a_ite, a_itemsM, itemsOf, SV.dat, SV.asI, SV.asQ, a_enuM, enumM, oAdd, oSub, int1, oLt, oLe, oGt, oGe, List.getElem?_cons_zero, List.getElem?_cons_succ, List.set_cons_zero, List.set_cons_succ]) (is_on fuel m w hd hm hw) im_ne
  by_cases h : w.length = k
  · subst h
    simp [F_slice_is_on, fnOf, outs, rg1, rg2, rg3, rg4, rg5, isIm, f_slice_is_on, a_bind, a_ret, a_fVar, a_fC, a_op2, a_opN, a_op1, FN.view, views, frz, a_frM, a_consM, a_tupM, a_lstM, mkT, mkL, a_boolE, evB, a_truE, truM, truSV, a_notM, a_notV, a_andM, a_orM, a_andV, a_orV, a_ifM, a_loM, evI, a_slM, a_setS, store, a_retS, retE, a_setG, a_seqS, a_ifS, retN, a_nxS, a_ite, a_itemsM, itemsOf, SV.dat, SV.asI, SV.asQ, a_enuM, enumM, oAdd, oSub, int1, oLt, oLe, oGt, oGe, List.getElem?_cons_zero, List.getElem?_cons_succ, List.set_cons_zero, List.set_cons_succ, c, oLen, oEq_nat]
  · have h' : ¬ ((w.length : Int) = (k : Int)) := by omega
    simp [F_slice_is_on, fnOf, outs, rg1, rg2, rg3, rg4, rg5, isIm, f_slice_is_on, a_bind, a_ret, a_fVar, a_fC, a_op2, a_opN, a_op1, FN.view, views, frz, a_frM, a_consM, a_tupM, a_lstM, mkT, mkL, a_boolE, evB, a_truE, truM, truSV, a_notM, a_notV, a_andM, a_orM, a_andV, a_orV, a_ifM, a_loM, evI, a_slM, a_setS, store, a_retS, retE, a_setG, a_seqS, a_ifS, retN, a_nxS, a_ite, a_itemsM, itemsOf, SV.dat, SV.asI, SV.asQ, a_enuM, enumM, oAdd, oSub, int1, oLt, oLe, oGt, oGe, List.getElem?_cons_zero, List.getElem?_cons_succ, List.set_cons_zero, List.set_cons_succ, c, oLen, oEq_nat, h]
theorem Nms_worlds {ws : List Str} (h : Nms ws) : Wss (worlds ws) := by
  have go : ∀ (l : List Str) (f : List (List Str)), Nms l → (∀ w ∈ f, Nms w) → ∀ w ∈ l.foldl grow f, Nms w := fun l => by
    induction l with
    | nil => intro f _ h; exact h
    | cons x l ih =>
      intro f hl hf
      refine ih _ (fun y hy => hl y (List.mem_cons_of_mem _ hy)) fun w hw => ?_
      unfold grow at hw
      rcases List.mem_append.mp hw with hw | hw
      · exact hf w hw
      · obtain ⟨v, hv, rfl⟩ := List.mem_map.mp hw
        intro y hy
        rcases List.mem_append.mp hy with hy | hy
        · exact hf v hv y hy
        · rw [List.mem_singleton.mp hy]; exact hl x List.mem_cons_self
  exact go ws [[]] h fun w hw => by rw [List.mem_singleton.mp hw]; intro y hy; cases hy
theorem worlds_le {ws : List Str} (h : ws.length ≤ 4) : (worlds ws).length ≤ 16 := by
  rw [worlds_length]
  exact Nat.le_trans (Nat.pow_le_pow_right (by omega) h) (by decide)
theorem slice_of {m : Mb} {ws : List Str} {k : Nat} (hd : dep m ≤ 40) (hm : Mok m) (hw : Nms ws) (hl : ws.length ≤ 4) : F_slice_of [.im (enc m), .im (wd ws), .im (iD k)] = some (.im (enc (form (lotOf m ws k))), [.im (enc m), .im (wd ws), .im (iD k)]) := by
  have c : callM F_all_worlds [] (consM (fVar 1) (retM [])) [.im (enc m), .im (wd ws), .im (iD k), .no] = some (.im (lots (worlds ws)), [.im (enc m), .im (wd ws), .im (iD k), .no]) := call_im [wd ws] (by simp [a_bind, a_ret, a_fVar, a_fC, a_op2, a_opN, a_op1, FN.view, views, frz, a_frM, a_consM, a_tupM, a_lstM, mkT, mkL, a_boolE, evB, a_truE, truM, truSV, a_notM, a_notV, a_andM, a_orM, a_andV, a_orV, a_ifM, a_loM, evI, a_slM, a_setS, store, a_retS, retE, a_setG, a_seqS, a_ifS, retN, a_nxS, a_ite, a_itemsM, itemsOf, SV.dat, SV.asI, SV.asQ, a_enuM, enumM, oAdd, oSub, int1, oLt, oLe, oGt, oGe, List.getElem?_cons_zero, List.getElem?_cons_succ, List.set_cons_zero, List.set_cons_succ]) (all_worlds (by omega)) im_ne
  have hi : itemsM (frM (callM F_all_worlds [] (consM (fVar 1) (retM [])))) [.im (enc m), .im (wd ws), .im (iD k), .no] = some ((worlds ws).map wd, [.im (enc m), .im (wd ws), .im (iD k), .no]) := by simp [a_bind, a_ret, a_fVar, a_fC, a_op2, a_opN, a_op1, FN.view, views, frz, a_frM, a_consM, a_tupM, a_lstM, mkT, mkL, a_boolE, evB, a_truE, truM, truSV, a_notM, a_notV, a_andM, a_orM, a_andV, a_orV, a_ifM, a_loM, evI, a_slM, a_setS, store, a_retS, retE, a_setG, a_seqS, a_ifS, retN, a_nxS, a_ite, a_itemsM, itemsOf, SV.dat, SV.asI, SV.asQ, a_enuM, enumM, oAdd, oSub, int1, oLt, oLe, oGt, oGe, List.getElem?_cons_zero, List.getElem?_cons_succ, List.set_cons_zero, List.set_cons_succ, c]
  have hle := worlds_le hl
  have sm : Sm (worlds ws) := fun w h => Nat.le_trans (worlds_short w h) (by omega)
  have lc := lcg_map (vs := [3]) (u := uName [0, 1, 2] 3) (test := f_slice_of_1) (elt := f_slice_of_2) wd (fun w => if w.length = k then on m w else decide (k < w.length)) wd hi rfl (sz _) fun w hx => by
    have c2 : callM F_slice_is_on [] (consM (fVar 0) (consM (fVar 3) (consM (fVar 2) (retM [])))) [.im (enc m), .im (wd ws), .im (iD k), .im (wd w)] = some (.im (.bool (if w.length = k then on m w else decide (k < w.length))), [.im (enc m), .im (wd ws), .im (iD k), .im (wd w)]) :=
      call_im [enc m, wd w, iD k] (by simp [a_bind, a_ret, a_fVar, a_fC, a_op2, a_opN, a_op1, FN.view, views, frz, a_frM, a_consM, a_tupM, a_lstM, mkT, mkL, a_boolE, evB, a_truE, truM, truSV, a_notM, a_notV, a_andM, a_orM, a_andV, a_orV, a_ifM, a_loM, evI, a_slM, a_setS, store, a_retS, retE, a_setG, a_seqS, a_ifS, retN, a_nxS, a_ite, a_itemsM, itemsOf, SV.dat, SV.asI, SV.asQ, a_enuM, enumM, oAdd, oSub, int1, oLt, oLe, oGt, oGe, List.getElem?_cons_zero, List.getElem?_cons_succ, List.set_cons_zero, List.set_cons_succ]) (slice_is_on hd hm (Nms_worlds hw w hx).ws (sm w hx)) im_ne
    refine ⟨_, rfl, ?_, fun _ => ?_, rfl⟩
    · simp [f_slice_of_1, a_bind, a_ret, a_fVar, a_fC, a_op2, a_opN, a_op1, FN.view, views, frz, a_frM, a_consM, a_tupM, a_lstM, mkT, mkL, a_boolE, evB, a_truE, truM, truSV, a_notM, a_notV, a_andM, a_orM, a_andV, a_orV, a_ifM, a_loM, evI, a_slM, a_setS, store, a_retS, retE, a_setG, a_seqS, a_ifS, retN, a_nxS, a_ite, a_itemsM, itemsOf, SV.dat, SV.asI, SV.asQ, a_enuM, enumM, oAdd, oSub, int1, oLt, oLe, oGt, oGe, List.getElem?_cons_zero, List.getElem?_cons_succ, List.set_cons_zero, List.set_cons_succ, wipeE, c2]
    · simp [f_slice_of_2, a_bind, a_ret, a_fVar, a_fC, a_op2, a_opN, a_op1, FN.view, views, frz, a_frM, a_consM, a_tupM, a_lstM, mkT, mkL, a_boolE, evB, a_truE, truM, truSV, a_notM, a_notV, a_andM, a_orM, a_andV, a_orV, a_ifM, a_loM, evI, a_slM, a_setS, store, a_retS, retE, a_setG, a_seqS, a_ifS, retN, a_nxS, a_ite, a_itemsM, itemsOf, SV.dat, SV.asI, SV.asQ, a_enuM, enumM, oAdd, oSub, int1, oLt, oLe, oGt, oGe, List.getElem?_cons_zero, List.getElem?_cons_succ, List.set_cons_zero, List.set_cons_succ, wipeE]
  have hlo : (lotOf m ws k).length ≤ 16 := Nat.le_trans (List.length_filter_le _ _) hle
  have c3 : callM F_form_of [.tuple []] (consM (opN (consM (lcM [3] (itemsM (frM (callM F_all_worlds [] (consM (fVar 1) (retM []))))) (uName [0, 1, 2] 3) f_slice_of_1 f_slice_of_2) (retM [])) oTuple) (retM [])) [.im (enc m), .im (wd ws), .im (iD k), .no] = some (.im (enc (form (lotOf m ws k))), [.im (enc m), .im (wd ws), .im (iD k), .no]) :=
    call_im [lots (lotOf m ws k)] (by simp [a_bind, a_ret, a_fVar, a_fC, a_op2, a_opN, a_op1, FN.view, views, frz, a_frM, a_consM, a_tupM, a_lstM, mkT, mkL, a_boolE, evB, a_truE, truM, truSV, a_notM, a_notV, a_andM, a_orM, a_andV, a_orV, a_ifM, a_loM, evI, a_slM, a_setS, store, a_retS, retE, a_setG, a_seqS, a_ifS, retN, a_nxS, a_ite, a_itemsM, itemsOf, SV.dat, SV.asI, SV.asQ, a_enuM, enumM, oAdd, oSub, int1, oLt, oLe, oGt, oGe, List.getElem?_cons_zero, List.getElem?_cons_succ, List.set_cons_zero, List.set_cons_succ, lc, oTuple, lotOf]) (form_of (fun w h => Nms_worlds hw w (List.mem_filter.mp h).1) (fun w h => sm w (List.mem_filter.mp h).1) (by omega)) im_ne
  simp [F_slice_of, fnOf, outs, rg1, rg2, rg3, rg4, rg5, isIm, f_slice_of, a_bind, a_ret, a_fVar, a_fC, a_op2, a_opN, a_op1, FN.view, views, frz, a_frM, a_consM, a_tupM, a_lstM, mkT, mkL, a_boolE, evB, a_truE, truM, truSV, a_notM, a_notV, a_andM, a_orM, a_andV, a_orV, a_ifM, a_loM, evI, a_slM, a_setS, store, a_retS, retE, a_setG, a_seqS, a_ifS, retN, a_nxS, a_ite, a_itemsM, itemsOf, SV.dat, SV.asI, SV.asQ, a_enuM, enumM, oAdd, oSub, int1, oLt, oLe, oGt, oGe, List.getElem?_cons_zero, List.getElem?_cons_succ, List.set_cons_zero, List.set_cons_succ, c3]
end K89

namespace K89
open PySem FN
open PySem.PyData (strOk)
theorem slices_of {m : Mb} {ws : List Str} (hd : dep m ≤ 40) (hm : Mok m) (hw : Nms ws) (hl : ws.length ≤ 4) : F_slices_of [.im (enc m), .im (wd ws)] = some (.im (.tuple ((List.range (ws.length + 1)).map fun k => enc (form (lotOf m ws k)))), [.im (enc m), .im (wd ws)]) := by
  have hi : rng1 (op2 (opN (consM (fVar 1) (retM [])) oLen) (fC (.int 1)) oAdd) [.im (enc m), .im (wd ws), .no] = some ((List.range (ws.length + 1)).map iD, [.im (enc m), .im (wd ws), .no]) := rng1_eq (by simp [a_bind, a_ret, a_fVar, a_fC, a_op2, a_opN, a_op1, FN.view, views, frz, a_frM, a_consM, a_tupM, a_lstM, mkT, mkL, a_boolE, evB, a_truE, truM, truSV, a_notM, a_notV, a_andM, a_orM, a_andV, a_orV, a_ifM, a_loM, evI, a_slM, a_setS, store, a_retS, retE, a_setG, a_seqS, a_ifS, retN, a_nxS, a_ite, a_itemsM, itemsOf, SV.dat, SV.asI, SV.asQ, a_enuM, enumM, oAdd, oSub, int1, oLt, oLe, oGt, oGe, List.getElem?_cons_zero, List.getElem?_cons_succ, List.set_cons_zero, List.set_cons_succ, oLen]) (by omega)
  have lc := lcm_map (vs := [2]) (u := uName [0, 1] 2) (elt := f_slices_of_1) iD (fun k => enc (form (lotOf m ws k))) hi rfl (sz _ (by rw [List.length_range]; omega)) fun k hk => by
    refine ⟨_, rfl, ?_, rfl⟩
    have c : callM F_slice_of [] (consM (fVar 0) (consM (fVar 1) (consM (fVar 2) (retM [])))) [.im (enc m), .im (wd ws), .im (iD k)] = some (.im (enc (form (lotOf m ws k))), [.im (enc m), .im (wd ws), .im (iD k)]) := call_im [enc m, wd ws, iD k] (by simp [a_bind, a_ret, a_fVar, a_fC, a_op2, a_opN, a_op1, FN.view, views, frz, a_frM, a_consM, a_tupM, a_lstM, mkT, mkL, a_boolE, evB, a_truE, truM, truSV, a_notM, a_notV, a_andM, a_orM, a_andV, a_orV, a_ifM, a_loM, evI, a_slM, a_setS, store, a_retS, retE, a_setG, a_seqS, a_ifS, retN, a_nxS, a_ite, a_itemsM, itemsOf, SV.dat, SV.asI, SV.asQ, a_enuM, enumM, oAdd, oSub, int1, oLt, oLe, oGt, oGe, List.getElem?_cons_zero, List.getElem?_cons_succ, List.set_cons_zero, List.set_cons_succ]) (slice_of hd hm hw hl) im_ne
    simp [f_slices_of_1, a_bind, a_ret, a_fVar, a_fC, a_op2, a_opN, a_op1, FN.view, views, frz, a_frM, a_consM, a_tupM, a_lstM, mkT, mkL, a_boolE, evB, a_truE, truM, truSV, a_notM, a_notV, a_andM, a_orM, a_andV, a_orV, a_ifM, a_loM, evI, a_slM, a_setS, store, a_retS, retE, a_setG, a_seqS, a_ifS, retN, a_nxS, a_ite, a_itemsM, itemsOf, SV.dat, SV.asI, SV.asQ, a_enuM, enumM, oAdd, oSub, int1, oLt, oLe, oGt, oGe, List.getElem?_cons_zero, List.getElem?_cons_succ, List.set_cons_zero, List.set_cons_succ, wipeE, c]
  have hf : f_slices_of [.im (enc m), .im (wd ws), .no] = some (.rt (.im (.tuple ((List.range (ws.length + 1)).map fun k => enc (form (lotOf m ws k))))), [.im (enc m), .im (wd ws), .no]) := by
    unfold f_slices_of
    simp [a_bind, a_ret, a_fVar, a_fC, a_op2, a_opN, a_op1, FN.view, views, frz, a_frM, a_consM, a_tupM, a_lstM, mkT, mkL, a_boolE, evB, a_truE, truM, truSV, a_notM, a_notV, a_andM, a_orM, a_andV, a_orV, a_ifM, a_loM, evI, a_slM, a_setS, store, a_retS, retE, a_setG, a_seqS, a_ifS, retN, a_nxS, a_ite, a_itemsM, itemsOf, SV.dat, SV.asI, SV.asQ, a_enuM, enumM, oAdd, oSub, int1, oLt, oLe, oGt, oGe, List.getElem?_cons_zero, List.getElem?_cons_succ, List.set_cons_zero, List.set_cons_succ, lc, oTuple]
  exact fn_rt (pin := [0, 1]) (n := 2) (m := 1) (f := f_slices_of) (svs := [.im (enc m), .im (wd ws)]) hf rfl rfl im_ne
/-! are they slices? -/
def fit (m : Mb) (ws : List Str) (k : Nat) : Bool := (worlds ws).all fun w => decide (w.length = k) || (on m w == decide (k < w.length))
theorem can_be {m : Mb} {ws : List Str} {k : Nat} (hd : dep m ≤ 40) (hm : Mok m) (hw : Nms ws) (hl : ws.length ≤ 4) : F_can_be_slice [.im (enc m), .im (wd ws), .im (iD k)] = some (.im (.bool (fit m ws k)), [.im (enc m), .im (wd ws), .im (iD k)]) := by
  have c : callM F_all_worlds [] (consM (fVar 1) (retM [])) [.im (enc m), .im (wd ws), .im (iD k), .no] = some (.im (lots (worlds ws)), [.im (enc m), .im (wd ws), .im (iD k), .no]) := call_im [wd ws] (by simp [a_bind, a_ret, a_fVar, a_fC, a_op2, a_opN, a_op1, FN.view, views, frz, a_frM, a_consM, a_tupM, a_lstM, mkT, mkL, a_boolE, evB, a_truE, truM, truSV, a_notM, a_notV, a_andM, a_orM, a_andV, a_orV, a_ifM, a_loM, evI, a_slM, a_setS, store, a_retS, retE, a_setG, a_seqS, a_ifS, retN, a_nxS, a_ite, a_itemsM, itemsOf, SV.dat, SV.asI, SV.asQ, a_enuM, enumM, oAdd, oSub, int1, oLt, oLe, oGt, oGe, List.getElem?_cons_zero, List.getElem?_cons_succ, List.set_cons_zero, List.set_cons_succ]) (all_worlds (by omega)) im_ne
  have hi : itemsM (frM (callM F_all_worlds [] (consM (fVar 1) (retM [])))) [.im (enc m), .im (wd ws), .im (iD k), .no] = some ((worlds ws).map wd, [.im (enc m), .im (wd ws), .im (iD k), .no]) := by simp [a_bind, a_ret, a_fVar, a_fC, a_op2, a_opN, a_op1, FN.view, views, frz, a_frM, a_consM, a_tupM, a_lstM, mkT, mkL, a_boolE, evB, a_truE, truM, truSV, a_notM, a_notV, a_andM, a_orM, a_andV, a_orV, a_ifM, a_loM, evI, a_slM, a_setS, store, a_retS, retE, a_setG, a_seqS, a_ifS, retN, a_nxS, a_ite, a_itemsM, itemsOf, SV.dat, SV.asI, SV.asQ, a_enuM, enumM, oAdd, oSub, int1, oLt, oLe, oGt, oGe, List.getElem?_cons_zero, List.getElem?_cons_succ, List.set_cons_zero, List.set_cons_succ, c]
  have key := loop_map (u := uName [0, 1, 2] 3) (body := f_can_be_slice_1) (ev := .im (.bool false)) (I := fun env => ∃ v, env = [.im (enc m), .im (wd ws), .im (iD k), v]) (J := fun env => ∃ v, env = [.im (enc m), .im (wd ws), .im (iD k), v]) wd (fun w => decide (w.length = k) || (on m w == decide (k < w.length))) (worlds ws) [.im (enc m), .im (wd ws), .im (iD k), .no] (fun w hx env he => by
    obtain ⟨v, rfl⟩ := he
    refine ⟨_, rfl, ?_⟩
    have c2 : callM (F_is_on fuel) [] (consM (fVar 0) (consM (fVar 3) (retM []))) [.im (enc m), .im (wd ws), .im (iD k), .im (wd w)] = some (.im (.bool (on m w)), [.im (enc m), .im (wd ws), .im (iD k), .im (wd w)]) := call_im [enc m, wd w] (by simp [a_bind, a_ret, a_fVar, a_fC, a_op2, a_opN, a_op1, FN.view, views, frz, a_frM, a_consM, a_tupM, a_lstM, mkT, mkL, a_boolE, evB, a_truE, truM, truSV, a_notM, a_notV, a_andM, a_orM, a_andV, a_orV, a_ifM, a_loM, evI, a_slM, a_setS, store, a_retS, retE, a_setG, a_seqS, a_ifS, retN, a_nxS, a_ite, a_itemsM, itemsOf, SV.dat, SV.asI, SV.asQ, a_enuM, enumM, oAdd, oSub, int1, oLt, oLe, oGt, oGe, List.getElem?_cons_zero, List.getElem?_cons_succ, List.set_cons_zero, List.set_cons_succ]) (is_on fuel m w hd hm (Nms_worlds hw w hx).ws) im_ne
    have body : f_can_be_slice_1 [.im (enc m), .im (wd ws), .im (iD k), .im (wd w)] = if (decide (w.length = k) || (on m w == decide (k < w.length))) = true then some (.nx, [.im (enc m), .im (wd ws), .im (iD k), .im (wd w)]) else some (.rt (.im (.bool false)), [.im (enc m), .im (wd ws), .im (iD k), .im (wd w)]) := by
      by_cases h : w.length = k
      · subst h
        simp [f_can_be_slice_1, a_bind, a_ret, a_fVar, a_fC, a_op2, a_opN, a_op1, FN.view, views, frz, a_frM, a_consM, a_tupM, a_lstM, mkT, mkL, a_boolE, evB, a_truE, truM, truSV, a_notM, a_notV, a_andM, a_orM, a_andV, a_orV, a_ifM, a_loM, evI, a_slM, a_setS, store, a_retS, retE, a_setG, a_seqS, a_ifS, retN, a_nxS, a_ite, a_itemsM, itemsOf, SV.dat, SV.asI, SV.asQ, a_enuM, enumM, oAdd, oSub, int1, oLt, oLe, oGt, oGe, List.getElem?_cons_zero, List.getElem?_cons_succ, List.set_cons_zero, List.set_cons_succ, oLen, oNe_nat]
      · by_cases h2 : k < w.length <;> cases hq : on m w <;> rw [hq] at c2 <;> simp [f_can_be_slice_1, a_bind, a_ret, a_fVar, a_fC, a_op2, a_opN, a_op1, FN.view, views, frz, a_frM, a_consM, a_tupM, a_lstM, mkT, mkL, a_boolE, evB, a_truE, truM, truSV, a_notM, a_notV, a_andM, a_orM, a_andV, a_orV, a_ifM, a_loM, evI, a_slM, a_setS, store, a_retS, retE, a_setG, a_seqS, a_ifS, retN, a_nxS, a_ite, a_itemsM, itemsOf, SV.dat, SV.asI, SV.asQ, a_enuM, enumM, oAdd, oSub, int1, oLt, oLe, oGt, oGe, List.getElem?_cons_zero, List.getElem?_cons_succ, List.set_cons_zero, List.set_cons_succ, oLen, oNe_nat, oNe_bool, h, h2, c2]
    cases q : (decide (w.length = k) || (on m w == decide (k < w.length)))
    · exact .inr ⟨rfl, _, body.trans (by rw [q]; rfl), _, rfl⟩
    · exact .inl ⟨rfl, _, body.trans (by rw [q]; rfl), _, rfl⟩) ⟨_, rfl⟩
  unfold fit
  rcases key with ⟨h1, env2, h2, v, rfl⟩ | ⟨h1, env2, h2, v, rfl⟩
  · rw [h1]
    simp [F_can_be_slice, fnOf, outs, rg1, rg2, rg3, rg4, rg5, isIm, f_can_be_slice, a_bind, a_ret, a_fVar, a_fC, a_op2, a_opN, a_op1, FN.view, views, frz, a_frM, a_consM, a_tupM, a_lstM, mkT, mkL, a_boolE, evB, a_truE, truM, truSV, a_notM, a_notV, a_andM, a_orM, a_andV, a_orV, a_ifM, a_loM, evI, a_slM, a_setS, store, a_retS, retE, a_setG, a_seqS, a_ifS, retN, a_nxS, a_ite, a_itemsM, itemsOf, SV.dat, SV.asI, SV.asQ, a_enuM, enumM, oAdd, oSub, int1, oLt, oLe, oGt, oGe, List.getElem?_cons_zero, List.getElem?_cons_succ, List.set_cons_zero, List.set_cons_succ, forS_eq hi, h2]
  · rw [h1]
    simp [F_can_be_slice, fnOf, outs, rg1, rg2, rg3, rg4, rg5, isIm, f_can_be_slice, a_bind, a_ret, a_fVar, a_fC, a_op2, a_opN, a_op1, FN.view, views, frz, a_frM, a_consM, a_tupM, a_lstM, mkT, mkL, a_boolE, evB, a_truE, truM, truSV, a_notM, a_notV, a_andM, a_orM, a_andV, a_orV, a_ifM, a_loM, evI, a_slM, a_setS, store, a_retS, retE, a_setG, a_seqS, a_ifS, retN, a_nxS, a_ite, a_itemsM, itemsOf, SV.dat, SV.asI, SV.asQ, a_enuM, enumM, oAdd, oSub, int1, oLt, oLe, oGt, oGe, List.getElem?_cons_zero, List.getElem?_cons_succ, List.set_cons_zero, List.set_cons_succ, forS_eq hi, h2]
end K89

namespace K89
open PySem FN
open PySem.PyData (strOk)
abbrev fms (l : List Mb) : PyData := .tuple (l.map enc)
def Fok (m : Mb) : Prop := Mok m ∧ dep m ≤ 30
def Foks (l : List Mb) : Prop := ∀ m ∈ l, Fok m
/-- .. numbered -/
def enumF (n : Nat) : List Mb → List (Nat × Mb)
  | [] => []
  | m :: l => (n, m) :: enumF (n + 1) l
def encP (p : Nat × Mb) : PyData := .tuple [iD p.1, enc p.2]
theorem enumD_map : ∀ (n : Nat) (l : List Mb), enumD n (l.map enc) = (enumF n l).map encP
  | _, [] => rfl
  | n, m :: l => by rw [List.map_cons, enumD, enumD_map (n + 1) l]; rfl
theorem enumF_length : ∀ (n : Nat) (l : List Mb), (enumF n l).length = l.length
  | _, [] => rfl
  | n, m :: l => by rw [enumF, List.length_cons, List.length_cons, enumF_length]
theorem enumF_mem : ∀ {n : Nat} {l : List Mb} {p : Nat × Mb}, p ∈ enumF n l → p.2 ∈ l
  | n, m :: l, p, h => by
    rcases List.mem_cons.mp h with rfl | h
    · exact List.mem_cons_self
    · exact List.mem_cons_of_mem _ (enumF_mem h)
theorem enumF_all : ∀ (n : Nat) (l : List Mb) (f : Nat → Mb → Bool), ((enumF n l).all fun p => f p.1 p.2) = (List.range l.length).all fun i => match l[i]? with | some m => f (n + i) m | none => true
  | n, [], f => rfl
  | n, m :: l, f => by
    rw [enumF, List.all_cons, enumF_all (n + 1) l f, List.length_cons, List.range_succ_eq_map, List.all_cons, List.all_map]
    congr 1
    refine List.all_congr rfl fun i => ?_
    show _ = match (m :: l)[i + 1]? with | some m => f (n + (i + 1)) m | none => true
    rw [List.getElem?_cons_succ, show n + (i + 1) = n + 1 + i by omega]
def fits (l : List Mb) (ws : List Str) : Bool := decide (l.length = ws.length + 1) && (enumF 0 l).all fun p => fit p.2 ws p.1
theorem boolsOf_map : ∀ l : List Bool, boolsOf (l.map PyData.bool) = some l
  | [] => rfl
  | b :: l => by rw [List.map_cons, boolsOf, boolsOf_map l]
theorem are_slices {l : List Mb} {ws : List Str} (hf : Foks l) (hw : Nms ws) (hl : ws.length ≤ 4) (hn : l.length ≤ 100) : F_are_slices [.im (fms l), .im (wd ws)] = some (.im (.bool (fits l ws)), [.im (fms l), .im (wd ws)]) := by
  have hi : enuM (frM (fVar 0)) [.im (fms l), .im (wd ws), .no, .no] = some ((enumF 0 l).map encP, [.im (fms l), .im (wd ws), .no, .no]) := by simp [a_bind, a_ret, a_fVar, a_fC, a_op2, a_opN, a_op1, FN.view, views, frz, a_frM, a_consM, a_tupM, a_lstM, mkT, mkL, a_boolE, evB, a_truE, truM, truSV, a_notM, a_notV, a_andM, a_orM, a_andV, a_orV, a_ifM, a_loM, evI, a_slM, a_setS, store, a_retS, retE, a_setG, a_seqS, a_ifS, retN, a_nxS, a_ite, a_itemsM, itemsOf, SV.dat, SV.asI, SV.asQ, a_enuM, enumM, oAdd, oSub, int1, oLt, oLe, oGt, oGe, List.getElem?_cons_zero, List.getElem?_cons_succ, List.set_cons_zero, List.set_cons_succ, enumD_map]
  have lc := lcm_map (vs := [2, 3]) (u := uTup [uName [0, 1] 2, uName [0, 1] 3]) (elt := f_are_slices_1) encP (fun p => .bool (fit p.2 ws p.1)) hi rfl (sz _ (by rw [enumF_length]; omega)) fun p hp => by
    refine ⟨[.im (fms l), .im (wd ws), .im (iD p.1), .im (enc p.2)], rfl, ?_, rfl⟩
    have h2 := hf _ (enumF_mem hp)
    have c : callM F_can_be_slice [] (consM (fVar 3) (consM (fVar 1) (consM (fVar 2) (retM [])))) [.im (fms l), .im (wd ws), .im (iD p.1), .im (enc p.2)] = some (.im (.bool (fit p.2 ws p.1)), [.im (fms l), .im (wd ws), .im (iD p.1), .im (enc p.2)]) := call_im [enc p.2, wd ws, iD p.1] (by simp [a_bind, a_ret, a_fVar, a_fC, a_op2, a_opN, a_op1, FN.view, views, frz, a_frM, a_consM, a_tupM, a_lstM, mkT, mkL, a_boolE, evB, a_truE, truM, truSV, a_notM, a_notV, a_andM, a_orM, a_andV, a_orV, a_ifM, a_loM, evI, a_slM, a_setS, store, a_retS, retE, a_setG, a_seqS, a_ifS, retN, a_nxS, a_ite, a_itemsM, itemsOf, SV.dat, SV.asI, SV.asQ, a_enuM, enumM, oAdd, oSub, int1, oLt, oLe, oGt, oGe, List.getElem?_cons_zero, List.getElem?_cons_succ, List.set_cons_zero, List.set_cons_succ]) (can_be (by have := h2.2; omega) h2.1 hw hl) im_ne
    simp [f_are_slices_1, a_bind, a_ret, a_fVar, a_fC, a_op2, a_opN, a_op1, FN.view, views, frz, a_frM, a_consM, a_tupM, a_lstM, mkT, mkL, a_boolE, evB, a_truE, truM, truSV, a_notM, a_notV, a_andM, a_orM, a_andV, a_orV, a_ifM, a_loM, evI, a_slM, a_setS, store, a_retS, retE, a_setG, a_seqS, a_ifS, retN, a_nxS, a_ite, a_itemsM, itemsOf, SV.dat, SV.asI, SV.asQ, a_enuM, enumM, oAdd, oSub, int1, oLt, oLe, oGt, oGe, List.getElem?_cons_zero, List.getElem?_cons_succ, List.set_cons_zero, List.set_cons_succ, c]
  have hb : boolsOf ((enumF 0 l).map fun p => PyData.bool (fit p.2 ws p.1)) = some ((enumF 0 l).map fun p => fit p.2 ws p.1) := by
    have := boolsOf_map ((enumF 0 l).map fun p => fit p.2 ws p.1)
    rw [List.map_map] at this
    exact this
  generalize hL : ((enumF 0 l).map fun p => PyData.bool (fit p.2 ws p.1)) = L at lc hb
  have hall : ((enumF 0 l).map fun p => fit p.2 ws p.1).all id = (enumF 0 l).all fun p => fit p.2 ws p.1 := by rw [List.all_map]; rfl
  unfold fits
  by_cases h : l.length = ws.length + 1
  · have h' : ((l.length : Int) = (ws.length : Int) + 1) := by omega
    rw [decide_eq_true h, Bool.true_and]
    simp [F_are_slices, fnOf, outs, rg1, rg2, rg3, rg4, rg5, isIm, f_are_slices, a_bind, a_ret, a_fVar, a_fC, a_op2, a_opN, a_op1, FN.view, views, frz, a_frM, a_consM, a_tupM, a_lstM, mkT, mkL, a_boolE, evB, a_truE, truM, truSV, a_notM, a_notV, a_andM, a_orM, a_andV, a_orV, a_ifM, a_loM, evI, a_slM, a_setS, store, a_retS, retE, a_setG, a_seqS, a_ifS, retN, a_nxS, a_ite, a_itemsM, itemsOf, SV.dat, SV.asI, SV.asQ, a_enuM, enumM, oAdd, oSub, int1, oLt, oLe, oGt, oGe, List.getElem?_cons_zero, List.getElem?_cons_succ, List.set_cons_zero, List.set_cons_succ, oLen, lc, oAllL, SV.asL, hb, hall, h', oNe_dec]
  · have h' : ¬ ((l.length : Int) = (ws.length : Int) + 1) := by omega
    rw [decide_eq_false h, Bool.false_and]
    simp [F_are_slices, fnOf, outs, rg1, rg2, rg3, rg4, rg5, isIm, f_are_slices, a_bind, a_ret, a_fVar, a_fC, a_op2, a_opN, a_op1, FN.view, views, frz, a_frM, a_consM, a_tupM, a_lstM, mkT, mkL, a_boolE, evB, a_truE, truM, truSV, a_notM, a_notV, a_andM, a_orM, a_andV, a_orV, a_ifM, a_loM, evI, a_slM, a_setS, store, a_retS, retE, a_setG, a_seqS, a_ifS, retN, a_nxS, a_ite, a_itemsM, itemsOf, SV.dat, SV.asI, SV.asQ, a_enuM, enumM, oAdd, oSub, int1, oLt, oLe, oGt, oGe, List.getElem?_cons_zero, List.getElem?_cons_succ, List.set_cons_zero, List.set_cons_succ, oLen, h', oNe_dec]
theorem law_fit {m : Mb} {ws : List Str} {k : Nat} (hd : dep m ≤ 40) (hm : Mok m) (hw : Nms ws) (hl : ws.length ≤ 4) : F__law_fit [.im (enc m), .im (wd ws), .im (iD k)] = some (.im (.bool (fit m ws k)), [.im (enc m), .im (wd ws), .im (iD k)]) := by
  have c : callM F__law_all [] (consM (fVar 1) (retM [])) [.im (enc m), .im (wd ws), .im (iD k), .no] = some (.own ((worlds ws).map wd), [.im (enc m), .im (wd ws), .im (iD k), .no]) := call_im [wd ws] (by simp [a_bind, a_ret, a_fVar, a_fC, a_op2, a_opN, a_op1, FN.view, views, frz, a_frM, a_consM, a_tupM, a_lstM, mkT, mkL, a_boolE, evB, a_truE, truM, truSV, a_notM, a_notV, a_andM, a_orM, a_andV, a_orV, a_ifM, a_loM, evI, a_slM, a_setS, store, a_retS, retE, a_setG, a_seqS, a_ifS, retN, a_nxS, a_ite, a_itemsM, itemsOf, SV.dat, SV.asI, SV.asQ, a_enuM, enumM, oAdd, oSub, int1, oLt, oLe, oGt, oGe, List.getElem?_cons_zero, List.getElem?_cons_succ, List.set_cons_zero, List.set_cons_succ]) (law_all (by omega)) own_ne
  have hi : itemsM (frM (callM F__law_all [] (consM (fVar 1) (retM [])))) [.im (enc m), .im (wd ws), .im (iD k), .no] = some ((worlds ws).map wd, [.im (enc m), .im (wd ws), .im (iD k), .no]) := by simp [a_bind, a_ret, a_fVar, a_fC, a_op2, a_opN, a_op1, FN.view, views, frz, a_frM, a_consM, a_tupM, a_lstM, mkT, mkL, a_boolE, evB, a_truE, truM, truSV, a_notM, a_notV, a_andM, a_orM, a_andV, a_orV, a_ifM, a_loM, evI, a_slM, a_setS, store, a_retS, retE, a_setG, a_seqS, a_ifS, retN, a_nxS, a_ite, a_itemsM, itemsOf, SV.dat, SV.asI, SV.asQ, a_enuM, enumM, oAdd, oSub, int1, oLt, oLe, oGt, oGe, List.getElem?_cons_zero, List.getElem?_cons_succ, List.set_cons_zero, List.set_cons_succ, c]
  have key := loop_map (u := uName [0, 1, 2] 3) (body := f__law_fit_1) (ev := .im (.bool false)) (I := fun env => ∃ v, env = [.im (enc m), .im (wd ws), .im (iD k), v]) (J := fun env => ∃ v, env = [.im (enc m), .im (wd ws), .im (iD k), v]) wd (fun w => decide (w.length = k) || (on m w == decide (k < w.length))) (worlds ws) [.im (enc m), .im (wd ws), .im (iD k), .no] (fun w hx env he => by
    obtain ⟨v, rfl⟩ := he
    refine ⟨_, rfl, ?_⟩
    have c2 : callM (F__law_on fuel) [] (consM (fVar 0) (consM (fVar 3) (retM []))) [.im (enc m), .im (wd ws), .im (iD k), .im (wd w)] = some (.im (.bool (on m w)), [.im (enc m), .im (wd ws), .im (iD k), .im (wd w)]) := call_im [enc m, wd w] (by simp [a_bind, a_ret, a_fVar, a_fC, a_op2, a_opN, a_op1, FN.view, views, frz, a_frM, a_consM, a_tupM, a_lstM, mkT, mkL, a_boolE, evB, a_truE, truM, truSV, a_notM, a_notV, a_andM, a_orM, a_andV, a_orV, a_ifM, a_loM, evI, a_slM, a_setS, store, a_retS, retE, a_setG, a_seqS, a_ifS, retN, a_nxS, a_ite, a_itemsM, itemsOf, SV.dat, SV.asI, SV.asQ, a_enuM, enumM, oAdd, oSub, int1, oLt, oLe, oGt, oGe, List.getElem?_cons_zero, List.getElem?_cons_succ, List.set_cons_zero, List.set_cons_succ]) (law_on fuel m w hd hm (Nms_worlds hw w hx).ws) im_ne
    have body : f__law_fit_1 [.im (enc m), .im (wd ws), .im (iD k), .im (wd w)] = if (decide (w.length = k) || (on m w == decide (k < w.length))) = true then some (.nx, [.im (enc m), .im (wd ws), .im (iD k), .im (wd w)]) else some (.rt (.im (.bool false)), [.im (enc m), .im (wd ws), .im (iD k), .im (wd w)]) := by
      by_cases h : w.length = k
      · subst h
        simp [f__law_fit_1, a_bind, a_ret, a_fVar, a_fC, a_op2, a_opN, a_op1, FN.view, views, frz, a_frM, a_consM, a_tupM, a_lstM, mkT, mkL, a_boolE, evB, a_truE, truM, truSV, a_notM, a_notV, a_andM, a_orM, a_andV, a_orV, a_ifM, a_loM, evI, a_slM, a_setS, store, a_retS, retE, a_setG, a_seqS, a_ifS, retN, a_nxS, a_ite, a_itemsM, itemsOf, SV.dat, SV.asI, SV.asQ, a_enuM, enumM, oAdd, oSub, int1, oLt, oLe, oGt, oGe, List.getElem?_cons_zero, List.getElem?_cons_succ, List.set_cons_zero, List.set_cons_succ, oLen, oNe_nat]
      · by_cases h2 : k < w.length <;> cases hq : on m w <;> rw [hq] at c2 <;> simp [f__law_fit_1, a_bind, a_ret, a_fVar, a_fC, a_op2, a_opN, a_op1, FN.view, views, frz, a_frM, a_consM, a_tupM, a_lstM, mkT, mkL, a_boolE, evB, a_truE, truM, truSV, a_notM, a_notV, a_andM, a_orM, a_andV, a_orV, a_ifM, a_loM, evI, a_slM, a_setS, store, a_retS, retE, a_setG, a_seqS, a_ifS, retN, a_nxS, a_ite, a_itemsM, itemsOf, SV.dat, SV.asI, SV.asQ, a_enuM, enumM, oAdd, oSub, int1, oLt, oLe, oGt, oGe, List.getElem?_cons_zero, List.getElem?_cons_succ, List.set_cons_zero, List.set_cons_succ, oLen, oNe_nat, oNe_bool, h, h2, c2]
    cases q : (decide (w.length = k) || (on m w == decide (k < w.length)))
    · exact .inr ⟨rfl, _, body.trans (by rw [q]; rfl), _, rfl⟩
    · exact .inl ⟨rfl, _, body.trans (by rw [q]; rfl), _, rfl⟩) ⟨_, rfl⟩
  unfold fit
  rcases key with ⟨h1, env2, h2, v, rfl⟩ | ⟨h1, env2, h2, v, rfl⟩
  · rw [h1]
    simp [F__law_fit, fnOf, outs, rg1, rg2, rg3, rg4, rg5, isIm, f__law_fit, a_bind, a_ret, a_fVar, a_fC, a_op2, a_opN, a_op1, FN.view, views, frz, a_frM, a_consM, a_tupM, a_lstM, mkT, mkL, a_boolE, evB, a_truE, truM, truSV, a_notM, a_notV, a_andM, a_orM, a_andV, a_orV, a_ifM, a_loM, evI, a_slM, a_setS, store, a_retS, retE, a_setG, a_seqS, a_ifS, retN, a_nxS, a_ite, a_itemsM, itemsOf, SV.dat, SV.asI, SV.asQ, a_enuM, enumM, oAdd, oSub, int1, oLt, oLe, oGt, oGe, List.getElem?_cons_zero, List.getElem?_cons_succ, List.set_cons_zero, List.set_cons_succ, forS_eq hi, h2]
  · rw [h1]
    simp [F__law_fit, fnOf, outs, rg1, rg2, rg3, rg4, rg5, isIm, f__law_fit, a_bind, a_ret, a_fVar, a_fC, a_op2, a_opN, a_op1, FN.view, views, frz, a_frM, a_consM, a_tupM, a_lstM, mkT, mkL, a_boolE, evB, a_truE, truM, truSV, a_notM, a_notV, a_andM, a_orM, a_andV, a_orV, a_ifM, a_loM, evI, a_slM, a_setS, store, a_retS, retE, a_setG, a_seqS, a_ifS, retN, a_nxS, a_ite, a_itemsM, itemsOf, SV.dat, SV.asI, SV.asQ, a_enuM, enumM, oAdd, oSub, int1, oLt, oLe, oGt, oGe, List.getElem?_cons_zero, List.getElem?_cons_succ, List.set_cons_zero, List.set_cons_succ, forS_eq hi, h2]
theorem law_row_fits {l : List Mb} {ws : List Str} (hf : Foks l) (hw : Nms ws) (hl : ws.length ≤ 4) (hn : l.length ≤ 100) : F__law_row_fits [.im (fms l), .im (wd ws)] = some (.im (.bool (fits l ws)), [.im (fms l), .im (wd ws)]) := by
  have hi : rng1 (opN (consM (fVar 0) (retM [])) oLen) [.im (fms l), .im (wd ws), .no] = some ((List.range l.length).map iD, [.im (fms l), .im (wd ws), .no]) := rng1_eq (by simp [a_bind, a_ret, a_fVar, a_fC, a_op2, a_opN, a_op1, FN.view, views, frz, a_frM, a_consM, a_tupM, a_lstM, mkT, mkL, a_boolE, evB, a_truE, truM, truSV, a_notM, a_notV, a_andM, a_orM, a_andV, a_orV, a_ifM, a_loM, evI, a_slM, a_setS, store, a_retS, retE, a_setG, a_seqS, a_ifS, retN, a_nxS, a_ite, a_itemsM, itemsOf, SV.dat, SV.asI, SV.asQ, a_enuM, enumM, oAdd, oSub, int1, oLt, oLe, oGt, oGe, List.getElem?_cons_zero, List.getElem?_cons_succ, List.set_cons_zero, List.set_cons_succ, oLen]) (by omega)
  have key := loop_map (u := uName [0, 1] 2) (body := f__law_row_fits_1) (ev := .im (.bool false)) (I := fun env => ∃ v, env = [.im (fms l), .im (wd ws), v]) (J := fun env => ∃ v, env = [.im (fms l), .im (wd ws), v]) iD (fun i => match l[i]? with | some m => fit m ws i | none => true) (List.range l.length) [.im (fms l), .im (wd ws), .no] (fun i hx env he => by
    obtain ⟨v, rfl⟩ := he
    refine ⟨_, rfl, ?_⟩
    have hx : i < l.length := List.mem_range.mp hx
    have ix := ixT (f := enc) hx
    have h2 := hf _ (List.getElem_mem hx)
    rw [List.getElem?_eq_getElem hx]
    have c2 : callM F__law_fit [] (consM (op2 (fVar 0) (fVar 2) oIx) (consM (fVar 1) (consM (fVar 2) (retM [])))) [.im (fms l), .im (wd ws), .im (iD i)] = some (.im (.bool (fit l[i] ws i)), [.im (fms l), .im (wd ws), .im (iD i)]) := call_im [enc l[i], wd ws, iD i] (by simp [a_bind, a_ret, a_fVar, a_fC, a_op2, a_opN, a_op1, FN.view, views, frz, a_frM, a_consM, a_tupM, a_lstM, mkT, mkL, a_boolE, evB, a_truE, truM, truSV, a_notM, a_notV, a_andM, a_orM, a_andV, a_orV, a_ifM, a_loM, evI, a_slM, a_setS, store, a_retS, retE, a_setG, a_seqS, a_ifS, retN, a_nxS, a_ite, a_itemsM, itemsOf, SV.dat, SV.asI, SV.asQ, a_enuM, enumM, oAdd, oSub, int1, oLt, oLe, oGt, oGe, List.getElem?_cons_zero, List.getElem?_cons_succ, List.set_cons_zero, List.set_cons_succ, ix]) (law_fit (by have := h2.2; omega) h2.1 hw hl) im_ne
    cases q : fit l[i] ws i <;> rw [q] at c2
    · exact .inr ⟨q, [.im (fms l), .im (wd ws), .im (iD i)], by show f__law_row_fits_1 [.im (fms l), .im (wd ws), .im (iD i)] = _; simp [f__law_row_fits_1, a_bind, a_ret, a_fVar, a_fC, a_op2, a_opN, a_op1, FN.view, views, frz, a_frM, a_consM, a_tupM, a_lstM, mkT, mkL, a_boolE, evB, a_truE, truM, truSV, a_notM, a_notV, a_andM, a_orM, a_andV, a_orV, a_ifM, a_loM, evI, a_slM, a_setS, store, a_retS, retE, a_setG, a_seqS, a_ifS, retN, a_nxS, a_ite, a_itemsM, itemsOf, SV.dat, SV.asI, SV.asQ, a_enuM, enumM, oAdd, oSub, int1, oLt, oLe, oGt, oGe, List.getElem?_cons_zero, List.getElem?_cons_succ, List.set_cons_zero, List.set_cons_succ, c2], _, rfl⟩
    · exact .inl ⟨q, [.im (fms l), .im (wd ws), .im (iD i)], by show f__law_row_fits_1 [.im (fms l), .im (wd ws), .im (iD i)] = _; simp [f__law_row_fits_1, a_bind, a_ret, a_fVar, a_fC, a_op2, a_opN, a_op1, FN.view, views, frz, a_frM, a_consM, a_tupM, a_lstM, mkT, mkL, a_boolE, evB, a_truE, truM, truSV, a_notM, a_notV, a_andM, a_orM, a_andV, a_orV, a_ifM, a_loM, evI, a_slM, a_setS, store, a_retS, retE, a_setG, a_seqS, a_ifS, retN, a_nxS, a_ite, a_itemsM, itemsOf, SV.dat, SV.asI, SV.asQ, a_enuM, enumM, oAdd, oSub, int1, oLt, oLe, oGt, oGe, List.getElem?_cons_zero, List.getElem?_cons_succ, List.set_cons_zero, List.set_cons_succ, c2], _, rfl⟩) ⟨_, rfl⟩
  unfold fits
  have ea := enumF_all 0 l fun i m => fit m ws i
  simp only [Nat.zero_add] at ea
  rw [ea]
  by_cases h : l.length = ws.length + 1
  · have h' : ((l.length : Int) = (ws.length : Int) + 1) := by omega
    rw [decide_eq_true h, Bool.true_and]
    rcases key with ⟨h1, env2, h2, v, rfl⟩ | ⟨h1, env2, h2, v, rfl⟩
    · rw [h1]
      simp [F__law_row_fits, fnOf, outs, rg1, rg2, rg3, rg4, rg5, isIm, f__law_row_fits, a_bind, a_ret, a_fVar, a_fC, a_op2, a_opN, a_op1, FN.view, views, frz, a_frM, a_consM, a_tupM, a_lstM, mkT, mkL, a_boolE, evB, a_truE, truM, truSV, a_notM, a_notV, a_andM, a_orM, a_andV, a_orV, a_ifM, a_loM, evI, a_slM, a_setS, store, a_retS, retE, a_setG, a_seqS, a_ifS, retN, a_nxS, a_ite, a_itemsM, itemsOf, SV.dat, SV.asI, SV.asQ, a_enuM, enumM, oAdd, oSub, int1, oLt, oLe, oGt, oGe, List.getElem?_cons_zero, List.getElem?_cons_succ, List.set_cons_zero, List.set_cons_succ, oLen, oNe_dec, h', forS_eq hi, h2]
    · rw [h1]
      simp [F__law_row_fits, fnOf, outs, rg1, rg2, rg3, rg4, rg5, isIm, f__law_row_fits, a_bind, a_ret, a_fVar, a_fC, a_op2, a_opN, a_op1, FN.view, views, frz, a_frM, a_consM, a_tupM, a_lstM, mkT, mkL, a_boolE, evB, a_truE, truM, truSV, a_notM, a_notV, a_andM, a_orM, a_andV, a_orV, a_ifM, a_loM, evI, a_slM, a_setS, store, a_retS, retE, a_setG, a_seqS, a_ifS, retN, a_nxS, a_ite, a_itemsM, itemsOf, SV.dat, SV.asI, SV.asQ, a_enuM, enumM, oAdd, oSub, int1, oLt, oLe, oGt, oGe, List.getElem?_cons_zero, List.getElem?_cons_succ, List.set_cons_zero, List.set_cons_succ, oLen, oNe_dec, h', forS_eq hi, h2]
  · have h' : ¬ ((l.length : Int) = (ws.length : Int) + 1) := by omega
    rw [decide_eq_false h, Bool.false_and]
    simp [F__law_row_fits, fnOf, outs, rg1, rg2, rg3, rg4, rg5, isIm, f__law_row_fits, a_bind, a_ret, a_fVar, a_fC, a_op2, a_opN, a_op1, FN.view, views, frz, a_frM, a_consM, a_tupM, a_lstM, mkT, mkL, a_boolE, evB, a_truE, truM, truSV, a_notM, a_notV, a_andM, a_orM, a_andV, a_orV, a_ifM, a_loM, evI, a_slM, a_setS, store, a_retS, retE, a_setG, a_seqS, a_ifS, retN, a_nxS, a_ite, a_itemsM, itemsOf, SV.dat, SV.asI, SV.asQ, a_enuM, enumM, oAdd, oSub, int1, oLt, oLe, oGt, oGe, List.getElem?_cons_zero, List.getElem?_cons_succ, List.set_cons_zero, List.set_cons_succ, oLen, oNe_dec, h']
end K89

namespace K89
open PySem FN
open PySem.PyData (strOk)
def uterm (ws : List Str) (p : Nat × Mb) : Mb := .grp true [p.2, .neg (atL ws ws.length (p.1 + 1))]
def whole (l : List Mb) (ws : List Str) : Mb := .grp false ((enumF 0 l).map (uterm ws))
theorem enc_whole (l : List Mb) (ws : List Str) : enc (whole l ws) = .tuple [.str "some", .tuple ((enumF 0 l).map fun p => enc (uterm ws p))] := by
  rw [whole, enc, encs_map, List.map_map]
  rfl
theorem enumF_len (n : Nat) (l : List Mb) : (enumF n l).length = l.length := enumF_length n l
theorem unslice {l : List Mb} {ws : List Str} (hw : Nms ws) (hl : ws.length ≤ 4) (hn : l.length ≤ 100) : F_unslice [.im (fms l), .im (wd ws)] = some (.im (enc (whole l ws)), [.im (fms l), .im (wd ws)]) := by
  have hi0 : itemsM (frM (fVar 1)) [.im (fms l), .im (wd ws), .no, .no, .no, .no, .no] = some (ws.map PyData.str, [.im (fms l), .im (wd ws), .no, .no, .no, .no, .no]) := by simp [a_bind, a_ret, a_fVar, a_fC, a_op2, a_opN, a_op1, FN.view, views, frz, a_frM, a_consM, a_tupM, a_lstM, mkT, mkL, a_boolE, evB, a_truE, truM, truSV, a_notM, a_notV, a_andM, a_orM, a_andV, a_orV, a_ifM, a_loM, evI, a_slM, a_setS, store, a_retS, retE, a_setG, a_seqS, a_ifS, retN, a_nxS, a_ite, a_itemsM, itemsOf, SV.dat, SV.asI, SV.asQ, a_enuM, enumM, oAdd, oSub, int1, oLt, oLe, oGt, oGe, List.getElem?_cons_zero, List.getElem?_cons_succ, List.set_cons_zero, List.set_cons_succ]
  have lc := lcm_map (vs := [6]) (u := uName [0, 1] 6) (elt := f_unslice_2) PyData.str (fun x => enc (.atom x)) hi0 rfl (sz _) fun x hx => by
    refine ⟨_, rfl, ?_, rfl⟩
    have c : callM F_make_atom [] (consM (fVar 6) (retM [])) [.im (fms l), .im (wd ws), .no, .no, .no, .no, .im (.str x)] = some (.im (enc (.atom x)), [.im (fms l), .im (wd ws), .no, .no, .no, .no, .im (.str x)]) := call_im [.str x] (by simp [a_bind, a_ret, a_fVar, a_fC, a_op2, a_opN, a_op1, FN.view, views, frz, a_frM, a_consM, a_tupM, a_lstM, mkT, mkL, a_boolE, evB, a_truE, truM, truSV, a_notM, a_notV, a_andM, a_orM, a_andV, a_orV, a_ifM, a_loM, evI, a_slM, a_setS, store, a_retS, retE, a_setG, a_seqS, a_ifS, retN, a_nxS, a_ite, a_itemsM, itemsOf, SV.dat, SV.asI, SV.asQ, a_enuM, enumM, oAdd, oSub, int1, oLt, oLe, oGt, oGe, List.getElem?_cons_zero, List.getElem?_cons_succ, List.set_cons_zero, List.set_cons_succ]) (make_atom (hw x hx)) im_ne
    simp [f_unslice_2, a_bind, a_ret, a_fVar, a_fC, a_op2, a_opN, a_op1, FN.view, views, frz, a_frM, a_consM, a_tupM, a_lstM, mkT, mkL, a_boolE, evB, a_truE, truM, truSV, a_notM, a_notV, a_andM, a_orM, a_andV, a_orV, a_ifM, a_loM, evI, a_slM, a_setS, store, a_retS, retE, a_setG, a_seqS, a_ifS, retN, a_nxS, a_ite, a_itemsM, itemsOf, SV.dat, SV.asI, SV.asQ, a_enuM, enumM, oAdd, oSub, int1, oLt, oLe, oGt, oGe, List.getElem?_cons_zero, List.getElem?_cons_succ, List.set_cons_zero, List.set_cons_succ, wipeE, c]
  have key := loop_fold (u := uTup [uName [0, 1] 4, uName [0, 1] 5]) (body := f_unslice_1) encP (fun pre env => ∃ v w, env = [.im (fms l), .im (wd ws), .im (.tuple (ws.map fun x => enc (.atom x))), .mu (pre.map fun p => enc (uterm ws p)), v, w, .no]) (enumF 0 l) [] [.im (fms l), .im (wd ws), .im (.tuple (ws.map fun x => enc (.atom x))), .mu [], .no, .no, .no] (fun p d q env e i => by
    obtain ⟨v, w, rfl⟩ := i
    have hp : p.length ≤ 100 := by
      have := congrArg List.length e
      rw [List.nil_append, enumF_len, List.length_append] at this
      omega
    refine ⟨[.im (fms l), .im (wd ws), .im (.tuple (ws.map fun x => enc (.atom x))), .mu (p.map fun p => enc (uterm ws p)), .im (iD d.1), .im (enc d.2), .no], [.im (fms l), .im (wd ws), .im (.tuple (ws.map fun x => enc (.atom x))), .mu ((p ++ [d]).map fun p => enc (uterm ws p)), .im (iD d.1), .im (enc d.2), .no], rfl, ?_, _, _, rfl⟩
    have hat := at_least ws fuel ws.length (d.1 + 1) (by rw [fuel_eq]; omega) (Nat.le_refl _)
    have e1 : enc (uterm ws d) = .tuple [.str "all", .tuple [enc d.2, .tuple [.str "not", enc (atL ws ws.length (d.1 + 1))]]] := by simp [uterm, enc, encs, gname]
    generalize enc (atL ws ws.length (d.1 + 1)) = at1 at hat e1
    have ez : (((d.1 + 1 : Nat) : Int)) = (d.1 : Int) + 1 := by omega
    rw [ez] at hat
    have c : callM (F_at_least fuel) [] (consM (fVar 2) (consM (opN (consM (fVar 2) (retM [])) oLen) (consM (op2 (fVar 4) (fC (.int 1)) oAdd) (retM [])))) [.im (fms l), .im (wd ws), .im (.tuple (ws.map fun x => enc (.atom x))), .mu (p.map fun p => enc (uterm ws p)), .im (iD d.1), .im (enc d.2), .no] = some (.im at1, [.im (fms l), .im (wd ws), .im (.tuple (ws.map fun x => enc (.atom x))), .mu (p.map fun p => enc (uterm ws p)), .im (iD d.1), .im (enc d.2), .no]) :=
      call_im [.tuple (ws.map fun x => enc (.atom x)), .int ws.length, .int ((d.1 : Int) + 1)] (by simp [a_bind, a_ret, a_fVar, a_fC, a_op2, a_opN, a_op1, FN.view, views, frz, a_frM, a_consM, a_tupM, a_lstM, mkT, mkL, a_boolE, evB, a_truE, truM, truSV, a_notM, a_notV, a_andM, a_orM, a_andV, a_orV, a_ifM, a_loM, evI, a_slM, a_setS, store, a_retS, retE, a_setG, a_seqS, a_ifS, retN, a_nxS, a_ite, a_itemsM, itemsOf, SV.dat, SV.asI, SV.asQ, a_enuM, enumM, oAdd, oSub, int1, oLt, oLe, oGt, oGe, List.getElem?_cons_zero, List.getElem?_cons_succ, List.set_cons_zero, List.set_cons_succ, oLen]) hat im_ne
    rw [List.map_append, List.map_singleton, e1]
    simp [f_unslice_1, a_bind, a_ret, a_fVar, a_fC, a_op2, a_opN, a_op1, FN.view, views, frz, a_frM, a_consM, a_tupM, a_lstM, mkT, mkL, a_boolE, evB, a_truE, truM, truSV, a_notM, a_notV, a_andM, a_orM, a_andV, a_orV, a_ifM, a_loM, evI, a_slM, a_setS, store, a_retS, retE, a_setG, a_seqS, a_ifS, retN, a_nxS, a_ite, a_itemsM, itemsOf, SV.dat, SV.asI, SV.asQ, a_enuM, enumM, oAdd, oSub, int1, oLt, oLe, oGt, oGe, List.getElem?_cons_zero, List.getElem?_cons_succ, List.set_cons_zero, List.set_cons_succ, a_appS, c, sz 2, szl p.length]) ⟨_, _, rfl⟩
  obtain ⟨env2, h1, v, w, h2⟩ := key
  subst h2
  have hi : enuM (frM (fVar 0)) [.im (fms l), .im (wd ws), .im (.tuple (ws.map fun x => enc (.atom x))), .mu [], .no, .no, .no] = some ((enumF 0 l).map encP, [.im (fms l), .im (wd ws), .im (.tuple (ws.map fun x => enc (.atom x))), .mu [], .no, .no, .no]) := by simp [a_bind, a_ret, a_fVar, a_fC, a_op2, a_opN, a_op1, FN.view, views, frz, a_frM, a_consM, a_tupM, a_lstM, mkT, mkL, a_boolE, evB, a_truE, truM, truSV, a_notM, a_notV, a_andM, a_orM, a_andV, a_orV, a_ifM, a_loM, evI, a_slM, a_setS, store, a_retS, retE, a_setG, a_seqS, a_ifS, retN, a_nxS, a_ite, a_itemsM, itemsOf, SV.dat, SV.asI, SV.asQ, a_enuM, enumM, oAdd, oSub, int1, oLt, oLe, oGt, oGe, List.getElem?_cons_zero, List.getElem?_cons_succ, List.set_cons_zero, List.set_cons_succ, enumD_map]
  rw [enc_whole]
  simp only [List.nil_append] at h1
  simp [F_unslice, fnOf, outs, rg1, rg2, rg3, rg4, rg5, isIm, f_unslice, a_bind, a_ret, a_fVar, a_fC, a_op2, a_opN, a_op1, FN.view, views, frz, a_frM, a_consM, a_tupM, a_lstM, mkT, mkL, a_boolE, evB, a_truE, truM, truSV, a_notM, a_notV, a_andM, a_orM, a_andV, a_orV, a_ifM, a_loM, evI, a_slM, a_setS, store, a_retS, retE, a_setG, a_seqS, a_ifS, retN, a_nxS, a_ite, a_itemsM, itemsOf, SV.dat, SV.asI, SV.asQ, a_enuM, enumM, oAdd, oSub, int1, oLt, oLe, oGt, oGe, List.getElem?_cons_zero, List.getElem?_cons_succ, List.set_cons_zero, List.set_cons_succ, lc, oTuple, forS_eq hi, h1, sz 0, sz 2]
/-! exactly -/
def exm (w : List Str) (x : Str) : Mb := if x ∈ w then .atom x else .neg (.atom x)
def exactly (w ws : List Str) : Mb := .grp true (ws.map (exm w))
theorem enc_exactly (w ws : List Str) : enc (exactly w ws) = .tuple [.str "all", .tuple (ws.map fun x => enc (exm w x))] := by
  rw [exactly, enc, encs_map, List.map_map]
  rfl
theorem law_exactly {w ws : List Str} (hw : Ws w) (hs : Ws ws) (hn : ws.length ≤ 8) : F__law_exactly [.im (wd w), .im (wd ws)] = some (.im (enc (exactly w ws)), [.im (wd w), .im (wd ws)]) := by
  have key := loop_fold (u := uName [0, 1] 3) (body := f__law_exactly_1) PyData.str (fun pre env => ∃ v, env = [.im (wd w), .im (wd ws), .mu (pre.map fun x => enc (exm w x)), v]) ws [] [.im (wd w), .im (wd ws), .mu [], .no] (fun p x q env e i => by
    obtain ⟨v, rfl⟩ := i
    have hp : p.length ≤ 100 := by
      have := congrArg List.length e
      rw [List.nil_append, List.length_append] at this
      omega
    have hx : strOk x = true := hs x (by rw [List.nil_append] at e; rw [e]; simp)
    refine ⟨[.im (wd w), .im (wd ws), .mu (p.map fun x => enc (exm w x)), .im (.str x)], [.im (wd w), .im (wd ws), .mu ((p ++ [x]).map fun x => enc (exm w x)), .im (.str x)], rfl, ?_, _, rfl⟩
    rw [List.map_append, List.map_singleton]
    by_cases h : x ∈ w
    · have e1 : enc (exm w x) = .tuple [.str "atom", .str x] := by rw [exm, if_pos h]; rfl
      rw [e1]
      simp [f__law_exactly_1, a_bind, a_ret, a_fVar, a_fC, a_op2, a_opN, a_op1, FN.view, views, frz, a_frM, a_consM, a_tupM, a_lstM, mkT, mkL, a_boolE, evB, a_truE, truM, truSV, a_notM, a_notV, a_andM, a_orM, a_andV, a_orV, a_ifM, a_loM, evI, a_slM, a_setS, store, a_retS, retE, a_setG, a_seqS, a_ifS, retN, a_nxS, a_ite, a_itemsM, itemsOf, SV.dat, SV.asI, SV.asQ, a_enuM, enumM, oAdd, oSub, int1, oLt, oLe, oGt, oGe, List.getElem?_cons_zero, List.getElem?_cons_succ, List.set_cons_zero, List.set_cons_succ, a_appS, oIn_wd hx hw, h, sz 2, szl p.length]
    · have e1 : enc (exm w x) = .tuple [.str "not", .tuple [.str "atom", .str x]] := by rw [exm, if_neg h]; rfl
      rw [e1]
      simp [f__law_exactly_1, a_bind, a_ret, a_fVar, a_fC, a_op2, a_opN, a_op1, FN.view, views, frz, a_frM, a_consM, a_tupM, a_lstM, mkT, mkL, a_boolE, evB, a_truE, truM, truSV, a_notM, a_notV, a_andM, a_orM, a_andV, a_orV, a_ifM, a_loM, evI, a_slM, a_setS, store, a_retS, retE, a_setG, a_seqS, a_ifS, retN, a_nxS, a_ite, a_itemsM, itemsOf, SV.dat, SV.asI, SV.asQ, a_enuM, enumM, oAdd, oSub, int1, oLt, oLe, oGt, oGe, List.getElem?_cons_zero, List.getElem?_cons_succ, List.set_cons_zero, List.set_cons_succ, a_appS, oIn_wd hx hw, h, sz 2, szl p.length]) ⟨_, rfl⟩
  obtain ⟨env2, h1, v, h2⟩ := key
  subst h2
  have hi : itemsM (frM (fVar 1)) [.im (wd w), .im (wd ws), .mu [], .no] = some (ws.map PyData.str, [.im (wd w), .im (wd ws), .mu [], .no]) := by simp [a_bind, a_ret, a_fVar, a_fC, a_op2, a_opN, a_op1, FN.view, views, frz, a_frM, a_consM, a_tupM, a_lstM, mkT, mkL, a_boolE, evB, a_truE, truM, truSV, a_notM, a_notV, a_andM, a_orM, a_andV, a_orV, a_ifM, a_loM, evI, a_slM, a_setS, store, a_retS, retE, a_setG, a_seqS, a_ifS, retN, a_nxS, a_ite, a_itemsM, itemsOf, SV.dat, SV.asI, SV.asQ, a_enuM, enumM, oAdd, oSub, int1, oLt, oLe, oGt, oGe, List.getElem?_cons_zero, List.getElem?_cons_succ, List.set_cons_zero, List.set_cons_succ]
  rw [enc_exactly]
  simp only [List.nil_append] at h1
  simp [F__law_exactly, fnOf, outs, rg1, rg2, rg3, rg4, rg5, isIm, f__law_exactly, a_bind, a_ret, a_fVar, a_fC, a_op2, a_opN, a_op1, FN.view, views, frz, a_frM, a_consM, a_tupM, a_lstM, mkT, mkL, a_boolE, evB, a_truE, truM, truSV, a_notM, a_notV, a_andM, a_orM, a_andV, a_orV, a_ifM, a_loM, evI, a_slM, a_setS, store, a_retS, retE, a_setG, a_seqS, a_ifS, retN, a_nxS, a_ite, a_itemsM, itemsOf, SV.dat, SV.asI, SV.asQ, a_enuM, enumM, oAdd, oSub, int1, oLt, oLe, oGt, oGe, List.getElem?_cons_zero, List.getElem?_cons_succ, List.set_cons_zero, List.set_cons_succ, oTuple, forS_eq hi, h1, sz 0, sz 2]
/-! worlds compared -/
theorem eqv_wds : ∀ a b : List Str, PyData.eqvAll (wds a) (wds b) = decide (a = b)
  | [], [] => by simp [PyData.eqvAll]
  | [], y :: b => by simp [PyData.eqvAll]
  | x :: a, [] => by simp [PyData.eqvAll]
  | x :: a, y :: b => by
    show PyData.eqvAll (.str x :: wds a) (.str y :: wds b) = _
    rw [PyData.eqvAll, PyData.eqv, eqv_wds a b]
    by_cases h : x = y
    · subst h; simp
    · have : (x == y) = false := by simpa using h
      rw [this]; simp [h]
theorem oNe_wd {a b : List Str} (ha : Ws a) (hb : Ws b) : oNe (.im (wd a)) (.im (wd b)) = some (.im (.bool (!decide (a = b)))) := by
  simp only [oNe, dat2, SV.dat]
  rw [sh_wd ha, sh_wd hb]
  simp [PyData.eqv, eqv_wds]
def below (lot : List (List Str)) (w : List Str) : List (List Str) := lot.filter fun v => !decide (v = w) && sub v w
def minl (lot : List (List Str)) : List (List Str) := lot.filter fun w => (below lot w).isEmpty
def aterm (w : List Str) : Mb := .grp true (w.map Mb.atom)
def lform (lot : List (List Str)) : Mb := .grp false ((minl lot).map aterm)
theorem enc_lform (lot : List (List Str)) : enc (lform lot) = .tuple [.str "some", .tuple ((minl lot).map fun w => enc (aterm w))] := by
  rw [lform, enc, encs_map, List.map_map]
  rfl
theorem lform_body {lot pre : List (List Str)} {w : List Str} {v3 : SV} (hl : ∀ v ∈ lot, Ws v) (hw : Ws w) (hn : lot.length ≤ 300) (hp : pre.length ≤ 300) (hs : w.length ≤ 8) : ∃ v4, f__law_form_4 [.im (.list (lot.map wd)), .mu (pre.map fun w => enc (aterm w)), .im (wd w), v3, .no, .no] =
    some (.nx, [.im (.list (lot.map wd)), .mu ((pre ++ if (below lot w).isEmpty = true then [w] else []).map fun w => enc (aterm w)), .im (wd w), v4, .no, .no]) := by
  have hi : itemsM (frM (fVar 0)) [.im (.list (lot.map wd)), .mu (pre.map fun w => enc (aterm w)), .im (wd w), v3, .no, .no] = some (lot.map wd, [.im (.list (lot.map wd)), .mu (pre.map fun w => enc (aterm w)), .im (wd w), v3, .no, .no]) := by simp [a_bind, a_ret, a_fVar, a_fC, a_op2, a_opN, a_op1, FN.view, views, frz, a_frM, a_consM, a_tupM, a_lstM, mkT, mkL, a_boolE, evB, a_truE, truM, truSV, a_notM, a_notV, a_andM, a_orM, a_andV, a_orV, a_ifM, a_loM, evI, a_slM, a_setS, store, a_retS, retE, a_setG, a_seqS, a_ifS, retN, a_nxS, a_ite, a_itemsM, itemsOf, SV.dat, SV.asI, SV.asQ, a_enuM, enumM, oAdd, oSub, int1, oLt, oLe, oGt, oGe, List.getElem?_cons_zero, List.getElem?_cons_succ, List.set_cons_zero, List.set_cons_succ]
  have lc := lcg_map (vs := [4]) (u := uName [0] 4) (test := f__law_form_2) (elt := f__law_form_3) wd (fun v => !decide (v = w) && sub v w) wd hi rfl (sz _) fun v hv => by
    have c : callM F__law_below [] (consM (fVar 4) (consM (fVar 2) (retM []))) [.im (.list (lot.map wd)), .mu (pre.map fun w => enc (aterm w)), .im (wd w), v3, .im (wd v), .no] = some (.im (.bool (sub v w)), [.im (.list (lot.map wd)), .mu (pre.map fun w => enc (aterm w)), .im (wd w), v3, .im (wd v), .no]) := call_im [wd v, wd w] (by simp [a_bind, a_ret, a_fVar, a_fC, a_op2, a_opN, a_op1, FN.view, views, frz, a_frM, a_consM, a_tupM, a_lstM, mkT, mkL, a_boolE, evB, a_truE, truM, truSV, a_notM, a_notV, a_andM, a_orM, a_andV, a_orV, a_ifM, a_loM, evI, a_slM, a_setS, store, a_retS, retE, a_setG, a_seqS, a_ifS, retN, a_nxS, a_ite, a_itemsM, itemsOf, SV.dat, SV.asI, SV.asQ, a_enuM, enumM, oAdd, oSub, int1, oLt, oLe, oGt, oGe, List.getElem?_cons_zero, List.getElem?_cons_succ, List.set_cons_zero, List.set_cons_succ]) (law_below (hl v hv) hw) im_ne
    refine ⟨_, rfl, ?_, fun _ => ?_, rfl⟩
    · by_cases h : v = w
      · subst h
        simp [f__law_form_2, a_bind, a_ret, a_fVar, a_fC, a_op2, a_opN, a_op1, FN.view, views, frz, a_frM, a_consM, a_tupM, a_lstM, mkT, mkL, a_boolE, evB, a_truE, truM, truSV, a_notM, a_notV, a_andM, a_orM, a_andV, a_orV, a_ifM, a_loM, evI, a_slM, a_setS, store, a_retS, retE, a_setG, a_seqS, a_ifS, retN, a_nxS, a_ite, a_itemsM, itemsOf, SV.dat, SV.asI, SV.asQ, a_enuM, enumM, oAdd, oSub, int1, oLt, oLe, oGt, oGe, List.getElem?_cons_zero, List.getElem?_cons_succ, List.set_cons_zero, List.set_cons_succ, wipeE, oNe_wd hw hw]
      · simp [f__law_form_2, a_bind, a_ret, a_fVar, a_fC, a_op2, a_opN, a_op1, FN.view, views, frz, a_frM, a_consM, a_tupM, a_lstM, mkT, mkL, a_boolE, evB, a_truE, truM, truSV, a_notM, a_notV, a_andM, a_orM, a_andV, a_orV, a_ifM, a_loM, evI, a_slM, a_setS, store, a_retS, retE, a_setG, a_seqS, a_ifS, retN, a_nxS, a_ite, a_itemsM, itemsOf, SV.dat, SV.asI, SV.asQ, a_enuM, enumM, oAdd, oSub, int1, oLt, oLe, oGt, oGe, List.getElem?_cons_zero, List.getElem?_cons_succ, List.set_cons_zero, List.set_cons_succ, wipeE, oNe_wd (hl v hv) hw, h, c]
    · simp [f__law_form_3, a_bind, a_ret, a_fVar, a_fC, a_op2, a_opN, a_op1, FN.view, views, frz, a_frM, a_consM, a_tupM, a_lstM, mkT, mkL, a_boolE, evB, a_truE, truM, truSV, a_notM, a_notV, a_andM, a_orM, a_andV, a_orV, a_ifM, a_loM, evI, a_slM, a_setS, store, a_retS, retE, a_setG, a_seqS, a_ifS, retN, a_nxS, a_ite, a_itemsM, itemsOf, SV.dat, SV.asI, SV.asQ, a_enuM, enumM, oAdd, oSub, int1, oLt, oLe, oGt, oGe, List.getElem?_cons_zero, List.getElem?_cons_succ, List.set_cons_zero, List.set_cons_succ, wipeE]
  have hlow : (below lot w).length ≤ 300 := Nat.le_trans (List.length_filter_le _ _) hn
  change lcM _ _ _ _ _ _ = some (.own ((below lot w).map wd), _) at lc
  cases q : below lot w with
  | nil =>
    rw [q] at lc
    have hi2 : itemsM (frM (fVar 2)) [.im (.list (lot.map wd)), .mu (pre.map fun w => enc (aterm w)), .im (wd w), .mu [], .no, .no] = some (w.map PyData.str, [.im (.list (lot.map wd)), .mu (pre.map fun w => enc (aterm w)), .im (wd w), .mu [], .no, .no]) := by simp [a_bind, a_ret, a_fVar, a_fC, a_op2, a_opN, a_op1, FN.view, views, frz, a_frM, a_consM, a_tupM, a_lstM, mkT, mkL, a_boolE, evB, a_truE, truM, truSV, a_notM, a_notV, a_andM, a_orM, a_andV, a_orV, a_ifM, a_loM, evI, a_slM, a_setS, store, a_retS, retE, a_setG, a_seqS, a_ifS, retN, a_nxS, a_ite, a_itemsM, itemsOf, SV.dat, SV.asI, SV.asQ, a_enuM, enumM, oAdd, oSub, int1, oLt, oLe, oGt, oGe, List.getElem?_cons_zero, List.getElem?_cons_succ, List.set_cons_zero, List.set_cons_succ]
    have lc2 := lcm_map (vs := [5]) (u := uName [0] 5) (elt := f__law_form_1) PyData.str (fun x => enc (.atom x)) hi2 rfl (sz _) fun x hx => ⟨_, rfl, by simp [f__law_form_1, a_bind, a_ret, a_fVar, a_fC, a_op2, a_opN, a_op1, FN.view, views, frz, a_frM, a_consM, a_tupM, a_lstM, mkT, mkL, a_boolE, evB, a_truE, truM, truSV, a_notM, a_notV, a_andM, a_orM, a_andV, a_orV, a_ifM, a_loM, evI, a_slM, a_setS, store, a_retS, retE, a_setG, a_seqS, a_ifS, retN, a_nxS, a_ite, a_itemsM, itemsOf, SV.dat, SV.asI, SV.asQ, a_enuM, enumM, oAdd, oSub, int1, oLt, oLe, oGt, oGe, List.getElem?_cons_zero, List.getElem?_cons_succ, List.set_cons_zero, List.set_cons_succ, wipeE, sz 2, enc], rfl⟩
    have e1 : enc (aterm w) = .tuple [.str "all", .tuple (w.map fun x => enc (.atom x))] := enc_term w
    refine ⟨.mu [], ?_⟩
    rw [List.isEmpty_nil, if_pos rfl, List.map_append, List.map_singleton, e1]
    simp [f__law_form_4, a_bind, a_ret, a_fVar, a_fC, a_op2, a_opN, a_op1, FN.view, views, frz, a_frM, a_consM, a_tupM, a_lstM, mkT, mkL, a_boolE, evB, a_truE, truM, truSV, a_notM, a_notV, a_andM, a_orM, a_andV, a_orV, a_ifM, a_loM, evI, a_slM, a_setS, store, a_retS, retE, a_setG, a_seqS, a_ifS, retN, a_nxS, a_ite, a_itemsM, itemsOf, SV.dat, SV.asI, SV.asQ, a_enuM, enumM, oAdd, oSub, int1, oLt, oLe, oGt, oGe, List.getElem?_cons_zero, List.getElem?_cons_succ, List.set_cons_zero, List.set_cons_succ, lc, oLen, oEq_dec, a_appS, lc2, oTuple, sz 2, szl pre.length]
  | cons a L =>
    rw [q] at lc
    refine ⟨.mu ((a :: L).map wd), ?_⟩
    have hz : ¬ ((L.length : Int) + 1 = 0) := by omega
    simp [f__law_form_4, a_bind, a_ret, a_fVar, a_fC, a_op2, a_opN, a_op1, FN.view, views, frz, a_frM, a_consM, a_tupM, a_lstM, mkT, mkL, a_boolE, evB, a_truE, truM, truSV, a_notM, a_notV, a_andM, a_orM, a_andV, a_orV, a_ifM, a_loM, evI, a_slM, a_setS, store, a_retS, retE, a_setG, a_seqS, a_ifS, retN, a_nxS, a_ite, a_itemsM, itemsOf, SV.dat, SV.asI, SV.asQ, a_enuM, enumM, oAdd, oSub, int1, oLt, oLe, oGt, oGe, List.getElem?_cons_zero, List.getElem?_cons_succ, List.set_cons_zero, List.set_cons_succ, lc, oLen, oEq_dec, hz]
theorem law_form {lot : List (List Str)} {sv : SV} (hsv : sv = .im (.list (lot.map wd)) ∨ sv = .mu (lot.map wd)) (hl : ∀ v ∈ lot, Ws v) (hn : lot.length ≤ 300) (hs : Sm lot) : F__law_form [sv] = some (.im (enc (lform lot)), [.im (.list (lot.map wd))]) := by
  have key := loop_fold (u := uName [0] 2) (body := f__law_form_4) wd (fun pre env => ∃ v v3, env = [.im (.list (lot.map wd)), .mu ((pre.filter fun w => (below lot w).isEmpty).map fun w => enc (aterm w)), v, v3, .no, .no]) lot [] [.im (.list (lot.map wd)), .mu [], .no, .no, .no, .no] (fun p w q env e i => by
    obtain ⟨v, v3, rfl⟩ := i
    have hwm : w ∈ lot := by rw [List.nil_append] at e; rw [e]; simp
    have hp : (p.filter fun w => (below lot w).isEmpty).length ≤ 300 := by
      have := congrArg List.length e
      rw [List.nil_append, List.length_append] at this
      have h2 := List.length_filter_le (fun w => (below lot w).isEmpty) p
      omega
    obtain ⟨v4, hb⟩ := lform_body (v3 := v3) hl (hl w hwm) hn hp (hs w hwm)
    refine ⟨_, _, rfl, hb, .im (wd w), v4, ?_⟩
    have ef : (p ++ [w]).filter (fun w => (below lot w).isEmpty) = p.filter (fun w => (below lot w).isEmpty) ++ if (below lot w).isEmpty = true then [w] else [] := by
      rw [List.filter_append]
      cases q : (below lot w).isEmpty <;> simp [List.filter, q]
    rw [ef]) ⟨_, _, rfl⟩
  obtain ⟨env2, h1, v, v3, h2⟩ := key
  subst h2
  rw [List.nil_append] at h1
  have e2 : (lot.filter fun w => (below lot w).isEmpty) = minl lot := rfl
  rw [e2] at h1
  rw [enc_lform]
  rcases hsv with rfl | rfl
  · have hi : itemsM (frM (fVar 0)) [.im (.list (lot.map wd)), .mu [], .no, .no, .no, .no] = some (lot.map wd, [.im (.list (lot.map wd)), .mu [], .no, .no, .no, .no]) := by simp [a_bind, a_ret, a_fVar, a_fC, a_op2, a_opN, a_op1, FN.view, views, frz, a_frM, a_consM, a_tupM, a_lstM, mkT, mkL, a_boolE, evB, a_truE, truM, truSV, a_notM, a_notV, a_andM, a_orM, a_andV, a_orV, a_ifM, a_loM, evI, a_slM, a_setS, store, a_retS, retE, a_setG, a_seqS, a_ifS, retN, a_nxS, a_ite, a_itemsM, itemsOf, SV.dat, SV.asI, SV.asQ, a_enuM, enumM, oAdd, oSub, int1, oLt, oLe, oGt, oGe, List.getElem?_cons_zero, List.getElem?_cons_succ, List.set_cons_zero, List.set_cons_succ]
    simp [F__law_form, fnOf, outs, rg1, rg2, rg3, rg4, rg5, isIm, f__law_form, a_bind, a_ret, a_fVar, a_fC, a_op2, a_opN, a_op1, FN.view, views, frz, a_frM, a_consM, a_tupM, a_lstM, mkT, mkL, a_boolE, evB, a_truE, truM, truSV, a_notM, a_notV, a_andM, a_orM, a_andV, a_orV, a_ifM, a_loM, evI, a_slM, a_setS, store, a_retS, retE, a_setG, a_seqS, a_ifS, retN, a_nxS, a_ite, a_itemsM, itemsOf, SV.dat, SV.asI, SV.asQ, a_enuM, enumM, oAdd, oSub, int1, oLt, oLe, oGt, oGe, List.getElem?_cons_zero, List.getElem?_cons_succ, List.set_cons_zero, List.set_cons_succ, oTuple, forS_eq hi, h1, sz 0, sz 2]
  · have hi : itemsM (frM (fVar 0)) [.mu (lot.map wd), .mu [], .no, .no, .no, .no] = some (lot.map wd, [.im (.list (lot.map wd)), .mu [], .no, .no, .no, .no]) := by simp [a_bind, a_ret, a_fVar, a_fC, a_op2, a_opN, a_op1, FN.view, views, frz, a_frM, a_consM, a_tupM, a_lstM, mkT, mkL, a_boolE, evB, a_truE, truM, truSV, a_notM, a_notV, a_andM, a_orM, a_andV, a_orV, a_ifM, a_loM, evI, a_slM, a_setS, store, a_retS, retE, a_setG, a_seqS, a_ifS, retN, a_nxS, a_ite, a_itemsM, itemsOf, SV.dat, SV.asI, SV.asQ, a_enuM, enumM, oAdd, oSub, int1, oLt, oLe, oGt, oGe, List.getElem?_cons_zero, List.getElem?_cons_succ, List.set_cons_zero, List.set_cons_succ]
    simp [F__law_form, fnOf, outs, rg1, rg2, rg3, rg4, rg5, isIm, f__law_form, a_bind, a_ret, a_fVar, a_fC, a_op2, a_opN, a_op1, FN.view, views, frz, a_frM, a_consM, a_tupM, a_lstM, mkT, mkL, a_boolE, evB, a_truE, truM, truSV, a_notM, a_notV, a_andM, a_orM, a_andV, a_orV, a_ifM, a_loM, evI, a_slM, a_setS, store, a_retS, retE, a_setG, a_seqS, a_ifS, retN, a_nxS, a_ite, a_itemsM, itemsOf, SV.dat, SV.asI, SV.asQ, a_enuM, enumM, oAdd, oSub, int1, oLt, oLe, oGt, oGe, List.getElem?_cons_zero, List.getElem?_cons_succ, List.set_cons_zero, List.set_cons_succ, oTuple, forS_eq hi, h1, sz 0, sz 2]
end K89

namespace K89
open PySem FN
open PySem.PyData (strOk)
/-! told -/
mutual
/-- formulas, members: well formed; no double not -/
def Wf : Mb → Prop
  | .atom n => Nm n
  | .neg m => False
  | .grp _ ms => Wfs ms
def Wfs : List Mb → Prop
  | [] => True
  | m :: ms => Wfm m ∧ Wfs ms
def Wfm : Mb → Prop
  | .atom n => Nm n
  | .neg m => Wf m
  | .grp _ ms => Wfs ms
end
theorem Wf.m : ∀ {m : Mb}, Wf m → Wfm m
  | .atom n, h => h
  | .neg m, h => h.elim
  | .grp b ms, h => h
theorem Wfs_mem : ∀ {ms : List Mb}, Wfs ms → ∀ m ∈ ms, Wfm m
  | m :: ms, h, x, hx => by
    rcases List.mem_cons.mp hx with rfl | hx
    · exact h.1
    · exact Wfs_mem h.2 x hx
theorem Wfs_of : ∀ {ms : List Mb}, (∀ m ∈ ms, Wfm m) → Wfs ms
  | [], _ => trivial
  | m :: ms, h => ⟨h m List.mem_cons_self, Wfs_of fun x hx => h x (List.mem_cons_of_mem _ hx)⟩
mutual
theorem Wf.ok : ∀ {m : Mb}, Wf m → Mok m
  | .atom n, h => Nm.ok h
  | .neg m, h => h.elim
  | .grp b ms, h => Wfs.ok h
theorem Wfs.ok : ∀ {ms : List Mb}, Wfs ms → Moks ms
  | [], _ => trivial
  | m :: ms, h => ⟨Wfm.ok h.1, Wfs.ok h.2⟩
theorem Wfm.ok : ∀ {m : Mb}, Wfm m → Mok m
  | .atom n, h => Nm.ok h
  | .neg m, h => Wf.ok (m := m) h
  | .grp b ms, h => Wfs.ok h
end
theorem isi_tup {ds : List PyData} : oIsi "tuple" (.im (.tuple ds)) = some (.im (.bool true)) := rfl
theorem isi_str {x : Str} : oIsi "str" (.im (.str x)) = some (.im (.bool true)) := rfl
theorem in_gname (b : Bool) : oInB true (.im (.str (gname b))) (.mu [.str "all", .str "some"]) = some (.im (.bool false)) := by
  have h1 : strOk (gname b) = true := gname_ok b
  have h2 : Ws ["all", "some"] := fun x hx => by
    rcases List.mem_cons.mp hx with rfl | hx
    · exact ok_all
    · rw [List.mem_singleton.mp hx]; exact ok_some
  have h3 : decide (gname b ∈ (["all", "some"] : List Str)) = true := by cases b <;> decide +kernel
  show (if (SeqAt.shaped (.str (gname b)) && SeqAt.shaped (.list (wds ["all", "some"]))) = true then some (EV.im (.bool (if true = true then !inD (.str (gname b)) (wds ["all", "some"]) else inD (.str (gname b)) (wds ["all", "some"])))) else none) = _
  rw [sh_str h1, sh_wds h2, Bool.true_and, if_pos rfl, inD_str, h3]
  rfl
theorem is_formula : ∀ (n : Nat) (m : Mb), dep m ≤ n → Wf m → F__law_is_formula n [.im (enc m)] = some (.im (.bool true), [.im (enc m)])
  | 0, m, h, _ => by cases m <;> simp [dep] at h
  | n + 1, .atom a, h, hm => by
    have hm : Nm a := hm
    have c : callM F__law_is_name [] (consM (op2 (fVar 0) (fC (.int 1)) oIx) (retM [])) [.im (.tuple [.str "atom", .str a]), .no] = some (.im (.bool true), [.im (.tuple [.str "atom", .str a]), .no]) := call_im [.str a] (by simp [a_bind, a_ret, a_fVar, a_fC, a_op2, a_opN, a_op1, FN.view, views, frz, a_frM, a_consM, a_tupM, a_lstM, mkT, mkL, a_boolE, evB, a_truE, truM, truSV, a_notM, a_notV, a_andM, a_orM, a_andV, a_orV, a_ifM, a_loM, evI, a_slM, a_setS, store, a_retS, retE, a_setG, a_seqS, a_ifS, retN, a_nxS, a_ite, a_itemsM, itemsOf, SV.dat, SV.asI, SV.asQ, a_enuM, enumM, oAdd, oSub, int1, oLt, oLe, oGt, oGe, List.getElem?_cons_zero, List.getElem?_cons_succ, List.set_cons_zero, List.set_cons_succ, oIx1]) (law_is_name hm) im_ne
    have e : enc (.atom a) = .tuple [.str "atom", .str a] := rfl
    rw [e]
    simp [F__law_is_formula, fnOf, outs, rg1, rg2, rg3, rg4, rg5, isIm, f__law_is_formula, a_bind, a_ret, a_fVar, a_fC, a_op2, a_opN, a_op1, FN.view, views, frz, a_frM, a_consM, a_tupM, a_lstM, mkT, mkL, a_boolE, evB, a_truE, truM, truSV, a_notM, a_notV, a_andM, a_orM, a_andV, a_orV, a_ifM, a_loM, evI, a_slM, a_setS, store, a_retS, retE, a_setG, a_seqS, a_ifS, retN, a_nxS, a_ite, a_itemsM, itemsOf, SV.dat, SV.asI, SV.asQ, a_enuM, enumM, oAdd, oSub, int1, oLt, oLe, oGt, oGe, List.getElem?_cons_zero, List.getElem?_cons_succ, List.set_cons_zero, List.set_cons_succ, isi_tup, isi_str, oLen, oNe_dec, oIx0, oEq_str, ok_atom, s_atom_atom, c]
  | n + 1, .neg m, h, hm => hm.elim
  | n + 1, .grp b ms, h, hm => by
    have hm : Wfs ms := hm
    have e : enc (.grp b ms) = .tuple [.str (gname b), .tuple (encs ms)] := rfl
    rw [e]
    generalize hE : PyData.tuple [.str (gname b), .tuple (encs ms)] = E
    have hi : itemsM (frM (op2 (fVar 0) (fC (.int 1)) oIx)) [.im E, .no] = some (ms.map enc, [.im E, .no]) := by subst hE; simp [a_bind, a_ret, a_fVar, a_fC, a_op2, a_opN, a_op1, FN.view, views, frz, a_frM, a_consM, a_tupM, a_lstM, mkT, mkL, a_boolE, evB, a_truE, truM, truSV, a_notM, a_notV, a_andM, a_orM, a_andV, a_orV, a_ifM, a_loM, evI, a_slM, a_setS, store, a_retS, retE, a_setG, a_seqS, a_ifS, retN, a_nxS, a_ite, a_itemsM, itemsOf, SV.dat, SV.asI, SV.asQ, a_enuM, enumM, oAdd, oSub, int1, oLt, oLe, oGt, oGe, List.getElem?_cons_zero, List.getElem?_cons_succ, List.set_cons_zero, List.set_cons_succ, oIx1, encs_map]
    have key := loop_map (u := uName [0] 1) (body := f__law_is_formula_1 (F__law_is_formula n)) (ev := .im (.bool false)) (I := fun env => ∃ v, env = [.im E, v]) (J := fun env => ∃ v, env = [.im E, v]) enc (fun _ => true) ms [.im E, .no] (fun m hx env he => by
      obtain ⟨v, rfl⟩ := he
      have hw := Wfs_mem hm m hx
      have hd := deps_mem hx
      have hd2 : deps ms ≤ n := by simp only [dep] at h; omega
      refine ⟨[.im E, .im (enc m)], rfl, .inl ⟨rfl, [.im E, .im (enc m)], ?_, _, rfl⟩⟩
      cases m with
      | neg k =>
        have c : callM (F__law_is_formula n) [] (consM (op2 (fVar 1) (fC (.int 1)) oIx) (retM [])) [.im E, .im (.tuple [.str "not", enc k])] = some (.im (.bool true), [.im E, .im (.tuple [.str "not", enc k])]) := call_im [enc k] (by simp [a_bind, a_ret, a_fVar, a_fC, a_op2, a_opN, a_op1, FN.view, views, frz, a_frM, a_consM, a_tupM, a_lstM, mkT, mkL, a_boolE, evB, a_truE, truM, truSV, a_notM, a_notV, a_andM, a_orM, a_andV, a_orV, a_ifM, a_loM, evI, a_slM, a_setS, store, a_retS, retE, a_setG, a_seqS, a_ifS, retN, a_nxS, a_ite, a_itemsM, itemsOf, SV.dat, SV.asI, SV.asQ, a_enuM, enumM, oAdd, oSub, int1, oLt, oLe, oGt, oGe, List.getElem?_cons_zero, List.getElem?_cons_succ, List.set_cons_zero, List.set_cons_succ, oIx1]) (is_formula n k (by simp only [dep] at hd; omega) hw) im_ne
        have e2 : enc (.neg k) = .tuple [.str "not", enc k] := rfl
        rw [e2]
        simp [f__law_is_formula_1, a_bind, a_ret, a_fVar, a_fC, a_op2, a_opN, a_op1, FN.view, views, frz, a_frM, a_consM, a_tupM, a_lstM, mkT, mkL, a_boolE, evB, a_truE, truM, truSV, a_notM, a_notV, a_andM, a_orM, a_andV, a_orV, a_ifM, a_loM, evI, a_slM, a_setS, store, a_retS, retE, a_setG, a_seqS, a_ifS, retN, a_nxS, a_ite, a_itemsM, itemsOf, SV.dat, SV.asI, SV.asQ, a_enuM, enumM, oAdd, oSub, int1, oLt, oLe, oGt, oGe, List.getElem?_cons_zero, List.getElem?_cons_succ, List.set_cons_zero, List.set_cons_succ, isi_tup, oLen, oNe_dec, oIx0, oEq_str, ok_not, s_not_not, c]
      | atom a =>
        have c : callM (F__law_is_formula n) [] (consM (fVar 1) (retM [])) [.im E, .im (.tuple [.str "atom", .str a])] = some (.im (.bool true), [.im E, .im (.tuple [.str "atom", .str a])]) := call_im [enc (.atom a)] (by simp [a_bind, a_ret, a_fVar, a_fC, a_op2, a_opN, a_op1, FN.view, views, frz, a_frM, a_consM, a_tupM, a_lstM, mkT, mkL, a_boolE, evB, a_truE, truM, truSV, a_notM, a_notV, a_andM, a_orM, a_andV, a_orV, a_ifM, a_loM, evI, a_slM, a_setS, store, a_retS, retE, a_setG, a_seqS, a_ifS, retN, a_nxS, a_ite, a_itemsM, itemsOf, SV.dat, SV.asI, SV.asQ, a_enuM, enumM, oAdd, oSub, int1, oLt, oLe, oGt, oGe, List.getElem?_cons_zero, List.getElem?_cons_succ, List.set_cons_zero, List.set_cons_succ, enc]) (is_formula n (.atom a) (by omega) hw) im_ne
        have e2 : enc (.atom a) = .tuple [.str "atom", .str a] := rfl
        have e3 : (("atom" : Str) == "not") = false := by decide +kernel
        rw [e2]
        simp [f__law_is_formula_1, a_bind, a_ret, a_fVar, a_fC, a_op2, a_opN, a_op1, FN.view, views, frz, a_frM, a_consM, a_tupM, a_lstM, mkT, mkL, a_boolE, evB, a_truE, truM, truSV, a_notM, a_notV, a_andM, a_orM, a_andV, a_orV, a_ifM, a_loM, evI, a_slM, a_setS, store, a_retS, retE, a_setG, a_seqS, a_ifS, retN, a_nxS, a_ite, a_itemsM, itemsOf, SV.dat, SV.asI, SV.asQ, a_enuM, enumM, oAdd, oSub, int1, oLt, oLe, oGt, oGe, List.getElem?_cons_zero, List.getElem?_cons_succ, List.set_cons_zero, List.set_cons_succ, isi_tup, oLen, oNe_dec, oIx0, oEq_str, ok_not, ok_atom, e3, c]
      | grp b2 ms2 =>
        have c : callM (F__law_is_formula n) [] (consM (fVar 1) (retM [])) [.im E, .im (.tuple [.str (gname b2), .tuple (encs ms2)])] = some (.im (.bool true), [.im E, .im (.tuple [.str (gname b2), .tuple (encs ms2)])]) := call_im [enc (.grp b2 ms2)] (by simp [a_bind, a_ret, a_fVar, a_fC, a_op2, a_opN, a_op1, FN.view, views, frz, a_frM, a_consM, a_tupM, a_lstM, mkT, mkL, a_boolE, evB, a_truE, truM, truSV, a_notM, a_notV, a_andM, a_orM, a_andV, a_orV, a_ifM, a_loM, evI, a_slM, a_setS, store, a_retS, retE, a_setG, a_seqS, a_ifS, retN, a_nxS, a_ite, a_itemsM, itemsOf, SV.dat, SV.asI, SV.asQ, a_enuM, enumM, oAdd, oSub, int1, oLt, oLe, oGt, oGe, List.getElem?_cons_zero, List.getElem?_cons_succ, List.set_cons_zero, List.set_cons_succ, enc]) (is_formula n (.grp b2 ms2) (by omega) hw) im_ne
        have e2 : enc (.grp b2 ms2) = .tuple [.str (gname b2), .tuple (encs ms2)] := rfl
        rw [e2]
        simp [f__law_is_formula_1, a_bind, a_ret, a_fVar, a_fC, a_op2, a_opN, a_op1, FN.view, views, frz, a_frM, a_consM, a_tupM, a_lstM, mkT, mkL, a_boolE, evB, a_truE, truM, truSV, a_notM, a_notV, a_andM, a_orM, a_andV, a_orV, a_ifM, a_loM, evI, a_slM, a_setS, store, a_retS, retE, a_setG, a_seqS, a_ifS, retN, a_nxS, a_ite, a_itemsM, itemsOf, SV.dat, SV.asI, SV.asQ, a_enuM, enumM, oAdd, oSub, int1, oLt, oLe, oGt, oGe, List.getElem?_cons_zero, List.getElem?_cons_succ, List.set_cons_zero, List.set_cons_succ, isi_tup, oLen, oNe_dec, oIx0, oEq_str, ok_not, gname_ok, gname_not, c]) ⟨_, rfl⟩
    rcases key with ⟨_, env2, h2, v, rfl⟩ | ⟨h1, _⟩
    · subst hE
      simp [F__law_is_formula, fnOf, outs, rg1, rg2, rg3, rg4, rg5, isIm, f__law_is_formula, a_bind, a_ret, a_fVar, a_fC, a_op2, a_opN, a_op1, FN.view, views, frz, a_frM, a_consM, a_tupM, a_lstM, mkT, mkL, a_boolE, evB, a_truE, truM, truSV, a_notM, a_notV, a_andM, a_orM, a_andV, a_orV, a_ifM, a_loM, evI, a_slM, a_setS, store, a_retS, retE, a_setG, a_seqS, a_ifS, retN, a_nxS, a_ite, a_itemsM, itemsOf, SV.dat, SV.asI, SV.asQ, a_enuM, enumM, oAdd, oSub, int1, oLt, oLe, oGt, oGe, List.getElem?_cons_zero, List.getElem?_cons_succ, List.set_cons_zero, List.set_cons_succ, isi_tup, isi_str, oLen, oNe_dec, oIx0, oIx1, oEq_str, ok_atom, gname_ok, gname_atom, in_gname, sz 2, forS_eq hi, h2]
    · simp at h1
/-! positive -/
theorem law_positive_form (n : Nat) (lot : List (List Str)) : F__law_positive (n + 3) [.im (enc (lform lot))] = some (.im (.bool true), [.im (enc (lform lot))]) := by
  have at1 : ∀ (k : Nat) (x : Str), F__law_positive (k + 1) [.im (enc (.atom x))] = some (.im (.bool true), [.im (enc (.atom x))]) := fun k x => by
    have e : enc (.atom x) = .tuple [.str "atom", .str x] := rfl
    rw [e]
    simp [F__law_positive, fnOf, outs, rg1, rg2, rg3, rg4, rg5, isIm, f__law_positive, a_bind, a_ret, a_fVar, a_fC, a_op2, a_opN, a_op1, FN.view, views, frz, a_frM, a_consM, a_tupM, a_lstM, mkT, mkL, a_boolE, evB, a_truE, truM, truSV, a_notM, a_notV, a_andM, a_orM, a_andV, a_orV, a_ifM, a_loM, evI, a_slM, a_setS, store, a_retS, retE, a_setG, a_seqS, a_ifS, retN, a_nxS, a_ite, a_itemsM, itemsOf, SV.dat, SV.asI, SV.asQ, a_enuM, enumM, oAdd, oSub, int1, oLt, oLe, oGt, oGe, List.getElem?_cons_zero, List.getElem?_cons_succ, List.set_cons_zero, List.set_cons_succ, oIx0, oEq_str, ok_atom, s_atom_atom]
  have grp : ∀ (k : Nat) (b : Bool) (ms : List Mb), (∀ m ∈ ms, F__law_positive k [.im (enc m)] = some (.im (.bool true), [.im (enc m)])) → F__law_positive (k + 1) [.im (enc (.grp b ms))] = some (.im (.bool true), [.im (enc (.grp b ms))]) := fun k b ms ih => by
    have e : enc (.grp b ms) = .tuple [.str (gname b), .tuple (encs ms)] := rfl
    rw [e]
    generalize hE : PyData.tuple [.str (gname b), .tuple (encs ms)] = E
    have hi : itemsM (frM (op2 (fVar 0) (fC (.int 1)) oIx)) [.im E, .no] = some (ms.map enc, [.im E, .no]) := by subst hE; simp [a_bind, a_ret, a_fVar, a_fC, a_op2, a_opN, a_op1, FN.view, views, frz, a_frM, a_consM, a_tupM, a_lstM, mkT, mkL, a_boolE, evB, a_truE, truM, truSV, a_notM, a_notV, a_andM, a_orM, a_andV, a_orV, a_ifM, a_loM, evI, a_slM, a_setS, store, a_retS, retE, a_setG, a_seqS, a_ifS, retN, a_nxS, a_ite, a_itemsM, itemsOf, SV.dat, SV.asI, SV.asQ, a_enuM, enumM, oAdd, oSub, int1, oLt, oLe, oGt, oGe, List.getElem?_cons_zero, List.getElem?_cons_succ, List.set_cons_zero, List.set_cons_succ, oIx1, encs_map]
    have key := loop_map (u := uName [0] 1) (body := f__law_positive_1 (F__law_positive k)) (ev := .im (.bool false)) (I := fun env => ∃ v, env = [.im E, v]) (J := fun env => ∃ v, env = [.im E, v]) enc (fun _ => true) ms [.im E, .no] (fun m hx env he => by
      obtain ⟨v, rfl⟩ := he
      refine ⟨[.im E, .im (enc m)], rfl, .inl ⟨rfl, [.im E, .im (enc m)], ?_, _, rfl⟩⟩
      have c : callM (F__law_positive k) [] (consM (fVar 1) (retM [])) [.im E, .im (enc m)] = some (.im (.bool true), [.im E, .im (enc m)]) := call_im [enc m] (by simp [a_bind, a_ret, a_fVar, a_fC, a_op2, a_opN, a_op1, FN.view, views, frz, a_frM, a_consM, a_tupM, a_lstM, mkT, mkL, a_boolE, evB, a_truE, truM, truSV, a_notM, a_notV, a_andM, a_orM, a_andV, a_orV, a_ifM, a_loM, evI, a_slM, a_setS, store, a_retS, retE, a_setG, a_seqS, a_ifS, retN, a_nxS, a_ite, a_itemsM, itemsOf, SV.dat, SV.asI, SV.asQ, a_enuM, enumM, oAdd, oSub, int1, oLt, oLe, oGt, oGe, List.getElem?_cons_zero, List.getElem?_cons_succ, List.set_cons_zero, List.set_cons_succ]) (ih m hx) im_ne
      simp [f__law_positive_1, a_bind, a_ret, a_fVar, a_fC, a_op2, a_opN, a_op1, FN.view, views, frz, a_frM, a_consM, a_tupM, a_lstM, mkT, mkL, a_boolE, evB, a_truE, truM, truSV, a_notM, a_notV, a_andM, a_orM, a_andV, a_orV, a_ifM, a_loM, evI, a_slM, a_setS, store, a_retS, retE, a_setG, a_seqS, a_ifS, retN, a_nxS, a_ite, a_itemsM, itemsOf, SV.dat, SV.asI, SV.asQ, a_enuM, enumM, oAdd, oSub, int1, oLt, oLe, oGt, oGe, List.getElem?_cons_zero, List.getElem?_cons_succ, List.set_cons_zero, List.set_cons_succ, c]) ⟨_, rfl⟩
    rcases key with ⟨_, env2, h2, v, rfl⟩ | ⟨h1, _⟩
    · subst hE
      simp [F__law_positive, fnOf, outs, rg1, rg2, rg3, rg4, rg5, isIm, f__law_positive, a_bind, a_ret, a_fVar, a_fC, a_op2, a_opN, a_op1, FN.view, views, frz, a_frM, a_consM, a_tupM, a_lstM, mkT, mkL, a_boolE, evB, a_truE, truM, truSV, a_notM, a_notV, a_andM, a_orM, a_andV, a_orV, a_ifM, a_loM, evI, a_slM, a_setS, store, a_retS, retE, a_setG, a_seqS, a_ifS, retN, a_nxS, a_ite, a_itemsM, itemsOf, SV.dat, SV.asI, SV.asQ, a_enuM, enumM, oAdd, oSub, int1, oLt, oLe, oGt, oGe, List.getElem?_cons_zero, List.getElem?_cons_succ, List.set_cons_zero, List.set_cons_succ, oIx0, oIx1, oEq_str, ok_atom, ok_not, gname_ok, gname_atom, gname_not, forS_eq hi, h2]
    · simp at h1
  refine grp (n + 2) false _ fun m hm => ?_
  obtain ⟨w, _, rfl⟩ := List.mem_map.mp hm
  refine grp (n + 1) true _ fun m hm => ?_
  obtain ⟨x, _, rfl⟩ := List.mem_map.mp hm
  exact at1 n x
/-! told -/
theorem oEq_enc {m : Mb} (h : Mok m) (hd : dep m ≤ 32) : oEq (.im (enc m)) (.im (enc m)) = some (.im (.bool true)) := by
  simp only [oEq, dat2, SV.dat]
  rw [sh_enc h hd, SeqAt.eqv_refl _ (lay_enc h)]
  rfl
theorem told_formula {m : Mb} (h : Wf m) (hd : dep m ≤ 32) : F__law_told_formula [.im (enc m), .im (enc m)] = some (.im (.bool true), [.im (enc m), .im (enc m)]) := by
  have c : callM (F__law_is_formula fuel) [] (consM (fVar 0) (retM [])) [.im (enc m), .im (enc m)] = some (.im (.bool true), [.im (enc m), .im (enc m)]) := call_im [enc m] (by simp [a_bind, a_ret, a_fVar, a_fC, a_op2, a_opN, a_op1, FN.view, views, frz, a_frM, a_consM, a_tupM, a_lstM, mkT, mkL, a_boolE, evB, a_truE, truM, truSV, a_notM, a_notV, a_andM, a_orM, a_andV, a_orV, a_ifM, a_loM, evI, a_slM, a_setS, store, a_retS, retE, a_setG, a_seqS, a_ifS, retN, a_nxS, a_ite, a_itemsM, itemsOf, SV.dat, SV.asI, SV.asQ, a_enuM, enumM, oAdd, oSub, int1, oLt, oLe, oGt, oGe, List.getElem?_cons_zero, List.getElem?_cons_succ, List.set_cons_zero, List.set_cons_succ]) (is_formula fuel m (by rw [fuel_eq]; omega) h) im_ne
  have he := oEq_enc h.ok hd
  generalize enc m = E at c he ⊢
  simp [F__law_told_formula, fnOf, outs, rg1, rg2, rg3, rg4, rg5, isIm, f__law_told_formula, a_bind, a_ret, a_fVar, a_fC, a_op2, a_opN, a_op1, FN.view, views, frz, a_frM, a_consM, a_tupM, a_lstM, mkT, mkL, a_boolE, evB, a_truE, truM, truSV, a_notM, a_notV, a_andM, a_orM, a_andV, a_orV, a_ifM, a_loM, evI, a_slM, a_setS, store, a_retS, retE, a_setG, a_seqS, a_ifS, retN, a_nxS, a_ite, a_itemsM, itemsOf, SV.dat, SV.asI, SV.asQ, a_enuM, enumM, oAdd, oSub, int1, oLt, oLe, oGt, oGe, List.getElem?_cons_zero, List.getElem?_cons_succ, List.set_cons_zero, List.set_cons_succ, c, he]
theorem told_row {l : List Mb} (h : ∀ m ∈ l, Wf m ∧ dep m ≤ 32) (hn : l.length ≤ 100) : F__law_told_row [.im (fms l), .im (fms l)] = some (.im (.bool true), [.im (fms l), .im (fms l)]) := by
  have hi : rng1 (opN (consM (fVar 1) (retM [])) oLen) [.im (fms l), .im (fms l), .no] = some ((List.range l.length).map iD, [.im (fms l), .im (fms l), .no]) := rng1_eq (by simp [a_bind, a_ret, a_fVar, a_fC, a_op2, a_opN, a_op1, FN.view, views, frz, a_frM, a_consM, a_tupM, a_lstM, mkT, mkL, a_boolE, evB, a_truE, truM, truSV, a_notM, a_notV, a_andM, a_orM, a_andV, a_orV, a_ifM, a_loM, evI, a_slM, a_setS, store, a_retS, retE, a_setG, a_seqS, a_ifS, retN, a_nxS, a_ite, a_itemsM, itemsOf, SV.dat, SV.asI, SV.asQ, a_enuM, enumM, oAdd, oSub, int1, oLt, oLe, oGt, oGe, List.getElem?_cons_zero, List.getElem?_cons_succ, List.set_cons_zero, List.set_cons_succ, oLen]) (by omega)
  have key := loop_map (u := uName [0, 1] 2) (body := f__law_told_row_1) (ev := .im (.bool false)) (I := fun env => ∃ v, env = [.im (fms l), .im (fms l), v]) (J := fun env => ∃ v, env = [.im (fms l), .im (fms l), v]) iD (fun _ => true) (List.range l.length) [.im (fms l), .im (fms l), .no] (fun i hx env he => by
    obtain ⟨v, rfl⟩ := he
    have hx : i < l.length := List.mem_range.mp hx
    have ix := ixT (f := enc) hx
    obtain ⟨h1, h2⟩ := h _ (List.getElem_mem hx)
    refine ⟨[.im (fms l), .im (fms l), .im (iD i)], rfl, .inl ⟨rfl, [.im (fms l), .im (fms l), .im (iD i)], ?_, _, rfl⟩⟩
    have c : callM F__law_told_formula [] (consM (op2 (fVar 0) (fVar 2) oIx) (consM (op2 (fVar 1) (fVar 2) oIx) (retM []))) [.im (fms l), .im (fms l), .im (iD i)] = some (.im (.bool true), [.im (fms l), .im (fms l), .im (iD i)]) := call_im [enc l[i], enc l[i]] (by simp [a_bind, a_ret, a_fVar, a_fC, a_op2, a_opN, a_op1, FN.view, views, frz, a_frM, a_consM, a_tupM, a_lstM, mkT, mkL, a_boolE, evB, a_truE, truM, truSV, a_notM, a_notV, a_andM, a_orM, a_andV, a_orV, a_ifM, a_loM, evI, a_slM, a_setS, store, a_retS, retE, a_setG, a_seqS, a_ifS, retN, a_nxS, a_ite, a_itemsM, itemsOf, SV.dat, SV.asI, SV.asQ, a_enuM, enumM, oAdd, oSub, int1, oLt, oLe, oGt, oGe, List.getElem?_cons_zero, List.getElem?_cons_succ, List.set_cons_zero, List.set_cons_succ, ix]) (told_formula h1 h2) im_ne
    simp [f__law_told_row_1, a_bind, a_ret, a_fVar, a_fC, a_op2, a_opN, a_op1, FN.view, views, frz, a_frM, a_consM, a_tupM, a_lstM, mkT, mkL, a_boolE, evB, a_truE, truM, truSV, a_notM, a_notV, a_andM, a_orM, a_andV, a_orV, a_ifM, a_loM, evI, a_slM, a_setS, store, a_retS, retE, a_setG, a_seqS, a_ifS, retN, a_nxS, a_ite, a_itemsM, itemsOf, SV.dat, SV.asI, SV.asQ, a_enuM, enumM, oAdd, oSub, int1, oLt, oLe, oGt, oGe, List.getElem?_cons_zero, List.getElem?_cons_succ, List.set_cons_zero, List.set_cons_succ, c]) ⟨_, rfl⟩
  rcases key with ⟨_, env2, h2, v, rfl⟩ | ⟨h1, _⟩
  · simp [F__law_told_row, fnOf, outs, rg1, rg2, rg3, rg4, rg5, isIm, f__law_told_row, a_bind, a_ret, a_fVar, a_fC, a_op2, a_opN, a_op1, FN.view, views, frz, a_frM, a_consM, a_tupM, a_lstM, mkT, mkL, a_boolE, evB, a_truE, truM, truSV, a_notM, a_notV, a_andM, a_orM, a_andV, a_orV, a_ifM, a_loM, evI, a_slM, a_setS, store, a_retS, retE, a_setG, a_seqS, a_ifS, retN, a_nxS, a_ite, a_itemsM, itemsOf, SV.dat, SV.asI, SV.asQ, a_enuM, enumM, oAdd, oSub, int1, oLt, oLe, oGt, oGe, List.getElem?_cons_zero, List.getElem?_cons_succ, List.set_cons_zero, List.set_cons_succ, isi_tup, oLen, oNe_dec, forS_eq hi, h2]
  · simp at h1
end K89

namespace K89
open PySem FN
open PySem.PyData (strOk)
theorem worlds_nodup {ws : List Str} (h : ws.Nodup) : (worlds ws).Nodup := by
  have go : ∀ (l : List Str) (f : List (List Str)), f.Nodup → l.Nodup → (∀ w ∈ f, ∀ x ∈ l, x ∉ w) → (l.foldl grow f).Nodup := fun l => by
    induction l with
    | nil => intro f hf _ _; exact hf
    | cons x l ih =>
      intro f hf hl hx
      have hl' := List.nodup_cons.mp hl
      refine ih _ ?_ hl'.2 fun w hw y hy => ?_
      · unfold grow
        rw [List.nodup_append]
        refine ⟨hf, ?_, fun a ha b hb e => ?_⟩
        · have : ∀ (g : List (List Str)), g.Nodup → (g.map (· ++ [x])).Nodup := fun g => by
            induction g with
            | nil => intro _; exact List.nodup_nil
            | cons a g ihg =>
              intro hg
              have hg := List.nodup_cons.mp hg
              rw [List.map_cons, List.nodup_cons]
              refine ⟨fun hm => ?_, ihg hg.2⟩
              obtain ⟨b, hb, e⟩ := List.mem_map.mp hm
              exact hg.1 (by rw [← List.append_cancel_right e]; exact hb)
          exact this f hf
        · obtain ⟨c, hc, rfl⟩ := List.mem_map.mp hb
          exact hx a ha x List.mem_cons_self (by rw [e]; simp)
      · unfold grow at hw
        rcases List.mem_append.mp hw with hw | hw
        · exact hx w hw y (List.mem_cons_of_mem _ hy)
        · obtain ⟨c, hc, rfl⟩ := List.mem_map.mp hw
          intro hm
          rcases List.mem_append.mp hm with hm | hm
          · exact hx c hc y (List.mem_cons_of_mem _ hy) hm
          · exact hl'.1 (by rw [← List.mem_singleton.mp hm]; exact hy)
  exact go ws [[]] (by simp) h fun w hw x _ => by rw [List.mem_singleton.mp hw]; intro z; cases z
theorem idx_nodup {α : Type} [BEq α] [LawfulBEq α] {l : List α} (h : l.Nodup) {i : Nat} (hi : i < l.length) : l.idxOf l[i] = i := by
  have h1 : l.idxOf l[i] < l.length := List.idxOf_lt_length_of_mem (List.getElem_mem hi)
  have h2 : l[l.idxOf l[i]] = l[i] := List.getElem_idxOf h1
  exact (List.getElem_inj h).mp h2
/-- the world's bit -/
def sel (ws : List Str) (bits : List Int) (w : List Str) : Bool := decide (bits.getD ((worlds ws).idxOf w) 0 = 1)
def inLot (ws : List Str) (bits : List Int) (m : Nat) (w : List Str) : Bool := decide (m < w.length) || (decide (w.length = m) && sel ws bits w)
def lotB (ws : List Str) (bits : List Int) (m : Nat) : List (List Str) := (worlds ws).filter (inLot ws bits m)
abbrev lst (l : List (List Str)) : PyData := .list (l.map wd)
theorem take_filter {α : Type} {l : List α} {p : α → Bool} {k : Nat} (h : k < l.length) : (l.take (k + 1)).filter p = (l.take k).filter p ++ if p l[k] = true then [l[k]] else [] := by
  rw [List.take_succ, List.getElem?_eq_getElem h, List.filter_append]
  show _ ++ [l[k]].filter p = _
  cases q : p l[k] <;> simp [List.filter, q]
theorem law_lots {ws : List Str} {bits : List Int} (hw : Nms ws) (hd : ws.Nodup) (hl : ws.length ≤ 4) (hb : bits.length = 16) : F__law_lots [.im (wd ws), .mu (bits.map PyData.int)] = some (.own ((List.range (ws.length + 1)).map fun m => lst (lotB ws bits m)), [.im (wd ws), .mu (bits.map PyData.int)]) := by
  have hle := worlds_le hl
  have nd := worlds_nodup hd
  generalize hB : bits.map PyData.int = B
  generalize hW : (worlds ws).map wd = W
  have c : callM F__law_all [] (consM (fVar 0) (retM [])) [.im (wd ws), .mu B, .no, .no, .no, .no, .no] = some (.own W, [.im (wd ws), .mu B, .no, .no, .no, .no, .no]) := by subst hW; exact call_im [wd ws] (by simp [a_bind, a_ret, a_fVar, a_fC, a_op2, a_opN, a_op1, FN.view, views, frz, a_frM, a_consM, a_tupM, a_lstM, mkT, mkL, a_boolE, evB, a_truE, truM, truSV, a_notM, a_notV, a_andM, a_orM, a_andV, a_orV, a_ifM, a_loM, evI, a_slM, a_setS, store, a_retS, retE, a_setG, a_seqS, a_ifS, retN, a_nxS, a_ite, a_itemsM, itemsOf, SV.dat, SV.asI, SV.asQ, a_enuM, enumM, oAdd, oSub, int1, oLt, oLe, oGt, oGe, List.getElem?_cons_zero, List.getElem?_cons_succ, List.set_cons_zero, List.set_cons_succ]) (law_all (by omega)) own_ne
  have inner : ∀ (m : Nat) (acc : List PyData) (v : SV), ∃ v6, loopS (uName [0, 1] 6) f__law_lots_1 ((List.range (worlds ws).length).map iD) [.im (wd ws), .mu B, .mu W, .mu acc, .im (iD m), .mu [], v] = some (.nx, [.im (wd ws), .mu B, .mu W, .mu acc, .im (iD m), .mu ((lotB ws bits m).map wd), v6]) := fun m acc v => by
    have key := loop_fold (u := uName [0, 1] 6) (body := f__law_lots_1) iD (fun pre env => ∃ v, env = [.im (wd ws), .mu B, .mu W, .mu acc, .im (iD m), .mu ((((worlds ws).take pre.length).filter (inLot ws bits m)).map wd), v]) (List.range (worlds ws).length) [] [.im (wd ws), .mu B, .mu W, .mu acc, .im (iD m), .mu [], v] (fun p d q env e i => by
      obtain ⟨v, rfl⟩ := i
      obtain ⟨rfl, hlt⟩ := range_split e
      refine ⟨[.im (wd ws), .mu B, .mu W, .mu acc, .im (iD m), .mu ((((worlds ws).take p.length).filter (inLot ws bits m)).map wd), .im (iD p.length)], [.im (wd ws), .mu B, .mu W, .mu acc, .im (iD m), .mu ((((worlds ws).take (p.length + 1)).filter (inLot ws bits m)).map wd), .im (iD p.length)], rfl, ?_, ?_⟩
      · have i1 : oIx (.mu W) (.im (.int (p.length : Nat))) = some (.im (wd (worlds ws)[p.length])) := by subst hW; exact ixM hlt
        have i2 : oIx (.mu B) (.im (.int (p.length : Nat))) = some (.im (.int (bits[p.length]'(by omega)))) := by subst hB; exact ixM (f := PyData.int) (by omega)
        have hsel : sel ws bits (worlds ws)[p.length] = decide (bits[p.length]'(by omega) = 1) := by
          unfold sel
          rw [idx_nodup nd hlt, List.getD_eq_getElem?_getD, List.getElem?_eq_getElem (by omega)]
          rfl
        rw [take_filter hlt]
        generalize hacc : ((worlds ws).take p.length).filter (inLot ws bits m) = L
        have hL : L.length ≤ 16 := by
          rw [← hacc]
          refine Nat.le_trans (List.length_filter_le _ _) ?_
          rw [List.length_take]; omega
        unfold inLot
        rw [hsel]
        generalize (worlds ws)[p.length] = w at i1 ⊢
        generalize bits[p.length]'(by omega) = bt at i2 ⊢
        by_cases h1 : m < w.length
        · simp [f__law_lots_1, a_bind, a_ret, a_fVar, a_fC, a_op2, a_opN, a_op1, FN.view, views, frz, a_frM, a_consM, a_tupM, a_lstM, mkT, mkL, a_boolE, evB, a_truE, truM, truSV, a_notM, a_notV, a_andM, a_orM, a_andV, a_orV, a_ifM, a_loM, evI, a_slM, a_setS, store, a_retS, retE, a_setG, a_seqS, a_ifS, retN, a_nxS, a_ite, a_itemsM, itemsOf, SV.dat, SV.asI, SV.asQ, a_enuM, enumM, oAdd, oSub, int1, oLt, oLe, oGt, oGe, List.getElem?_cons_zero, List.getElem?_cons_succ, List.set_cons_zero, List.set_cons_succ, i1, oLen, h1, a_appS, szl L.length]
        · by_cases h2 : w.length = m
          · by_cases h3 : bt = 1
            · simp [f__law_lots_1, a_bind, a_ret, a_fVar, a_fC, a_op2, a_opN, a_op1, FN.view, views, frz, a_frM, a_consM, a_tupM, a_lstM, mkT, mkL, a_boolE, evB, a_truE, truM, truSV, a_notM, a_notV, a_andM, a_orM, a_andV, a_orV, a_ifM, a_loM, evI, a_slM, a_setS, store, a_retS, retE, a_setG, a_seqS, a_ifS, retN, a_nxS, a_ite, a_itemsM, itemsOf, SV.dat, SV.asI, SV.asQ, a_enuM, enumM, oAdd, oSub, int1, oLt, oLe, oGt, oGe, List.getElem?_cons_zero, List.getElem?_cons_succ, List.set_cons_zero, List.set_cons_succ, i1, i2, oLen, h2, h3, oEq_dec, a_appS, szl L.length]
            · simp [f__law_lots_1, a_bind, a_ret, a_fVar, a_fC, a_op2, a_opN, a_op1, FN.view, views, frz, a_frM, a_consM, a_tupM, a_lstM, mkT, mkL, a_boolE, evB, a_truE, truM, truSV, a_notM, a_notV, a_andM, a_orM, a_andV, a_orV, a_ifM, a_loM, evI, a_slM, a_setS, store, a_retS, retE, a_setG, a_seqS, a_ifS, retN, a_nxS, a_ite, a_itemsM, itemsOf, SV.dat, SV.asI, SV.asQ, a_enuM, enumM, oAdd, oSub, int1, oLt, oLe, oGt, oGe, List.getElem?_cons_zero, List.getElem?_cons_succ, List.set_cons_zero, List.set_cons_succ, i1, i2, oLen, h2, h3, oEq_dec]
          · have h2' : ¬ ((w.length : Int) = (m : Int)) := by omega
            simp [f__law_lots_1, a_bind, a_ret, a_fVar, a_fC, a_op2, a_opN, a_op1, FN.view, views, frz, a_frM, a_consM, a_tupM, a_lstM, mkT, mkL, a_boolE, evB, a_truE, truM, truSV, a_notM, a_notV, a_andM, a_orM, a_andV, a_orV, a_ifM, a_loM, evI, a_slM, a_setS, store, a_retS, retE, a_setG, a_seqS, a_ifS, retN, a_nxS, a_ite, a_itemsM, itemsOf, SV.dat, SV.asI, SV.asQ, a_enuM, enumM, oAdd, oSub, int1, oLt, oLe, oGt, oGe, List.getElem?_cons_zero, List.getElem?_cons_succ, List.set_cons_zero, List.set_cons_succ, i1, oLen, h1, h2, h2', oEq_dec]
      · rw [List.length_append, List.length_singleton]
        exact ⟨_, rfl⟩) ⟨_, rfl⟩
    obtain ⟨env2, h1, v6, h2⟩ := key
    subst h2
    rw [List.nil_append, List.length_range, List.take_length] at h1
    exact ⟨v6, h1⟩
  have hlenW : W.length = (worlds ws).length := by rw [← hW, List.length_map]
  have outer := loop_fold (u := uName [0, 1] 4) (body := f__law_lots_2) iD (fun pre env => ∃ v4 v5 v6, env = [.im (wd ws), .mu B, .mu W, .mu ((List.range pre.length).map fun m => lst (lotB ws bits m)), v4, v5, v6]) (List.range (ws.length + 1)) [] [.im (wd ws), .mu B, .mu W, .mu [], .no, .no, .no] (fun p d q env e i => by
    obtain ⟨v4, v5, v6, rfl⟩ := i
    obtain ⟨rfl, hlt⟩ := range_split e
    obtain ⟨v6', h1⟩ := inner p.length ((List.range p.length).map fun m => lst (lotB ws bits m)) v6
    refine ⟨[.im (wd ws), .mu B, .mu W, .mu ((List.range p.length).map fun m => lst (lotB ws bits m)), .im (iD p.length), v5, v6], [.im (wd ws), .mu B, .mu W, .mu ((List.range (p.length + 1)).map fun m => lst (lotB ws bits m)), .im (iD p.length), .im (lst (lotB ws bits p.length)), v6'], rfl, ?_, ?_⟩
    · have hi : rng1 (opN (consM (fVar 2) (retM [])) oLen) [.im (wd ws), .mu B, .mu W, .mu ((List.range p.length).map fun m => lst (lotB ws bits m)), .im (iD p.length), .mu [], v6] = some ((List.range (worlds ws).length).map iD, [.im (wd ws), .mu B, .mu W, .mu ((List.range p.length).map fun m => lst (lotB ws bits m)), .im (iD p.length), .mu [], v6]) := rng1_eq (by simp [a_bind, a_ret, a_fVar, a_fC, a_op2, a_opN, a_op1, FN.view, views, frz, a_frM, a_consM, a_tupM, a_lstM, mkT, mkL, a_boolE, evB, a_truE, truM, truSV, a_notM, a_notV, a_andM, a_orM, a_andV, a_orV, a_ifM, a_loM, evI, a_slM, a_setS, store, a_retS, retE, a_setG, a_seqS, a_ifS, retN, a_nxS, a_ite, a_itemsM, itemsOf, SV.dat, SV.asI, SV.asQ, a_enuM, enumM, oAdd, oSub, int1, oLt, oLe, oGt, oGe, List.getElem?_cons_zero, List.getElem?_cons_succ, List.set_cons_zero, List.set_cons_succ, oLen, hlenW]) (by omega)
      have hs : setS [0, 1] 5 (lstM (retM [])) [.im (wd ws), .mu B, .mu W, .mu ((List.range p.length).map fun m => lst (lotB ws bits m)), .im (iD p.length), v5, v6] = some (.nx, [.im (wd ws), .mu B, .mu W, .mu ((List.range p.length).map fun m => lst (lotB ws bits m)), .im (iD p.length), .mu [], v6]) := by simp [a_bind, a_ret, a_fVar, a_fC, a_op2, a_opN, a_op1, FN.view, views, frz, a_frM, a_consM, a_tupM, a_lstM, mkT, mkL, a_boolE, evB, a_truE, truM, truSV, a_notM, a_notV, a_andM, a_orM, a_andV, a_orV, a_ifM, a_loM, evI, a_slM, a_setS, store, a_retS, retE, a_setG, a_seqS, a_ifS, retN, a_nxS, a_ite, a_itemsM, itemsOf, SV.dat, SV.asI, SV.asQ, a_enuM, enumM, oAdd, oSub, int1, oLt, oLe, oGt, oGe, List.getElem?_cons_zero, List.getElem?_cons_succ, List.set_cons_zero, List.set_cons_succ, sz 0]
      unfold f__law_lots_2
      rw [seqS_nx hs]
      rw [seqS_nx (by rw [forS_eq hi]; exact h1)]
      rw [List.range_succ, List.map_append, List.map_singleton]
      generalize hR : (List.range p.length).map (fun m => lst (lotB ws bits m)) = R
      have hRl : R.length < sizeLine := szl _ (by rw [← hR, List.length_map, List.length_range]; omega)
      simp [a_bind, a_ret, a_fVar, a_fC, a_op2, a_opN, a_op1, FN.view, views, frz, a_frM, a_consM, a_tupM, a_lstM, mkT, mkL, a_boolE, evB, a_truE, truM, truSV, a_notM, a_notV, a_andM, a_orM, a_andV, a_orV, a_ifM, a_loM, evI, a_slM, a_setS, store, a_retS, retE, a_setG, a_seqS, a_ifS, retN, a_nxS, a_ite, a_itemsM, itemsOf, SV.dat, SV.asI, SV.asQ, a_enuM, enumM, oAdd, oSub, int1, oLt, oLe, oGt, oGe, List.getElem?_cons_zero, List.getElem?_cons_succ, List.set_cons_zero, List.set_cons_succ, a_appS, hRl]
    · rw [List.length_append, List.length_singleton]
      exact ⟨_, _, _, rfl⟩) ⟨_, _, _, rfl⟩
  obtain ⟨env2, h1, v4, v5, v6, h2⟩ := outer
  subst h2
  rw [List.nil_append, List.length_range] at h1
  have hi : rng1 (op2 (opN (consM (fVar 0) (retM [])) oLen) (fC (.int 1)) oAdd) [.im (wd ws), .mu B, .mu W, .mu [], .no, .no, .no] = some ((List.range (ws.length + 1)).map iD, [.im (wd ws), .mu B, .mu W, .mu [], .no, .no, .no]) := rng1_eq (by simp [a_bind, a_ret, a_fVar, a_fC, a_op2, a_opN, a_op1, FN.view, views, frz, a_frM, a_consM, a_tupM, a_lstM, mkT, mkL, a_boolE, evB, a_truE, truM, truSV, a_notM, a_notV, a_andM, a_orM, a_andV, a_orV, a_ifM, a_loM, evI, a_slM, a_setS, store, a_retS, retE, a_setG, a_seqS, a_ifS, retN, a_nxS, a_ite, a_itemsM, itemsOf, SV.dat, SV.asI, SV.asQ, a_enuM, enumM, oAdd, oSub, int1, oLt, oLe, oGt, oGe, List.getElem?_cons_zero, List.getElem?_cons_succ, List.set_cons_zero, List.set_cons_succ, oLen]) (by omega)
  simp [F__law_lots, fnOf, outs, rg1, rg2, rg3, rg4, rg5, isIm, f__law_lots, a_bind, a_ret, a_fVar, a_fC, a_op2, a_opN, a_op1, FN.view, views, frz, a_frM, a_consM, a_tupM, a_lstM, mkT, mkL, a_boolE, evB, a_truE, truM, truSV, a_notM, a_notV, a_andM, a_orM, a_andV, a_orV, a_ifM, a_loM, evI, a_slM, a_setS, store, a_retS, retE, a_setG, a_seqS, a_ifS, retN, a_nxS, a_ite, a_itemsM, itemsOf, SV.dat, SV.asI, SV.asQ, a_enuM, enumM, oAdd, oSub, int1, oLt, oLe, oGt, oGe, List.getElem?_cons_zero, List.getElem?_cons_succ, List.set_cons_zero, List.set_cons_succ, c, sz 0, forS_eq hi, h1]
end K89

namespace K89
open PySem FN
open PySem.PyData (strOk)
theorem a_insS (env : FEnv) (n : Nat) (g : M EV) (f : M PyData) : insS n g f env = match env[n]? with
  | some (.mu _) => match FN.bindM g evI env with
    | some (i, env1) => match f env1 with
      | some (d, env2) => match env2[n]? with
        | some (.mu ds) => if ds.length < sizeLine ∧ 0 ≤ i ∧ i.natAbs < 9223372036854775808 then some (.nx, env2.set n (.mu (ds.take i.toNat ++ [d] ++ ds.drop i.toNat))) else none
        | _ => none
      | none => none
    | none => none
  | _ => none := id rfl
def LSv (sv : SV) (lot : List (List Str)) : Prop := sv = .im (lst lot) ∨ sv = .mu (lot.map wd)
def g1 (lot : List (List Str)) : Mb := .grp false (lot.reverse.map aterm)
def above (rest : List (List Str)) (w : List Str) : List (List Str) := rest.filter fun v => !decide (v = w) && sub w v
def maxl (rest : List (List Str)) : List (List Str) := rest.filter fun w => (above rest w).isEmpty
def oterm (ws w : List Str) : Mb := .grp false ((ws.filter fun x => !decide (x ∈ w)).map Mb.atom)
def restOf (ws : List Str) (lot : List (List Str)) : List (List Str) := (worlds ws).filter fun w => !decide (w ∈ lot)
def g2 (lot : List (List Str)) (ws : List Str) : Mb := .grp true ((maxl (restOf ws lot)).map (oterm ws))
def g3 (lot : List (List Str)) : Mb := .grp true [.grp false [lform lot, .grp false []], .grp true []]
def grown (lot : List (List Str)) (ws : List Str) (way : Nat) : Mb := if way = 0 then lform lot else if way = 1 then g1 lot else if way = 2 then g2 lot ws else g3 lot
/-- a call with one changing argument at first -/
theorem call_lsv {F : FnT} {env : FEnv} {as : List PyData} {f : M (List EV)} {lot : List (List Str)} {sv sv' : SV} {i : Nat} {r : EV} (hsv : LSv sv lot) (hi : env[i]? = some sv) (hf : ∀ e, fVar i env = some (e, env) → f env = some (e :: as.map EV.im, env)) (hF : F (sv :: as.map SV.im) = some (r, sv' :: as.map SV.im)) (hr : ∀ i, r ≠ .slot i) : ∃ env', callM F [] f env = some (r, env') ∧ (env' = env ∨ env' = env.set i sv') := by
  rcases hsv with rfl | rfl
  · have h1 : fVar i env = some (.im (lst lot), env) := by simp [a_fVar, hi]
    exact ⟨env, call_im (lst lot :: as) (hf _ h1) (by simpa using hF) hr, .inl rfl⟩
  · have h1 : fVar i env = some (.slot i, env) := by simp [a_fVar, hi]
    have hv : views (.slot i :: as.map EV.im) env = some (.mu (lot.map wd) :: as.map SV.im) := by
      rw [views, FN.view, hi, views_im]
    have hm : slotsMu env (.slot i :: as.map EV.im) = [i] := by
      unfold slotsMu
      rw [hi, slots_im]
    have := callM_im (dds := []) (F := F) (hf _ h1) hv (by rw [hm]; simp) (by simpa using hF) hr
    refine ⟨_, this, .inr ?_⟩
    show (match env[i]? with | some (.mu _) => (upds env (as.map EV.im) (as.map SV.im)).set i sv' | _ => upds env (as.map EV.im) (as.map SV.im)) = _
    rw [hi, upds_im]
theorem depth_lst {lot : List (List Str)} : PyData.depthAll (lot.map wd) ≤ 1 := by
  induction lot with
  | nil => exact Nat.zero_le _
  | cons w l ih =>
    show max (PyData.depth (wd w)) (PyData.depthAll (l.map wd)) ≤ 1
    have : PyData.depth (wd w) = PyData.depthAll (wds w) + 1 := rfl
    rw [this, depth_wds]
    omega
theorem lay_lst {lot : List (List Str)} (h : ∀ v ∈ lot, Ws v) : PyData.canLayAll0 (lot.map wd) = true := by
  induction lot with
  | nil => rfl
  | cons w l ih =>
    show (PyData.canLay0 (wd w) && PyData.canLayAll0 (l.map wd)) = true
    rw [ih fun v hv => h v (List.mem_cons_of_mem _ hv), Bool.and_true]
    exact lay_wds (h w List.mem_cons_self)
theorem sh_lst {lot : List (List Str)} (h : ∀ v ∈ lot, Ws v) : SeqAt.shaped (lst lot) = true := by
  unfold SeqAt.shaped
  rw [Bool.and_eq_true]
  refine ⟨lay_lst h, decide_eq_true ?_⟩
  show PyData.depthAll (lot.map wd) + 1 ≤ 64
  have := depth_lst (lot := lot)
  omega
theorem inD_wd {w : List Str} {lot : List (List Str)} : inD (wd w) (lot.map wd) = decide (w ∈ lot) := by
  unfold inD
  induction lot with
  | nil => simp
  | cons v l ih =>
    show (PyData.eqv (wd v) (wd w) || (l.map wd).any fun z => PyData.eqv z (wd w)) = _
    rw [ih]
    have : PyData.eqv (wd v) (wd w) = decide (v = w) := by rw [show PyData.eqv (wd v) (wd w) = PyData.eqvAll (wds v) (wds w) by rw [PyData.eqv]]; exact eqv_wds v w
    rw [this]
    by_cases h : v = w
    · subst h; simp
    · have h' : ¬ w = v := fun z => h z.symm
      simp [h, h']
theorem oIn_lsv {neg : Bool} {w : List Str} {lot : List (List Str)} {sv : SV} (hsv : LSv sv lot) (hw : Ws w) (hl : ∀ v ∈ lot, Ws v) : oInB neg (.im (wd w)) sv = some (.im (.bool (if neg then !decide (w ∈ lot) else decide (w ∈ lot)))) := by
  rcases hsv with rfl | rfl
  · show (if (SeqAt.shaped (wd w) && SeqAt.shaped (lst lot)) = true then some (EV.im (.bool (if neg then !inD (wd w) (lot.map wd) else inD (wd w) (lot.map wd)))) else none) = _
    rw [sh_wd hw, sh_lst hl, Bool.true_and, if_pos rfl, inD_wd]
  · show (if (SeqAt.shaped (wd w) && SeqAt.shaped (lst lot)) = true then some (EV.im (.bool (if neg then !inD (wd w) (lot.map wd) else inD (wd w) (lot.map wd)))) else none) = _
    rw [sh_wd hw, sh_lst hl, Bool.true_and, if_pos rfl, inD_wd]
theorem enc_g1 (lot : List (List Str)) : enc (g1 lot) = .tuple [.str "some", .tuple (lot.reverse.map fun w => enc (aterm w))] := by
  rw [g1, enc, encs_map, List.map_map]
  rfl
theorem enc_oterm (ws w : List Str) : enc (oterm ws w) = .tuple [.str "some", .tuple ((ws.filter fun x => !decide (x ∈ w)).map fun x => enc (.atom x))] := by
  rw [oterm, enc, encs_map, List.map_map]
  rfl
theorem enc_g2 (lot : List (List Str)) (ws : List Str) : enc (g2 lot ws) = .tuple [.str "all", .tuple ((maxl (restOf ws lot)).map fun w => enc (oterm ws w))] := by
  rw [g2, enc, encs_map, List.map_map]
  rfl
theorem grown_01 {lot : List (List Str)} {ws : List Str} {sv : SV} (hsv : LSv sv lot) (hl : ∀ v ∈ lot, Ws v) (hn : lot.length ≤ 300) (hs : Sm lot) :
    (∃ sv', F__law_grown [sv, .im (wd ws), .im (iD 0)] = some (.im (enc (lform lot)), [sv', .im (wd ws), .im (iD 0)])) ∧ (∃ sv', F__law_grown [sv, .im (wd ws), .im (iD 3)] = some (.im (enc (g3 lot)), [sv', .im (wd ws), .im (iD 3)])) := by
  have cc : ∀ k : Nat, ∃ sv', callM F__law_form [] (consM (fVar 0) (retM [])) [sv, .im (wd ws), .im (iD k), .no, .no, .no, .no, .no, .no, .no] = some (.im (enc (lform lot)), [sv', .im (wd ws), .im (iD k), .no, .no, .no, .no, .no, .no, .no]) := fun k => by
    obtain ⟨env', h1, h2⟩ := call_lsv (as := []) (F := F__law_form) (f := consM (fVar 0) (retM [])) (env := [sv, .im (wd ws), .im (iD k), .no, .no, .no, .no, .no, .no, .no]) (i := 0) hsv rfl (fun e he => by simp [a_bind, a_ret, a_fVar, a_fC, a_op2, a_opN, a_op1, FN.view, views, frz, a_frM, a_consM, a_tupM, a_lstM, mkT, mkL, a_boolE, evB, a_truE, truM, truSV, a_notM, a_notV, a_andM, a_orM, a_andV, a_orV, a_ifM, a_loM, evI, a_slM, a_setS, store, a_retS, retE, a_setG, a_seqS, a_ifS, retN, a_nxS, a_ite, a_itemsM, itemsOf, SV.dat, SV.asI, SV.asQ, a_enuM, enumM, oAdd, oSub, int1, oLt, oLe, oGt, oGe, List.getElem?_cons_zero, List.getElem?_cons_succ, List.set_cons_zero, List.set_cons_succ, he] at he ⊢; simp [he]) (law_form (by rcases hsv with h | h <;> simp [h, lst]) hl hn hs) im_ne
    rcases h2 with rfl | rfl
    · exact ⟨sv, h1⟩
    · exact ⟨_, h1⟩
  obtain ⟨s0, c0⟩ := cc 0
  obtain ⟨s3, c3⟩ := cc 3
  have e3 : enc (g3 lot) = .tuple [.str "all", .tuple [.tuple [.str "some", .tuple [enc (lform lot), .tuple [.str "some", .tuple []]]], .tuple [.str "all", .tuple []]]] := by simp [g3, enc, encs, gname]
  rw [e3]
  generalize enc (lform lot) = L at c0 c3 ⊢
  refine ⟨⟨s0, ?_⟩, ⟨s3, ?_⟩⟩
  · rcases hsv with rfl | rfl <;> simp [F__law_grown, fnOf, outs, rg1, rg2, rg3, rg4, rg5, isIm, f__law_grown, a_bind, a_ret, a_fVar, a_fC, a_op2, a_opN, a_op1, FN.view, views, frz, a_frM, a_consM, a_tupM, a_lstM, mkT, mkL, a_boolE, evB, a_truE, truM, truSV, a_notM, a_notV, a_andM, a_orM, a_andV, a_orV, a_ifM, a_loM, evI, a_slM, a_setS, store, a_retS, retE, a_setG, a_seqS, a_ifS, retN, a_nxS, a_ite, a_itemsM, itemsOf, SV.dat, SV.asI, SV.asQ, a_enuM, enumM, oAdd, oSub, int1, oLt, oLe, oGt, oGe, List.getElem?_cons_zero, List.getElem?_cons_succ, List.set_cons_zero, List.set_cons_succ, oEq_dec, c0]
  · rcases hsv with rfl | rfl <;> simp [F__law_grown, fnOf, outs, rg1, rg2, rg3, rg4, rg5, isIm, f__law_grown, a_bind, a_ret, a_fVar, a_fC, a_op2, a_opN, a_op1, FN.view, views, frz, a_frM, a_consM, a_tupM, a_lstM, mkT, mkL, a_boolE, evB, a_truE, truM, truSV, a_notM, a_notV, a_andM, a_orM, a_andV, a_orV, a_ifM, a_loM, evI, a_slM, a_setS, store, a_retS, retE, a_setG, a_seqS, a_ifS, retN, a_nxS, a_ite, a_itemsM, itemsOf, SV.dat, SV.asI, SV.asQ, a_enuM, enumM, oAdd, oSub, int1, oLt, oLe, oGt, oGe, List.getElem?_cons_zero, List.getElem?_cons_succ, List.set_cons_zero, List.set_cons_succ, oEq_dec, c3, sz 0, sz 2]
theorem atoms_lc {env : FEnv} {w : List Str} {i : Nat} {env1 : FEnv} (hi : itemsM (frM (fVar i)) env = some (w.map PyData.str, env1)) (hn : noMu [9] env1 = true) (hw : w.length ≤ 100) (h9 : ∀ x : Str, (wipeE env1 [9])[9]? = some .no ∧ ((wipeE env1 [9]).set 9 (.im (.str x)))[9]? = some (.im (.str x)) ∧ wipeE ((wipeE env1 [9]).set 9 (.im (.str x))) [9] = wipeE env1 [9]) :
    lcM [9] (itemsM (frM (fVar i))) (uName [0, 1, 2] 9) (retM true) f__law_grown_8 env = some (.own (w.map fun x => enc (.atom x)), env1) :=
  lcm_map (vs := [9]) (u := uName [0, 1, 2] 9) (elt := f__law_grown_8) PyData.str (fun x => enc (.atom x)) hi hn (sz _) fun x hx => by
    obtain ⟨_, h2, h3⟩ := h9 x
    refine ⟨_, rfl, ?_, h3⟩
    simp [f__law_grown_8, a_bind, a_ret, a_fVar, a_fC, a_op2, a_opN, a_op1, FN.view, views, frz, a_frM, a_consM, a_tupM, a_lstM, mkT, mkL, a_boolE, evB, a_truE, truM, truSV, a_notM, a_notV, a_andM, a_orM, a_andV, a_orV, a_ifM, a_loM, evI, a_slM, a_setS, store, a_retS, retE, a_setG, a_seqS, a_ifS, retN, a_nxS, a_ite, a_itemsM, itemsOf, SV.dat, SV.asI, SV.asQ, a_enuM, enumM, oAdd, oSub, int1, oLt, oLe, oGt, oGe, List.getElem?_cons_zero, List.getElem?_cons_succ, List.set_cons_zero, List.set_cons_succ, h2, sz 2, enc]
theorem grown_1 {lot : List (List Str)} {ws : List Str} {sv : SV} (hsv : LSv sv lot) (hn : lot.length ≤ 300) (hs : Sm lot) :
    ∃ sv', F__law_grown [sv, .im (wd ws), .im (iD 1)] = some (.im (enc (g1 lot)), [sv', .im (wd ws), .im (iD 1)]) := by
  have key := loop_fold (u := uName [0, 1, 2] 4) (body := f__law_grown_9) wd (fun pre env => ∃ v, env = [.im (lst lot), .im (wd ws), .im (iD 1), .mu (pre.reverse.map fun w => enc (aterm w)), v, .no, .no, .no, .no, .no]) lot [] [.im (lst lot), .im (wd ws), .im (iD 1), .mu [], .no, .no, .no, .no, .no, .no] (fun p w q env e i => by
    obtain ⟨v, rfl⟩ := i
    have hwm : w ∈ lot := by rw [List.nil_append] at e; rw [e]; simp
    have hp : p.length ≤ 300 := by
      have := congrArg List.length e
      rw [List.nil_append, List.length_append] at this
      omega
    generalize hR : p.reverse.map (fun w => enc (aterm w)) = R
    have hRl : R.length < sizeLine := szl _ (by rw [← hR, List.length_map, List.length_reverse]; omega)
    refine ⟨[.im (lst lot), .im (wd ws), .im (iD 1), .mu R, .im (wd w), .no, .no, .no, .no, .no], [.im (lst lot), .im (wd ws), .im (iD 1), .mu (enc (aterm w) :: R), .im (wd w), .no, .no, .no, .no, .no], rfl, ?_, .im (wd w), ?_⟩
    · have hi9 : itemsM (frM (fVar 4)) [.im (lst lot), .im (wd ws), .im (iD 1), .mu R, .im (wd w), .no, .no, .no, .no, .no] = some (w.map PyData.str, [.im (lst lot), .im (wd ws), .im (iD 1), .mu R, .im (wd w), .no, .no, .no, .no, .no]) := by simp [a_bind, a_ret, a_fVar, a_fC, a_op2, a_opN, a_op1, FN.view, views, frz, a_frM, a_consM, a_tupM, a_lstM, mkT, mkL, a_boolE, evB, a_truE, truM, truSV, a_notM, a_notV, a_andM, a_orM, a_andV, a_orV, a_ifM, a_loM, evI, a_slM, a_setS, store, a_retS, retE, a_setG, a_seqS, a_ifS, retN, a_nxS, a_ite, a_itemsM, itemsOf, SV.dat, SV.asI, SV.asQ, a_enuM, enumM, oAdd, oSub, int1, oLt, oLe, oGt, oGe, List.getElem?_cons_zero, List.getElem?_cons_succ, List.set_cons_zero, List.set_cons_succ]
      have lc := atoms_lc hi9 rfl (Nat.le_trans (hs w hwm) (by omega)) (fun x => ⟨rfl, rfl, rfl⟩)
      have e1 : enc (aterm w) = .tuple [.str "all", .tuple (w.map fun x => enc (.atom x))] := enc_term w
      rw [e1]
      simp [f__law_grown_9, a_bind, a_ret, a_fVar, a_fC, a_op2, a_opN, a_op1, FN.view, views, frz, a_frM, a_consM, a_tupM, a_lstM, mkT, mkL, a_boolE, evB, a_truE, truM, truSV, a_notM, a_notV, a_andM, a_orM, a_andV, a_orV, a_ifM, a_loM, evI, a_slM, a_setS, store, a_retS, retE, a_setG, a_seqS, a_ifS, retN, a_nxS, a_ite, a_itemsM, itemsOf, SV.dat, SV.asI, SV.asQ, a_enuM, enumM, oAdd, oSub, int1, oLt, oLe, oGt, oGe, List.getElem?_cons_zero, List.getElem?_cons_succ, List.set_cons_zero, List.set_cons_succ, a_insS, lc, oTuple, sz 2, hRl]
    · rw [List.reverse_append, List.map_append, hR]; rfl) ⟨_, rfl⟩
  obtain ⟨env2, h1, v, h2⟩ := key
  subst h2
  rw [List.nil_append] at h1
  rw [enc_g1]
  refine ⟨.im (lst lot), ?_⟩
  rcases hsv with rfl | rfl
  · have hi : itemsM (frM (fVar 0)) [.im (lst lot), .im (wd ws), .im (iD 1), .mu [], .no, .no, .no, .no, .no, .no] = some (lot.map wd, [.im (lst lot), .im (wd ws), .im (iD 1), .mu [], .no, .no, .no, .no, .no, .no]) := by simp [a_bind, a_ret, a_fVar, a_fC, a_op2, a_opN, a_op1, FN.view, views, frz, a_frM, a_consM, a_tupM, a_lstM, mkT, mkL, a_boolE, evB, a_truE, truM, truSV, a_notM, a_notV, a_andM, a_orM, a_andV, a_orV, a_ifM, a_loM, evI, a_slM, a_setS, store, a_retS, retE, a_setG, a_seqS, a_ifS, retN, a_nxS, a_ite, a_itemsM, itemsOf, SV.dat, SV.asI, SV.asQ, a_enuM, enumM, oAdd, oSub, int1, oLt, oLe, oGt, oGe, List.getElem?_cons_zero, List.getElem?_cons_succ, List.set_cons_zero, List.set_cons_succ]
    generalize hG : lot.reverse.map (fun w => enc (aterm w)) = R at h1
    generalize lst lot = L at h1 hi ⊢
    simp [F__law_grown, fnOf, outs, rg1, rg2, rg3, rg4, rg5, isIm, f__law_grown, a_bind, a_ret, a_fVar, a_fC, a_op2, a_opN, a_op1, FN.view, views, frz, a_frM, a_consM, a_tupM, a_lstM, mkT, mkL, a_boolE, evB, a_truE, truM, truSV, a_notM, a_notV, a_andM, a_orM, a_andV, a_orV, a_ifM, a_loM, evI, a_slM, a_setS, store, a_retS, retE, a_setG, a_seqS, a_ifS, retN, a_nxS, a_ite, a_itemsM, itemsOf, SV.dat, SV.asI, SV.asQ, a_enuM, enumM, oAdd, oSub, int1, oLt, oLe, oGt, oGe, List.getElem?_cons_zero, List.getElem?_cons_succ, List.set_cons_zero, List.set_cons_succ, oEq_dec, sz 0, sz 2, forS_eq hi, h1, oTuple]
  · have hi : itemsM (frM (fVar 0)) [.mu (lot.map wd), .im (wd ws), .im (iD 1), .mu [], .no, .no, .no, .no, .no, .no] = some (lot.map wd, [.im (lst lot), .im (wd ws), .im (iD 1), .mu [], .no, .no, .no, .no, .no, .no]) := by simp [a_bind, a_ret, a_fVar, a_fC, a_op2, a_opN, a_op1, FN.view, views, frz, a_frM, a_consM, a_tupM, a_lstM, mkT, mkL, a_boolE, evB, a_truE, truM, truSV, a_notM, a_notV, a_andM, a_orM, a_andV, a_orV, a_ifM, a_loM, evI, a_slM, a_setS, store, a_retS, retE, a_setG, a_seqS, a_ifS, retN, a_nxS, a_ite, a_itemsM, itemsOf, SV.dat, SV.asI, SV.asQ, a_enuM, enumM, oAdd, oSub, int1, oLt, oLe, oGt, oGe, List.getElem?_cons_zero, List.getElem?_cons_succ, List.set_cons_zero, List.set_cons_succ]
    generalize hG : lot.reverse.map (fun w => enc (aterm w)) = R at h1
    generalize lst lot = L at h1 hi ⊢
    simp [F__law_grown, fnOf, outs, rg1, rg2, rg3, rg4, rg5, isIm, f__law_grown, a_bind, a_ret, a_fVar, a_fC, a_op2, a_opN, a_op1, FN.view, views, frz, a_frM, a_consM, a_tupM, a_lstM, mkT, mkL, a_boolE, evB, a_truE, truM, truSV, a_notM, a_notV, a_andM, a_orM, a_andV, a_orV, a_ifM, a_loM, evI, a_slM, a_setS, store, a_retS, retE, a_setG, a_seqS, a_ifS, retN, a_nxS, a_ite, a_itemsM, itemsOf, SV.dat, SV.asI, SV.asQ, a_enuM, enumM, oAdd, oSub, int1, oLt, oLe, oGt, oGe, List.getElem?_cons_zero, List.getElem?_cons_succ, List.set_cons_zero, List.set_cons_succ, oEq_dec, sz 0, sz 2, forS_eq hi, h1, oTuple]
theorem Sm_worlds {ws : List Str} (h : ws.length ≤ 8) : Sm (worlds ws) := fun w hw => Nat.le_trans (worlds_short w hw) h
theorem g2_body {ws : List Str} {rest : List (List Str)} {s0 w2 w4 v7 : SV} {pre : List PyData} {w : List Str} (hr : ∀ v ∈ rest, Ws v) (hw : Ws w) (hws : Ws ws) (hl : ws.length ≤ 4) (hn : rest.length ≤ 300) (hp : pre.length ≤ 300) :
    ∃ v7', f__law_grown_5 [s0, .im (wd ws), w2, .no, .im (wd w), .im (lst rest), .mu pre, v7, .no, .no] = some (.nx, [s0, .im (wd ws), w2, .no, .im (wd w), .im (lst rest), .mu (pre ++ if (above rest w).isEmpty = true then [enc (oterm ws w)] else []), v7', .no, .no]) := by
  have hi : itemsM (frM (fVar 5)) [s0, .im (wd ws), w2, .no, .im (wd w), .im (lst rest), .mu pre, v7, .no, .no] = some (rest.map wd, [s0, .im (wd ws), w2, .no, .im (wd w), .im (lst rest), .mu pre, v7, .no, .no]) := by simp [a_bind, a_ret, a_fVar, a_fC, a_op2, a_opN, a_op1, FN.view, views, frz, a_frM, a_consM, a_tupM, a_lstM, mkT, mkL, a_boolE, evB, a_truE, truM, truSV, a_notM, a_notV, a_andM, a_orM, a_andV, a_orV, a_ifM, a_loM, evI, a_slM, a_setS, store, a_retS, retE, a_setG, a_seqS, a_ifS, retN, a_nxS, a_ite, a_itemsM, itemsOf, SV.dat, SV.asI, SV.asQ, a_enuM, enumM, oAdd, oSub, int1, oLt, oLe, oGt, oGe, List.getElem?_cons_zero, List.getElem?_cons_succ, List.set_cons_zero, List.set_cons_succ]
  have lc := lcg_map (vs := [8]) (u := uName [0, 1, 2] 8) (test := f__law_grown_3) (elt := f__law_grown_4) wd (fun v => !decide (v = w) && sub w v) wd hi rfl (sz _) fun v hv => by
    have c : callM F__law_below [] (consM (fVar 4) (consM (fVar 8) (retM []))) [s0, .im (wd ws), w2, .no, .im (wd w), .im (lst rest), .mu pre, v7, .im (wd v), .no] = some (.im (.bool (sub w v)), [s0, .im (wd ws), w2, .no, .im (wd w), .im (lst rest), .mu pre, v7, .im (wd v), .no]) := call_im [wd w, wd v] (by simp [a_bind, a_ret, a_fVar, a_fC, a_op2, a_opN, a_op1, FN.view, views, frz, a_frM, a_consM, a_tupM, a_lstM, mkT, mkL, a_boolE, evB, a_truE, truM, truSV, a_notM, a_notV, a_andM, a_orM, a_andV, a_orV, a_ifM, a_loM, evI, a_slM, a_setS, store, a_retS, retE, a_setG, a_seqS, a_ifS, retN, a_nxS, a_ite, a_itemsM, itemsOf, SV.dat, SV.asI, SV.asQ, a_enuM, enumM, oAdd, oSub, int1, oLt, oLe, oGt, oGe, List.getElem?_cons_zero, List.getElem?_cons_succ, List.set_cons_zero, List.set_cons_succ]) (law_below hw (hr v hv)) im_ne
    refine ⟨_, rfl, ?_, fun _ => ?_, rfl⟩
    · by_cases h : v = w
      · subst h
        simp [f__law_grown_3, a_bind, a_ret, a_fVar, a_fC, a_op2, a_opN, a_op1, FN.view, views, frz, a_frM, a_consM, a_tupM, a_lstM, mkT, mkL, a_boolE, evB, a_truE, truM, truSV, a_notM, a_notV, a_andM, a_orM, a_andV, a_orV, a_ifM, a_loM, evI, a_slM, a_setS, store, a_retS, retE, a_setG, a_seqS, a_ifS, retN, a_nxS, a_ite, a_itemsM, itemsOf, SV.dat, SV.asI, SV.asQ, a_enuM, enumM, oAdd, oSub, int1, oLt, oLe, oGt, oGe, List.getElem?_cons_zero, List.getElem?_cons_succ, List.set_cons_zero, List.set_cons_succ, wipeE, oNe_wd hw hw]
      · simp [f__law_grown_3, a_bind, a_ret, a_fVar, a_fC, a_op2, a_opN, a_op1, FN.view, views, frz, a_frM, a_consM, a_tupM, a_lstM, mkT, mkL, a_boolE, evB, a_truE, truM, truSV, a_notM, a_notV, a_andM, a_orM, a_andV, a_orV, a_ifM, a_loM, evI, a_slM, a_setS, store, a_retS, retE, a_setG, a_seqS, a_ifS, retN, a_nxS, a_ite, a_itemsM, itemsOf, SV.dat, SV.asI, SV.asQ, a_enuM, enumM, oAdd, oSub, int1, oLt, oLe, oGt, oGe, List.getElem?_cons_zero, List.getElem?_cons_succ, List.set_cons_zero, List.set_cons_succ, wipeE, oNe_wd (hr v hv) hw, h, c]
    · simp [f__law_grown_4, a_bind, a_ret, a_fVar, a_fC, a_op2, a_opN, a_op1, FN.view, views, frz, a_frM, a_consM, a_tupM, a_lstM, mkT, mkL, a_boolE, evB, a_truE, truM, truSV, a_notM, a_notV, a_andM, a_orM, a_andV, a_orV, a_ifM, a_loM, evI, a_slM, a_setS, store, a_retS, retE, a_setG, a_seqS, a_ifS, retN, a_nxS, a_ite, a_itemsM, itemsOf, SV.dat, SV.asI, SV.asQ, a_enuM, enumM, oAdd, oSub, int1, oLt, oLe, oGt, oGe, List.getElem?_cons_zero, List.getElem?_cons_succ, List.set_cons_zero, List.set_cons_succ, wipeE]
  change lcM _ _ _ _ _ _ = some (.own ((above rest w).map wd), _) at lc
  cases q : above rest w with
  | nil =>
    rw [q] at lc
    have hi2 : itemsM (frM (fVar 1)) [s0, .im (wd ws), w2, .no, .im (wd w), .im (lst rest), .mu pre, .mu [], .no, .no] = some (ws.map PyData.str, [s0, .im (wd ws), w2, .no, .im (wd w), .im (lst rest), .mu pre, .mu [], .no, .no]) := by simp [a_bind, a_ret, a_fVar, a_fC, a_op2, a_opN, a_op1, FN.view, views, frz, a_frM, a_consM, a_tupM, a_lstM, mkT, mkL, a_boolE, evB, a_truE, truM, truSV, a_notM, a_notV, a_andM, a_orM, a_andV, a_orV, a_ifM, a_loM, evI, a_slM, a_setS, store, a_retS, retE, a_setG, a_seqS, a_ifS, retN, a_nxS, a_ite, a_itemsM, itemsOf, SV.dat, SV.asI, SV.asQ, a_enuM, enumM, oAdd, oSub, int1, oLt, oLe, oGt, oGe, List.getElem?_cons_zero, List.getElem?_cons_succ, List.set_cons_zero, List.set_cons_succ]
    have lc2 := lcg_map (vs := [9]) (u := uName [0, 1, 2] 9) (test := f__law_grown_1) (elt := f__law_grown_2) PyData.str (fun x => !decide (x ∈ w)) (fun x => enc (.atom x)) hi2 rfl (sz _) fun x hx => ⟨_, rfl, by simp [f__law_grown_1, a_bind, a_ret, a_fVar, a_fC, a_op2, a_opN, a_op1, FN.view, views, frz, a_frM, a_consM, a_tupM, a_lstM, mkT, mkL, a_boolE, evB, a_truE, truM, truSV, a_notM, a_notV, a_andM, a_orM, a_andV, a_orV, a_ifM, a_loM, evI, a_slM, a_setS, store, a_retS, retE, a_setG, a_seqS, a_ifS, retN, a_nxS, a_ite, a_itemsM, itemsOf, SV.dat, SV.asI, SV.asQ, a_enuM, enumM, oAdd, oSub, int1, oLt, oLe, oGt, oGe, List.getElem?_cons_zero, List.getElem?_cons_succ, List.set_cons_zero, List.set_cons_succ, wipeE, oIn_wd (hws x hx) hw], fun _ => by simp [f__law_grown_2, a_bind, a_ret, a_fVar, a_fC, a_op2, a_opN, a_op1, FN.view, views, frz, a_frM, a_consM, a_tupM, a_lstM, mkT, mkL, a_boolE, evB, a_truE, truM, truSV, a_notM, a_notV, a_andM, a_orM, a_andV, a_orV, a_ifM, a_loM, evI, a_slM, a_setS, store, a_retS, retE, a_setG, a_seqS, a_ifS, retN, a_nxS, a_ite, a_itemsM, itemsOf, SV.dat, SV.asI, SV.asQ, a_enuM, enumM, oAdd, oSub, int1, oLt, oLe, oGt, oGe, List.getElem?_cons_zero, List.getElem?_cons_succ, List.set_cons_zero, List.set_cons_succ, wipeE, sz 2, enc], rfl⟩
    refine ⟨.mu [], ?_⟩
    rw [List.isEmpty_nil, if_pos rfl, enc_oterm]
    generalize hQ : (ws.filter fun x => !decide (x ∈ w)).map (fun x => enc (.atom x)) = Q at lc2
    generalize lst rest = RR at lc lc2 ⊢
    simp [f__law_grown_5, a_bind, a_ret, a_fVar, a_fC, a_op2, a_opN, a_op1, FN.view, views, frz, a_frM, a_consM, a_tupM, a_lstM, mkT, mkL, a_boolE, evB, a_truE, truM, truSV, a_notM, a_notV, a_andM, a_orM, a_andV, a_orV, a_ifM, a_loM, evI, a_slM, a_setS, store, a_retS, retE, a_setG, a_seqS, a_ifS, retN, a_nxS, a_ite, a_itemsM, itemsOf, SV.dat, SV.asI, SV.asQ, a_enuM, enumM, oAdd, oSub, int1, oLt, oLe, oGt, oGe, List.getElem?_cons_zero, List.getElem?_cons_succ, List.set_cons_zero, List.set_cons_succ, lc, oLen, oEq_dec, a_appS, lc2, oTuple, sz 2, szl pre.length]
  | cons a L =>
    rw [q] at lc
    refine ⟨.mu ((a :: L).map wd), ?_⟩
    have hz : ¬ ((L.length : Int) + 1 = 0) := by omega
    generalize lst rest = RR at lc ⊢
    simp [f__law_grown_5, a_bind, a_ret, a_fVar, a_fC, a_op2, a_opN, a_op1, FN.view, views, frz, a_frM, a_consM, a_tupM, a_lstM, mkT, mkL, a_boolE, evB, a_truE, truM, truSV, a_notM, a_notV, a_andM, a_orM, a_andV, a_orV, a_ifM, a_loM, evI, a_slM, a_setS, store, a_retS, retE, a_setG, a_seqS, a_ifS, retN, a_nxS, a_ite, a_itemsM, itemsOf, SV.dat, SV.asI, SV.asQ, a_enuM, enumM, oAdd, oSub, int1, oLt, oLe, oGt, oGe, List.getElem?_cons_zero, List.getElem?_cons_succ, List.set_cons_zero, List.set_cons_succ, lc, oLen, oEq_dec, hz]
theorem grown_2 {lot : List (List Str)} {ws : List Str} {sv : SV} (hsv : LSv sv lot) (hl : ∀ v ∈ lot, Ws v) (hw : Nms ws) (hlen : ws.length ≤ 4) :
    ∃ sv', F__law_grown [sv, .im (wd ws), .im (iD 2)] = some (.im (enc (g2 lot ws)), [sv', .im (wd ws), .im (iD 2)]) := by
  have hle := worlds_le hlen
  have c : callM F__law_all [] (consM (fVar 1) (retM [])) [sv, .im (wd ws), .im (iD 2), .no, .no, .no, .no, .no, .no, .no] = some (.own ((worlds ws).map wd), [sv, .im (wd ws), .im (iD 2), .no, .no, .no, .no, .no, .no, .no]) := call_im [wd ws] (by simp [a_bind, a_ret, a_fVar, a_fC, a_op2, a_opN, a_op1, FN.view, views, frz, a_frM, a_consM, a_tupM, a_lstM, mkT, mkL, a_boolE, evB, a_truE, truM, truSV, a_notM, a_notV, a_andM, a_orM, a_andV, a_orV, a_ifM, a_loM, evI, a_slM, a_setS, store, a_retS, retE, a_setG, a_seqS, a_ifS, retN, a_nxS, a_ite, a_itemsM, itemsOf, SV.dat, SV.asI, SV.asQ, a_enuM, enumM, oAdd, oSub, int1, oLt, oLe, oGt, oGe, List.getElem?_cons_zero, List.getElem?_cons_succ, List.set_cons_zero, List.set_cons_succ]) (law_all (by omega)) own_ne
  have hi : itemsM (frM (callM F__law_all [] (consM (fVar 1) (retM [])))) [sv, .im (wd ws), .im (iD 2), .no, .no, .no, .no, .no, .no, .no] = some ((worlds ws).map wd, [sv, .im (wd ws), .im (iD 2), .no, .no, .no, .no, .no, .no, .no]) := by simp [a_bind, a_ret, a_fVar, a_fC, a_op2, a_opN, a_op1, FN.view, views, frz, a_frM, a_consM, a_tupM, a_lstM, mkT, mkL, a_boolE, evB, a_truE, truM, truSV, a_notM, a_notV, a_andM, a_orM, a_andV, a_orV, a_ifM, a_loM, evI, a_slM, a_setS, store, a_retS, retE, a_setG, a_seqS, a_ifS, retN, a_nxS, a_ite, a_itemsM, itemsOf, SV.dat, SV.asI, SV.asQ, a_enuM, enumM, oAdd, oSub, int1, oLt, oLe, oGt, oGe, List.getElem?_cons_zero, List.getElem?_cons_succ, List.set_cons_zero, List.set_cons_succ, c]
  have nsv : noMu [4] [sv, .im (wd ws), .im (iD 2), .no, .no, .no, .no, .no, .no, .no] = true := rfl
  have lc := lcg_map (vs := [4]) (u := uName [0, 1, 2] 4) (test := f__law_grown_6) (elt := f__law_grown_7) wd (fun w => !decide (w ∈ lot)) wd hi nsv (sz _) fun w hx => by
    refine ⟨_, rfl, ?_, fun _ => ?_, rfl⟩
    · have := oIn_lsv (neg := true) hsv ((Nms_worlds hw w hx).ws) hl
      rcases hsv with rfl | rfl <;> simp [f__law_grown_6, a_bind, a_ret, a_fVar, a_fC, a_op2, a_opN, a_op1, FN.view, views, frz, a_frM, a_consM, a_tupM, a_lstM, mkT, mkL, a_boolE, evB, a_truE, truM, truSV, a_notM, a_notV, a_andM, a_orM, a_andV, a_orV, a_ifM, a_loM, evI, a_slM, a_setS, store, a_retS, retE, a_setG, a_seqS, a_ifS, retN, a_nxS, a_ite, a_itemsM, itemsOf, SV.dat, SV.asI, SV.asQ, a_enuM, enumM, oAdd, oSub, int1, oLt, oLe, oGt, oGe, List.getElem?_cons_zero, List.getElem?_cons_succ, List.set_cons_zero, List.set_cons_succ, wipeE, this]
    · simp [f__law_grown_7, a_bind, a_ret, a_fVar, a_fC, a_op2, a_opN, a_op1, FN.view, views, frz, a_frM, a_consM, a_tupM, a_lstM, mkT, mkL, a_boolE, evB, a_truE, truM, truSV, a_notM, a_notV, a_andM, a_orM, a_andV, a_orV, a_ifM, a_loM, evI, a_slM, a_setS, store, a_retS, retE, a_setG, a_seqS, a_ifS, retN, a_nxS, a_ite, a_itemsM, itemsOf, SV.dat, SV.asI, SV.asQ, a_enuM, enumM, oAdd, oSub, int1, oLt, oLe, oGt, oGe, List.getElem?_cons_zero, List.getElem?_cons_succ, List.set_cons_zero, List.set_cons_succ, wipeE]
  change lcM _ _ _ _ _ _ = some (.own ((restOf ws lot).map wd), _) at lc
  have hrl : (restOf ws lot).length ≤ 16 := Nat.le_trans (List.length_filter_le _ _) hle
  have hrw : ∀ v ∈ restOf ws lot, Ws v := fun v hv => (Nms_worlds hw v (List.mem_filter.mp hv).1).ws
  rw [enc_g2]
  generalize restOf ws lot = rest at lc hrl hrw ⊢
  have key := loop_fold (u := uName [0, 1, 2] 4) (body := f__law_grown_5) wd (fun pre env => ∃ v v7, env = [sv, .im (wd ws), .im (iD 2), .no, v, .im (lst rest), .mu ((pre.filter fun w => (above rest w).isEmpty).map fun w => enc (oterm ws w)), v7, .no, .no]) rest [] [sv, .im (wd ws), .im (iD 2), .no, .no, .im (lst rest), .mu [], .no, .no, .no] (fun p w q env e i => by
    obtain ⟨v, v7, rfl⟩ := i
    have hwm : w ∈ rest := by rw [List.nil_append] at e; rw [e]; simp
    have hp : p.length ≤ 16 := by
      have := congrArg List.length e
      rw [List.nil_append, List.length_append] at this
      omega
    obtain ⟨v7', hb⟩ := g2_body (s0 := sv) (w2 := .im (iD 2)) (w4 := .no) (v7 := v7) (pre := (p.filter fun w => (above rest w).isEmpty).map fun w => enc (oterm ws w)) hrw (hrw w hwm) hw.ws hlen (by omega) (by rw [List.length_map]; exact Nat.le_trans (List.length_filter_le _ _) (by omega))
    refine ⟨_, _, rfl, hb, .im (wd w), v7', ?_⟩
    have ef : ((p ++ [w]).filter (fun w => (above rest w).isEmpty)).map (fun w => enc (oterm ws w)) = (p.filter (fun w => (above rest w).isEmpty)).map (fun w => enc (oterm ws w)) ++ if (above rest w).isEmpty = true then [enc (oterm ws w)] else [] := by
      rw [List.filter_append, List.map_append]
      cases q : (above rest w).isEmpty <;> simp [List.filter, q]
    rw [ef]) ⟨_, _, rfl⟩
  obtain ⟨env2, h1, v, v7, h2⟩ := key
  subst h2
  rw [List.nil_append] at h1
  have e2 : (rest.filter fun w => (above rest w).isEmpty) = maxl rest := rfl
  rw [e2] at h1
  generalize hG : (maxl rest).map (fun w => enc (oterm ws w)) = R at h1
  have hi5 : itemsM (frM (fVar 5)) [sv, .im (wd ws), .im (iD 2), .no, .no, .mu (rest.map wd), .mu [], .no, .no, .no] = some (rest.map wd, [sv, .im (wd ws), .im (iD 2), .no, .no, .im (lst rest), .mu [], .no, .no, .no]) := by simp [a_bind, a_ret, a_fVar, a_fC, a_op2, a_opN, a_op1, FN.view, views, frz, a_frM, a_consM, a_tupM, a_lstM, mkT, mkL, a_boolE, evB, a_truE, truM, truSV, a_notM, a_notV, a_andM, a_orM, a_andV, a_orV, a_ifM, a_loM, evI, a_slM, a_setS, store, a_retS, retE, a_setG, a_seqS, a_ifS, retN, a_nxS, a_ite, a_itemsM, itemsOf, SV.dat, SV.asI, SV.asQ, a_enuM, enumM, oAdd, oSub, int1, oLt, oLe, oGt, oGe, List.getElem?_cons_zero, List.getElem?_cons_succ, List.set_cons_zero, List.set_cons_succ]
  refine ⟨sv, ?_⟩
  generalize hQ : rest.map wd = RR at lc hi5 h1
  generalize lst rest = RL at hi5 h1
  rcases hsv with rfl | rfl
  · generalize lst lot = L at lc hi5 h1 ⊢
    simp [F__law_grown, fnOf, outs, rg1, rg2, rg3, rg4, rg5, isIm, f__law_grown, a_bind, a_ret, a_fVar, a_fC, a_op2, a_opN, a_op1, FN.view, views, frz, a_frM, a_consM, a_tupM, a_lstM, mkT, mkL, a_boolE, evB, a_truE, truM, truSV, a_notM, a_notV, a_andM, a_orM, a_andV, a_orV, a_ifM, a_loM, evI, a_slM, a_setS, store, a_retS, retE, a_setG, a_seqS, a_ifS, retN, a_nxS, a_ite, a_itemsM, itemsOf, SV.dat, SV.asI, SV.asQ, a_enuM, enumM, oAdd, oSub, int1, oLt, oLe, oGt, oGe, List.getElem?_cons_zero, List.getElem?_cons_succ, List.set_cons_zero, List.set_cons_succ, oEq_dec, sz 0, sz 2, lc, forS_eq hi5, h1, oTuple]
  · generalize lot.map wd = L at lc hi5 h1 ⊢
    simp [F__law_grown, fnOf, outs, rg1, rg2, rg3, rg4, rg5, isIm, f__law_grown, a_bind, a_ret, a_fVar, a_fC, a_op2, a_opN, a_op1, FN.view, views, frz, a_frM, a_consM, a_tupM, a_lstM, mkT, mkL, a_boolE, evB, a_truE, truM, truSV, a_notM, a_notV, a_andM, a_orM, a_andV, a_orV, a_ifM, a_loM, evI, a_slM, a_setS, store, a_retS, retE, a_setG, a_seqS, a_ifS, retN, a_nxS, a_ite, a_itemsM, itemsOf, SV.dat, SV.asI, SV.asQ, a_enuM, enumM, oAdd, oSub, int1, oLt, oLe, oGt, oGe, List.getElem?_cons_zero, List.getElem?_cons_succ, List.set_cons_zero, List.set_cons_succ, oEq_dec, sz 0, sz 2, lc, forS_eq hi5, h1, oTuple]
theorem law_grown {lot : List (List Str)} {ws : List Str} {sv : SV} {way : Nat} (hway : way < 4) (hsv : LSv sv lot) (hl : ∀ v ∈ lot, Ws v) (hn : lot.length ≤ 300) (hs : Sm lot) (hw : Nms ws) (hlen : ws.length ≤ 4) :
    ∃ sv', F__law_grown [sv, .im (wd ws), .im (iD way)] = some (.im (enc (grown lot ws way)), [sv', .im (wd ws), .im (iD way)]) := by
  obtain ⟨h0, h3⟩ := grown_01 (ws := ws) hsv hl hn hs
  match way, hway with
  | 0, _ => exact h0
  | 1, _ => exact grown_1 hsv hn hs
  | 2, _ => exact grown_2 hsv hl hw hlen
  | 3, _ => exact h3
end K89

namespace K89
open PySem FN
open PySem.PyData (strOk)
theorem oMul_r {i j : Int} (h : small j = true) : oMul (.im (.int i)) (.im (.int j)) = some (.im (.int (i * j))) := by simp [oMul, h]
theorem oMul_l {i j : Int} (h : small i = true) : oMul (.im (.int i)) (.im (.int j)) = some (.im (.int (i * j))) := by simp [oMul, h]
theorem oMod_p {i j : Int} (h : 0 < j) : oMod (.im (.int i)) (.im (.int j)) = some (.im (.int (i % j))) := by simp [oMod, int1, SV.asI, h]
theorem oDiv_p {i j : Int} (h : 0 < j) (h2 : j < 1073741824) : oDiv (.im (.int i)) (.im (.int j)) = some (.im (.int (i / j))) := by simp [oDiv, int1, SV.asI, h, h2]
theorem oInt_i {i : Int} : oInt [.im (.int i)] = some (.im (.int i)) := rfl
theorem oInt_b {b : Bool} : oInt [.im (.bool b)] = some (.im (.int (if b then 1 else 0))) := rfl
theorem s31 : small 31 = true := by decide
theorem s69621 : small 69621 = true := by decide
theorem law_cell (ns : List Int) (k : Nat) (hk : k ≤ 100) : ∃ z : Int, F__law_cell [.im (.list (ns.map PyData.int)), .im (iD k)] = some (.im (.int z), [.im (.list (ns.map PyData.int)), .im (iD k)]) := by
  have key := loop_fold (u := uName [0, 1] 3) (body := f__law_cell_1) PyData.int (fun pre env => ∃ seed v, env = [.im (.list (ns.map PyData.int)), .im (iD k), .im (.int seed), v]) ns [] [.im (.list (ns.map PyData.int)), .im (iD k), .im (.int 17), .no] (fun p d q env e i => by
    obtain ⟨seed, v, rfl⟩ := i
    refine ⟨[.im (.list (ns.map PyData.int)), .im (iD k), .im (.int seed), .im (.int d)], [.im (.list (ns.map PyData.int)), .im (iD k), .im (.int ((seed * 31 + d % 1000003) % 1000003)), .im (.int d)], rfl, ?_, _, _, rfl⟩
    generalize PyData.list (ns.map PyData.int) = L
    simp [f__law_cell_1, a_bind, a_ret, a_fVar, a_fC, a_op2, a_opN, a_op1, FN.view, views, frz, a_frM, a_consM, a_tupM, a_lstM, mkT, mkL, a_boolE, evB, a_truE, truM, truSV, a_notM, a_notV, a_andM, a_orM, a_andV, a_orV, a_ifM, a_loM, evI, a_slM, a_setS, store, a_retS, retE, a_setG, a_seqS, a_ifS, retN, a_nxS, a_ite, a_itemsM, itemsOf, SV.dat, SV.asI, SV.asQ, a_enuM, enumM, oAdd, oSub, int1, oLt, oLe, oGt, oGe, List.getElem?_cons_zero, List.getElem?_cons_succ, List.set_cons_zero, List.set_cons_succ, oMul_r s31, oInt_i, oMod_p]) ⟨_, _, rfl⟩
  obtain ⟨env2, h1, seed, v, h2⟩ := key
  subst h2
  have hi : itemsM (frM (fVar 0)) [.im (.list (ns.map PyData.int)), .im (iD k), .im (.int 17), .no] = some (ns.map PyData.int, [.im (.list (ns.map PyData.int)), .im (iD k), .im (.int 17), .no]) := by simp [a_bind, a_ret, a_fVar, a_fC, a_op2, a_opN, a_op1, FN.view, views, frz, a_frM, a_consM, a_tupM, a_lstM, mkT, mkL, a_boolE, evB, a_truE, truM, truSV, a_notM, a_notV, a_andM, a_orM, a_andV, a_orV, a_ifM, a_loM, evI, a_slM, a_setS, store, a_retS, retE, a_setG, a_seqS, a_ifS, retN, a_nxS, a_ite, a_itemsM, itemsOf, SV.dat, SV.asI, SV.asQ, a_enuM, enumM, oAdd, oSub, int1, oLt, oLe, oGt, oGe, List.getElem?_cons_zero, List.getElem?_cons_succ, List.set_cons_zero, List.set_cons_succ]
  by_cases h : k < ns.length
  · have ix := ixL (f := PyData.int) h
    refine ⟨ns[k], ?_⟩
    simp [F__law_cell, fnOf, outs, rg1, rg2, rg3, rg4, rg5, isIm, f__law_cell, a_bind, a_ret, a_fVar, a_fC, a_op2, a_opN, a_op1, FN.view, views, frz, a_frM, a_consM, a_tupM, a_lstM, mkT, mkL, a_boolE, evB, a_truE, truM, truSV, a_notM, a_notV, a_andM, a_orM, a_andV, a_orV, a_ifM, a_loM, evI, a_slM, a_setS, store, a_retS, retE, a_setG, a_seqS, a_ifS, retN, a_nxS, a_ite, a_itemsM, itemsOf, SV.dat, SV.asI, SV.asQ, a_enuM, enumM, oAdd, oSub, int1, oLt, oLe, oGt, oGe, List.getElem?_cons_zero, List.getElem?_cons_succ, List.set_cons_zero, List.set_cons_succ, oLen, h, ix]
  · have sk : small ((k : Int) + 3) = true := by unfold small; exact decide_eq_true (by omega)
    refine ⟨(seed + 7) * ((k : Int) + 3) * 69621 % 2147483647, ?_⟩
    simp [F__law_cell, fnOf, outs, rg1, rg2, rg3, rg4, rg5, isIm, f__law_cell, a_bind, a_ret, a_fVar, a_fC, a_op2, a_opN, a_op1, FN.view, views, frz, a_frM, a_consM, a_tupM, a_lstM, mkT, mkL, a_boolE, evB, a_truE, truM, truSV, a_notM, a_notV, a_andM, a_orM, a_andV, a_orV, a_ifM, a_loM, evI, a_slM, a_setS, store, a_retS, retE, a_setG, a_seqS, a_ifS, retN, a_nxS, a_ite, a_itemsM, itemsOf, SV.dat, SV.asI, SV.asQ, a_enuM, enumM, oAdd, oSub, int1, oLt, oLe, oGt, oGe, List.getElem?_cons_zero, List.getElem?_cons_succ, List.set_cons_zero, List.set_cons_succ, oLen, h, forS_eq hi, h1, oMul_r sk, oMul_r s69621, oInt_i, oMod_p]
/-- digits below the sizes -/
def Dig (ds sizes : List Int) : Prop := ds.length = sizes.length ∧ ∀ (i : Nat) (d s : Int), ds[i]? = some d → sizes[i]? = some s → 0 ≤ d ∧ d < s
theorem Dig.snoc {ds sizes : List Int} {d s : Int} (h : Dig ds sizes) (h0 : 0 ≤ d) (h1 : d < s) : Dig (ds ++ [d]) (sizes ++ [s]) := by
  refine ⟨by rw [List.length_append, List.length_append, h.1]; rfl, fun i d' s' e1 e2 => ?_⟩
  by_cases hi : i < ds.length
  · rw [List.getElem?_append_left hi] at e1
    rw [List.getElem?_append_left (by rw [← h.1]; exact hi)] at e2
    exact h.2 i d' s' e1 e2
  · have hl : i < (ds ++ [d]).length := (List.getElem?_eq_some_iff.mp e1).1
    rw [List.length_append, List.length_singleton] at hl
    have ei : i = ds.length := by omega
    subst ei
    rw [List.getElem?_append_right (Nat.le_refl _), Nat.sub_self] at e1
    rw [h.1, List.getElem?_append_right (Nat.le_refl _), Nat.sub_self] at e2
    cases Option.some.inj e1
    cases Option.some.inj e2
    exact ⟨h0, h1⟩
theorem pow18 : oPow (.im (.int 10)) (.im (.int 18)) = some (.im (.int 1000000000000000000)) := by
  have h : (0 : Int) ≤ 18 ∧ (18 : Int) ≤ 1000000 ∧ (10 : Int).natAbs < 2 ^ 64 := by decide
  have e : (10 : Int) ^ (18 : Int).toNat = 1000000000000000000 := by decide
  simp only [oPow, int1, SV.asI]
  rw [if_pos h, e]
theorem s3 {b : Int} (h0 : 0 ≤ b) (h : b < 2147483647) : small (b / 65537 + 3) = true := by
  unfold small
  refine decide_eq_true ?_
  have h1 : b / 65537 ≤ b := Int.ediv_le_self _ h0
  have h2 : 0 ≤ b / 65537 := Int.ediv_nonneg h0 (by omega)
  omega
theorem s48271 : small 48271 = true := by decide
theorem s974711 : small 974711 = true := by decide
theorem dig1 {sizes : List Int} (hp : ∀ s ∈ sizes, 0 < s ∧ s < 1073741824) (hn : sizes.length ≤ 100) (c rest : Int) : ∃ ds e3 v6, Dig ds sizes ∧ loopS (uName [0, 1] 6) f__law_digits_2 (sizes.map PyData.int) [.im (.int c), .im (.list (sizes.map PyData.int)), .mu [], .im (.int rest), .no, .no, .no, .no] = some (.nx, [.im (.int c), .im (.list (sizes.map PyData.int)), .mu (ds.map PyData.int), .im (.int e3), .no, .no, v6, .no]) := by
  generalize hL : PyData.list (sizes.map PyData.int) = L
  have key := loop_fold (u := uName [0, 1] 6) (body := f__law_digits_2) PyData.int (fun pre env => ∃ ds rest v, Dig ds pre ∧ env = [.im (.int c), .im L, .mu (ds.map PyData.int), .im (.int rest), .no, .no, v, .no]) sizes [] [.im (.int c), .im L, .mu [], .im (.int rest), .no, .no, .no, .no] (fun p s q env e i => by
    obtain ⟨ds, rest, v, hd, rfl⟩ := i
    have hs := hp s (by rw [List.nil_append] at e; rw [e]; simp)
    have hl : ds.length ≤ 100 := by
      have := congrArg List.length e
      rw [List.nil_append, List.length_append] at this
      rw [hd.1]; omega
    refine ⟨[.im (.int c), .im L, .mu (ds.map PyData.int), .im (.int rest), .no, .no, .im (.int s), .no], [.im (.int c), .im L, .mu ((ds ++ [rest % s]).map PyData.int), .im (.int (rest / s)), .no, .no, .im (.int s), .no], rfl, ?_, ds ++ [rest % s], rest / s, .im (.int s), hd.snoc (Int.emod_nonneg _ (by omega)) (Int.emod_lt_of_pos _ hs.1), rfl⟩
    simp [f__law_digits_2, a_bind, a_ret, a_fVar, a_fC, a_op2, a_opN, a_op1, FN.view, views, frz, a_frM, a_consM, a_tupM, a_lstM, mkT, mkL, a_boolE, evB, a_truE, truM, truSV, a_notM, a_notV, a_andM, a_orM, a_andV, a_orV, a_ifM, a_loM, evI, a_slM, a_setS, store, a_retS, retE, a_setG, a_seqS, a_ifS, retN, a_nxS, a_ite, a_itemsM, itemsOf, SV.dat, SV.asI, SV.asQ, a_enuM, enumM, oAdd, oSub, int1, oLt, oLe, oGt, oGe, List.getElem?_cons_zero, List.getElem?_cons_succ, List.set_cons_zero, List.set_cons_succ, oInt_i, oMod_p hs.1, oDiv_p hs.1 hs.2, a_appS, szl ds.length]) ⟨[], rest, .no, ⟨rfl, fun i d s e => by cases e⟩, rfl⟩
  obtain ⟨env2, h1, ds, r, v, hd, h2⟩ := key
  subst h2
  rw [List.nil_append] at hd
  exact ⟨ds, r, v, hd, h1⟩
theorem dig2 {sizes : List Int} (hp : ∀ s ∈ sizes, 0 < s ∧ s < 1073741824) (hn : sizes.length ≤ 100) (c rest seed : Int) (h0 : 0 ≤ seed) (h1 : seed < 2147483647) : ∃ ds e4 v5 v7, Dig ds sizes ∧ loopS (uName [0, 1] 5) f__law_digits_1 ((List.range sizes.length).map iD) [.im (.int c), .mu (sizes.map PyData.int), .mu [], .im (.int rest), .im (.int seed), .no, .no, .no] = some (.nx, [.im (.int c), .mu (sizes.map PyData.int), .mu (ds.map PyData.int), .im (.int rest), .im (.int e4), v5, .no, v7]) := by
  have key := loop_fold (u := uName [0, 1] 5) (body := f__law_digits_1) iD (fun pre env => ∃ ds seed v v7, Dig ds (sizes.take pre.length) ∧ 0 ≤ seed ∧ seed < 2147483647 ∧ env = [.im (.int c), .mu (sizes.map PyData.int), .mu (ds.map PyData.int), .im (.int rest), .im (.int seed), v, .no, v7]) (List.range sizes.length) [] [.im (.int c), .mu (sizes.map PyData.int), .mu [], .im (.int rest), .im (.int seed), .no, .no, .no] (fun p d q env e i => by
    obtain ⟨ds, seed, v, v7, hd, hs0, hs1, rfl⟩ := i
    obtain ⟨rfl, hlt⟩ := range_split e
    have hs := hp _ (List.getElem_mem hlt)
    have ix := ixM (f := PyData.int) hlt
    have hl : ds.length ≤ 100 := by
      have := hd.1
      rw [List.length_take] at this
      omega
    have et : sizes.take (p.length + 1) = sizes.take p.length ++ [sizes[p.length]] := by rw [List.take_succ, List.getElem?_eq_getElem hlt]; rfl
    generalize sizes[p.length] = s at hs ix et
    generalize sizes.map PyData.int = L at ix ⊢
    have hn0 : 0 ≤ (seed * 48271 + 974711 * (p.length : Int) + 12345) % 2147483647 := Int.emod_nonneg _ (by omega)
    have hn1 : (seed * 48271 + 974711 * (p.length : Int) + 12345) % 2147483647 < 2147483647 := Int.emod_lt_of_pos _ (by omega)
    have sm := s3 hn0 hn1
    generalize hsd : (seed * 48271 + 974711 * (p.length : Int) + 12345) % 2147483647 = sd at hn0 hn1 sm
    refine ⟨[.im (.int c), .mu L, .mu (ds.map PyData.int), .im (.int rest), .im (.int seed), .im (iD p.length), .no, v7], [.im (.int c), .mu L, .mu ((ds ++ [sd * (sd / 65537 + 3) % 2147483629 / 19 % s]).map PyData.int), .im (.int rest), .im (.int sd), .im (iD p.length), .no, .im (.int (sd * (sd / 65537 + 3) % 2147483629))], rfl, ?_, ds ++ [sd * (sd / 65537 + 3) % 2147483629 / 19 % s], sd, .im (iD p.length), .im (.int (sd * (sd / 65537 + 3) % 2147483629)), ?_, hn0, hn1, rfl⟩
    · simp [f__law_digits_1, a_bind, a_ret, a_fVar, a_fC, a_op2, a_opN, a_op1, FN.view, views, frz, a_frM, a_consM, a_tupM, a_lstM, mkT, mkL, a_boolE, evB, a_truE, truM, truSV, a_notM, a_notV, a_andM, a_orM, a_andV, a_orV, a_ifM, a_loM, evI, a_slM, a_setS, store, a_retS, retE, a_setG, a_seqS, a_ifS, retN, a_nxS, a_ite, a_itemsM, itemsOf, SV.dat, SV.asI, SV.asQ, a_enuM, enumM, oAdd, oSub, int1, oLt, oLe, oGt, oGe, List.getElem?_cons_zero, List.getElem?_cons_succ, List.set_cons_zero, List.set_cons_succ, oMul_r s48271, oMul_l s974711, oInt_i, oMod_p, oMod_p hs.1, oDiv_p, hsd, oMul_r sm, ix, a_appS, szl ds.length]
    · rw [List.length_append, List.length_singleton, et]
      exact hd.snoc (Int.emod_nonneg _ (by omega)) (Int.emod_lt_of_pos _ hs.1)) ⟨[], seed, .no, .no, ⟨rfl, fun i d s e => by cases e⟩, h0, h1, rfl⟩
  obtain ⟨env2, h2, ds, sd, v, v7, hd, _, _, h3⟩ := key
  subst h3
  rw [List.nil_append, List.length_range, List.take_length] at hd
  exact ⟨ds, sd, v, v7, hd, h2⟩
theorem law_digits {sizes : List Int} (hp : ∀ s ∈ sizes, 0 < s ∧ s < 1073741824) (hn : sizes.length ≤ 100) (c : Int) : ∃ ds svs, Dig ds sizes ∧ F__law_digits [.im (.int c), .mu (sizes.map PyData.int)] = some (.own (ds.map PyData.int), svs) := by
  by_cases h : 1000000000000000000 ≤ c
  · obtain ⟨ds, e3, v6, hd, h1⟩ := dig1 hp hn c (c - 1000000000000000000)
    have hi : itemsM (frM (fVar 1)) [.im (.int c), .mu (sizes.map PyData.int), .mu [], .im (.int (c - 1000000000000000000)), .no, .no, .no, .no] = some (sizes.map PyData.int, [.im (.int c), .im (.list (sizes.map PyData.int)), .mu [], .im (.int (c - 1000000000000000000)), .no, .no, .no, .no]) := by simp [a_bind, a_ret, a_fVar, a_fC, a_op2, a_opN, a_op1, FN.view, views, frz, a_frM, a_consM, a_tupM, a_lstM, mkT, mkL, a_boolE, evB, a_truE, truM, truSV, a_notM, a_notV, a_andM, a_orM, a_andV, a_orV, a_ifM, a_loM, evI, a_slM, a_setS, store, a_retS, retE, a_setG, a_seqS, a_ifS, retN, a_nxS, a_ite, a_itemsM, itemsOf, SV.dat, SV.asI, SV.asQ, a_enuM, enumM, oAdd, oSub, int1, oLt, oLe, oGt, oGe, List.getElem?_cons_zero, List.getElem?_cons_succ, List.set_cons_zero, List.set_cons_succ]
    refine ⟨ds, [.im (.int c), .im (.list (sizes.map PyData.int))], hd, ?_⟩
    generalize PyData.list (sizes.map PyData.int) = LL at h1 hi ⊢
    generalize sizes.map PyData.int = L at h1 hi ⊢
    simp [F__law_digits, fnOf, outs, rg1, rg2, rg3, rg4, rg5, isIm, f__law_digits, a_bind, a_ret, a_fVar, a_fC, a_op2, a_opN, a_op1, FN.view, views, frz, a_frM, a_consM, a_tupM, a_lstM, mkT, mkL, a_boolE, evB, a_truE, truM, truSV, a_notM, a_notV, a_andM, a_orM, a_andV, a_orV, a_ifM, a_loM, evI, a_slM, a_setS, store, a_retS, retE, a_setG, a_seqS, a_ifS, retN, a_nxS, a_ite, a_itemsM, itemsOf, SV.dat, SV.asI, SV.asQ, a_enuM, enumM, oAdd, oSub, int1, oLt, oLe, oGt, oGe, List.getElem?_cons_zero, List.getElem?_cons_succ, List.set_cons_zero, List.set_cons_succ, sz 0, oInt_i, pow18, h, forS_eq hi, h1]
  · obtain ⟨ds, e4, v5, v7, hd, h1⟩ := dig2 hp hn c c (c % 2147483629) (Int.emod_nonneg _ (by omega)) (Int.lt_trans (Int.emod_lt_of_pos _ (by omega)) (by omega))
    have hi : rng1 (opN (consM (fVar 1) (retM [])) oLen) [.im (.int c), .mu (sizes.map PyData.int), .mu [], .im (.int c), .im (.int (c % 2147483629)), .no, .no, .no] = some ((List.range sizes.length).map iD, [.im (.int c), .mu (sizes.map PyData.int), .mu [], .im (.int c), .im (.int (c % 2147483629)), .no, .no, .no]) := rng1_eq (by simp [a_bind, a_ret, a_fVar, a_fC, a_op2, a_opN, a_op1, FN.view, views, frz, a_frM, a_consM, a_tupM, a_lstM, mkT, mkL, a_boolE, evB, a_truE, truM, truSV, a_notM, a_notV, a_andM, a_orM, a_andV, a_orV, a_ifM, a_loM, evI, a_slM, a_setS, store, a_retS, retE, a_setG, a_seqS, a_ifS, retN, a_nxS, a_ite, a_itemsM, itemsOf, SV.dat, SV.asI, SV.asQ, a_enuM, enumM, oAdd, oSub, int1, oLt, oLe, oGt, oGe, List.getElem?_cons_zero, List.getElem?_cons_succ, List.set_cons_zero, List.set_cons_succ, oLen]) (by omega)
    refine ⟨ds, [.im (.int c), .mu (sizes.map PyData.int)], hd, ?_⟩
    generalize sizes.map PyData.int = L at h1 hi ⊢
    simp [F__law_digits, fnOf, outs, rg1, rg2, rg3, rg4, rg5, isIm, f__law_digits, a_bind, a_ret, a_fVar, a_fC, a_op2, a_opN, a_op1, FN.view, views, frz, a_frM, a_consM, a_tupM, a_lstM, mkT, mkL, a_boolE, evB, a_truE, truM, truSV, a_notM, a_notV, a_andM, a_orM, a_andV, a_orV, a_ifM, a_loM, evI, a_slM, a_setS, store, a_retS, retE, a_setG, a_seqS, a_ifS, retN, a_nxS, a_ite, a_itemsM, itemsOf, SV.dat, SV.asI, SV.asQ, a_enuM, enumM, oAdd, oSub, int1, oLt, oLe, oGt, oGe, List.getElem?_cons_zero, List.getElem?_cons_succ, List.set_cons_zero, List.set_cons_succ, sz 0, oInt_i, pow18, h, oMod_p, forS_eq hi, h1]
/-- a row of digits below 60, and the place -/
def Row (row : List Int) : Prop := row ≠ [] ∧ row.length ≤ 100
theorem law_take {row : List Int} {sv : SV} (hsv : sv = .im (.list (row.map PyData.int)) ∨ sv = .mu (row.map PyData.int)) (h : Row row) (k : Nat) {size : Int} (hs : 0 < size) : ∃ v : Int, 0 ≤ v ∧ v < size ∧ F__law_take [sv, .mu [iD k], .im (.int size)] = some (.im (.int v), [sv, .mu [iD (k + 1)], .im (.int size)]) := by
  have hl : 0 < row.length := List.length_pos_iff.mpr h.1
  have hm : (k : Int) % (row.length : Int) = ((k % row.length : Nat) : Int) := by omega
  have hlt : k % row.length < row.length := Nat.mod_lt _ hl
  have e1 : oIx (.mu [iD k]) (.im (.int 0)) = some (.im (iD k)) := by rw [oIx_mu, atI0]; rfl
  have e2 : (0 : Int) < (row.length : Int) := by omega
  have eix : L2.ixN 1 0 = some 0 := by decide
  refine ⟨row[k % row.length] % size, Int.emod_nonneg _ (by omega), Int.emod_lt_of_pos _ hs, ?_⟩
  rcases hsv with rfl | rfl
  · have ix := ixL (f := PyData.int) hlt
    rw [← hm] at ix
    have ol : oLen [.im (.list (row.map PyData.int))] = some (.im (.int row.length)) := by simp [oLen, SV.asQ]
    generalize PyData.list (row.map PyData.int) = L at ix ol ⊢
    generalize row[k % row.length] = x at ix ⊢
    simp [F__law_take, fnOf, outs, rg1, rg2, rg3, rg4, rg5, isIm, f__law_take, a_bind, a_ret, a_fVar, a_fC, a_op2, a_opN, a_op1, FN.view, views, frz, a_frM, a_consM, a_tupM, a_lstM, mkT, mkL, a_boolE, evB, a_truE, truM, truSV, a_notM, a_notV, a_andM, a_orM, a_andV, a_orV, a_ifM, a_loM, evI, a_slM, a_setS, store, a_retS, retE, a_setG, a_seqS, a_ifS, retN, a_nxS, a_ite, a_itemsM, itemsOf, SV.dat, SV.asI, SV.asQ, a_enuM, enumM, oAdd, oSub, int1, oLt, oLe, oGt, oGe, List.getElem?_cons_zero, List.getElem?_cons_succ, List.set_cons_zero, List.set_cons_succ, e1, ol, oMod_p e2, ix, oInt_i, oMod_p hs, uIx, eix]
  · have ix := ixM (f := PyData.int) hlt
    rw [← hm] at ix
    have ol : oLen [.mu (row.map PyData.int)] = some (.im (.int row.length)) := by simp [oLen, SV.asQ]
    generalize row.map PyData.int = L at ix ol ⊢
    generalize row[k % row.length] = x at ix ⊢
    simp [F__law_take, fnOf, outs, rg1, rg2, rg3, rg4, rg5, isIm, f__law_take, a_bind, a_ret, a_fVar, a_fC, a_op2, a_opN, a_op1, FN.view, views, frz, a_frM, a_consM, a_tupM, a_lstM, mkT, mkL, a_boolE, evB, a_truE, truM, truSV, a_notM, a_notV, a_andM, a_orM, a_andV, a_orV, a_ifM, a_loM, evI, a_slM, a_setS, store, a_retS, retE, a_setG, a_seqS, a_ifS, retN, a_nxS, a_ite, a_itemsM, itemsOf, SV.dat, SV.asI, SV.asQ, a_enuM, enumM, oAdd, oSub, int1, oLt, oLe, oGt, oGe, List.getElem?_cons_zero, List.getElem?_cons_succ, List.set_cons_zero, List.set_cons_succ, e1, ol, oMod_p e2, ix, oInt_i, oMod_p hs, uIx, eix]
end K89

namespace K89
open PySem FN
open PySem.PyData (strOk)
theorem nat_mod_int {d : Int} {n : Nat} (h : 0 < n) : ∃ k : Nat, k < n ∧ d % (n : Int) = (k : Int) := by
  have h1 := Int.emod_nonneg d (by omega : (n : Int) ≠ 0)
  have h2 := Int.emod_lt_of_pos d (by omega : (0 : Int) < n)
  exact ⟨(d % (n : Int)).toNat, by omega, by omega⟩
theorem law_words (d : Int) (many : Nat) : ∃ m ∈ menus, F__law_words [.im (.int d), .im (iD many)] = some (.im (wd (m.take many)), [.im (.int d), .im (iD many)]) := by
  obtain ⟨k, hk, e⟩ := nat_mod_int (d := d) (n := 9) (by omega)
  have hk' : k < menus.length := hk
  refine ⟨menus[k], List.getElem_mem hk', ?_⟩
  have ix := ixM (l := menus) (f := fun m => .list (wds m)) hk'
  have e' : d % 9 = (k : Int) := e
  have hm : ∀ env : FEnv, (lstM (consM (frM (lstM (consM (frM (fC (.str "a"))) (consM (frM (fC (.str "b"))) (consM (frM (fC (.str "c"))) (consM (frM (fC (.str "d"))) (retM []))))))) (consM (frM (lstM (consM (frM (fC (.str "p"))) (consM (frM (fC (.str "q1"))) (consM (frM (fC (.str "rain"))) (consM (frM (fC (.str "s"))) (retM []))))))) (consM (frM (lstM (consM (frM (fC (.str "b"))) (consM (frM (fC (.str "ba"))) (consM (frM (fC (.str "bab"))) (consM (frM (fC (.str "x9"))) (retM []))))))) (consM (frM (lstM (consM (frM (fC (.str "door"))) (consM (frM (fC (.str "key"))) (consM (frM (fC (.str "lamp"))) (consM (frM (fC (.str "z"))) (retM []))))))) (consM (frM (lstM (consM (frM (fC (.str "m1"))) (consM (frM (fC (.str "m10"))) (consM (frM (fC (.str "m2"))) (consM (frM (fC (.str "n"))) (retM []))))))) (consM (frM (lstM (consM (frM (fC (.str "card"))) (consM (frM (fC (.str "code"))) (consM (frM (fC (.str "guard"))) (consM (frM (fC (.str "night0"))) (retM []))))))) (consM (frM (lstM (consM (frM (fC (.str "r"))) (consM (frM (fC (.str "s"))) (consM (frM (fC (.str "sl"))) (consM (frM (fC (.str "t"))) (retM []))))))) (consM (frM (lstM (consM (frM (fC (.str "t"))) (consM (frM (fC (.str "u"))) (consM (frM (fC (.str "v7"))) (consM (frM (fC (.str "w"))) (retM []))))))) (consM (frM (lstM (consM (frM (fC (.str "k"))) (consM (frM (fC (.str "sk"))) (consM (frM (fC (.str "slow"))) (consM (frM (fC (.str "sm"))) (retM []))))))) (retM []))))))))))) env = some (.own (menus.map fun m => .list (wds m)), env) := fun env => by
    simp [a_bind, a_ret, a_fVar, a_fC, a_op2, a_opN, a_op1, FN.view, views, frz, a_frM, a_consM, a_tupM, a_lstM, mkT, mkL, a_boolE, evB, a_truE, truM, truSV, a_notM, a_notV, a_andM, a_orM, a_andV, a_orV, a_ifM, a_loM, evI, a_slM, a_setS, store, a_retS, retE, a_setG, a_seqS, a_ifS, retN, a_nxS, a_ite, a_itemsM, itemsOf, SV.dat, SV.asI, SV.asQ, a_enuM, enumM, oAdd, oSub, int1, oLt, oLe, oGt, oGe, List.getElem?_cons_zero, List.getElem?_cons_succ, List.set_cons_zero, List.set_cons_succ, sz 4, sz 9, menus]
  generalize menus[k] = m at ix ⊢
  generalize (menus.map fun m => PyData.list (wds m)) = MM at ix hm
  simp [F__law_words, fnOf, outs, rg1, rg2, rg3, rg4, rg5, isIm, f__law_words, a_seqS, a_setS, hm, store, a_retS, a_bind, a_opN, a_consM, a_slM, a_op2, a_fVar, a_fC, a_ret, FN.view, views, retE, a_loM, evI, oInt_i, oMod_p, e', ix, oSl, cutG_take, oTuple, SV.asQ, SV.asI]
end K89

namespace K89
open PySem FN
open PySem.PyData (strOk)
theorem set_same {env : FEnv} {a : Nat} {s : SV} (h : env[a]? = some s) : env.set a s = env := by
  refine List.ext_getElem? fun i => ?_
  by_cases hi : a = i
  · subst hi
    have hl : a < env.length := (List.getElem?_eq_some_iff.mp h).1
    rw [List.getElem?_set_self hl, h]
  · rw [List.getElem?_set_ne hi]
theorem take_at {row : List Int} (h : Row row) {env : FEnv} {a b : Nat} (hab : a ≠ b) {k : Nat} (ha : env[a]? = some (.mu (row.map PyData.int))) (hb : env[b]? = some (.mu [iD k])) {size : Nat} (hs : 0 < size) :
    ∃ v : Nat, v < size ∧ callM F__law_take [] (consM (fVar a) (consM (fVar b) (consM (fC (.int (size : Int))) (retM [])))) env = some (.im (iD v), env.set b (.mu [iD (k + 1)])) := by
  obtain ⟨v, h0, h1, h2⟩ := law_take (sv := .mu (row.map PyData.int)) (.inr rfl) h k (size := (size : Int)) (by omega)
  refine ⟨v.toNat, by omega, ?_⟩
  have ev : (iD v.toNat : PyData) = .int v := by show PyData.int ((v.toNat : Nat) : Int) = _; rw [Int.toNat_of_nonneg h0]
  rw [ev]
  have hf : consM (fVar a) (consM (fVar b) (consM (fC (.int (size : Int))) (retM []))) env = some ([.slot a, .slot b, .im (.int size)], env) := by simp [a_bind, a_ret, a_fVar, a_fC, a_op2, a_opN, a_op1, FN.view, views, frz, a_frM, a_consM, a_tupM, a_lstM, mkT, mkL, a_boolE, evB, a_truE, truM, truSV, a_notM, a_notV, a_andM, a_orM, a_andV, a_orV, a_ifM, a_loM, evI, a_slM, a_setS, store, a_retS, retE, a_setG, a_seqS, a_ifS, retN, a_nxS, a_ite, a_itemsM, itemsOf, SV.dat, SV.asI, SV.asQ, a_enuM, enumM, oAdd, oSub, int1, oLt, oLe, oGt, oGe, List.getElem?_cons_zero, List.getElem?_cons_succ, List.set_cons_zero, List.set_cons_succ, ha, hb]
  have hv : views [.slot a, .slot b, .im (.int size)] env = some [.mu (row.map PyData.int), .mu [iD k], .im (.int size)] := by simp [views, FN.view, ha, hb]
  have hm : slotsMu env [.slot a, .slot b, .im (.int size)] = [a, b] := by simp [slotsMu, ha, hb]
  have := callM_im (dds := []) hf hv (by rw [hm]; simp [hab]) (by simpa using h2) im_ne
  rw [this]
  have e : upds env [.slot a, .slot b, .im (.int size)] [.mu (row.map PyData.int), .mu [iD (k + 1)], .im (.int size)] = env.set b (.mu [iD (k + 1)]) := by
    simp only [upds, ha, hb]
    exact set_same (by rw [List.getElem?_set_ne (Ne.symm hab)]; exact ha)
  rw [← e]
theorem two_ix (v : Nat) (h : v < 2) : oIx (.mu [.str "all", .str "some"]) (.im (iD v)) = some (.im (.str (gname (decide (v = 0))))) := by
  match v, h with
  | 0, _ => rw [oIx_mu, atI_nat]; rfl
  | 1, _ => rw [oIx_mu, atI_nat]; rfl
/-- the group at the end: a tag taken -/
theorem grp_ret {row : List Int} (h : Row row) {env : FEnv} {k : Nat} {a b m : Nat} {ms : List Mb} (hab : a ≠ b) (ha : env[a]? = some (.mu (row.map PyData.int))) (hb : env[b]? = some (.mu [iD k])) (hm : env[m]? = some (.mu (ms.map enc))) (hbm : b ≠ m) :
    ∃ t, tupM (consM (frM (op2 (lstM (consM (frM (fC (.str "all"))) (consM (frM (fC (.str "some"))) (retM [])))) (callM F__law_take [] (consM (fVar a) (consM (fVar b) (consM (fC (.int 2)) (retM []))))) oIx)) (consM (frM (opN (consM (fVar m) (retM [])) oTuple)) (retM []))) env = some (.im (enc (.grp t ms)), env.set b (.mu [iD (k + 1)])) := by
  obtain ⟨v, hv, c⟩ := take_at h hab ha hb (size := 2) (by omega)
  have c : callM F__law_take [] (consM (fVar a) (consM (fVar b) (consM (fC (.int 2)) (retM [])))) env = some (.im (iD v), env.set b (.mu [iD (k + 1)])) := c
  refine ⟨decide (v = 0), ?_⟩
  have h2 := two_ix v hv
  have hm' : (env.set b (.mu [iD (k + 1)]))[m]? = some (.mu (ms.map enc)) := by rw [List.getElem?_set_ne hbm]; exact hm
  have e : enc (.grp (decide (v = 0)) ms) = .tuple [.str (gname (decide (v = 0))), .tuple (ms.map enc)] := by rw [enc, encs_map]
  rw [e]
  simp [a_bind, a_ret, a_fVar, a_fC, a_op2, a_opN, a_op1, FN.view, views, frz, a_frM, a_consM, a_tupM, a_lstM, mkT, mkL, a_boolE, evB, a_truE, truM, truSV, a_notM, a_notV, a_andM, a_orM, a_andV, a_orV, a_ifM, a_loM, evI, a_slM, a_setS, store, a_retS, retE, a_setG, a_seqS, a_ifS, retN, a_nxS, a_ite, a_itemsM, itemsOf, SV.dat, SV.asI, SV.asQ, a_enuM, enumM, oAdd, oSub, int1, oLt, oLe, oGt, oGe, List.getElem?_cons_zero, List.getElem?_cons_succ, List.set_cons_zero, List.set_cons_succ, c, h2, hm', oTuple, sz 2]
/-- an atom of the words -/
theorem atom_ret {row : List Int} (h : Row row) {env : FEnv} {k : Nat} {a b w : Nat} {ws : List Str} (hab : a ≠ b) (ha : env[a]? = some (.mu (row.map PyData.int))) (hb : env[b]? = some (.mu [iD k])) (hw : env[w]? = some (.im (wd ws))) (hbw : b ≠ w) (hne : 0 < ws.length) :
    ∃ x ∈ ws, tupM (consM (frM (fC (.str "atom"))) (consM (frM (op2 (fVar w) (op2 (opN (consM (callM F__law_take [] (consM (fVar a) (consM (fVar b) (consM (fC (.int 60)) (retM []))))) (retM [])) oInt) (opN (consM (fVar w) (retM [])) oLen) oMod) oIx)) (retM []))) env = some (.im (enc (.atom x)), env.set b (.mu [iD (k + 1)])) := by
  obtain ⟨v, hv, c⟩ := take_at h hab ha hb (size := 60) (by omega)
  have c : callM F__law_take [] (consM (fVar a) (consM (fVar b) (consM (fC (.int 60)) (retM [])))) env = some (.im (iD v), env.set b (.mu [iD (k + 1)])) := c
  have hlt : v % ws.length < ws.length := Nat.mod_lt _ hne
  refine ⟨ws[v % ws.length], List.getElem_mem hlt, ?_⟩
  have ix := ixT (f := PyData.str) hlt
  have hm : ((v % ws.length : Nat) : Int) = (v : Int) % (ws.length : Int) := by omega
  rw [hm] at ix
  have hw' : (env.set b (.mu [iD (k + 1)]))[w]? = some (.im (wd ws)) := by rw [List.getElem?_set_ne hbw]; exact hw
  have e2 : (0 : Int) < (ws.length : Int) := by omega
  have ol : oLen [.im (wd ws)] = some (.im (.int ws.length)) := by simp [oLen, SV.asQ]
  have e : enc (.atom ws[v % ws.length]) = .tuple [.str "atom", .str ws[v % ws.length]] := rfl
  rw [e]
  generalize ws[v % ws.length] = x at ix ⊢
  simp [a_bind, a_ret, a_fVar, a_fC, a_op2, a_opN, a_op1, FN.view, views, frz, a_frM, a_consM, a_tupM, a_lstM, mkT, mkL, a_boolE, evB, a_truE, truM, truSV, a_notM, a_notV, a_andM, a_orM, a_andV, a_orV, a_ifM, a_loM, evI, a_slM, a_setS, store, a_retS, retE, a_setG, a_seqS, a_ifS, retN, a_nxS, a_ite, a_itemsM, itemsOf, SV.dat, SV.asI, SV.asQ, a_enuM, enumM, oAdd, oSub, int1, oLt, oLe, oGt, oGe, List.getElem?_cons_zero, List.getElem?_cons_succ, List.set_cons_zero, List.set_cons_succ, hw, c, hw', oInt_i, ol, oMod_p e2, ix, sz 2]
end K89

namespace K89
open PySem FN
open PySem.PyData (strOk)
theorem dep_grp {b : Bool} {ms : List Mb} {n : Nat} (h : ∀ m ∈ ms, dep m ≤ n) : dep (.grp b ms) ≤ n + 1 := by
  rw [dep]
  have := deps_le h
  omega
theorem min_small (mo x : Nat) : oMin2 [.im (iD mo), .im (iD x)] = some (.im (iD (min mo x))) := by
  simp only [oMin2, SV.asI]
  by_cases h : x < mo
  · rw [Nat.min_eq_right (by omega)]
    simp [h]
  · rw [Nat.min_eq_left (by omega)]
    simp [h]
theorem turns_ix (v : Nat) (h : v < 12) : ∃ x : Nat, x ≤ 3 ∧ oIx (.mu [.int 2, .int 2, .int 3, .int 2, .int 1, .int 2, .int 3, .int 3, .int 2, .int 2, .int 3, .int 0]) (.im (iD v)) = some (.im (iD x)) := by
  have e : ([.int 2, .int 2, .int 3, .int 2, .int 1, .int 2, .int 3, .int 3, .int 2, .int 2, .int 3, .int 0] : List PyData) = ([2, 2, 3, 2, 1, 2, 3, 3, 2, 2, 3, 0] : List Nat).map iD := rfl
  rw [e]
  have hl : v < ([2, 2, 3, 2, 1, 2, 3, 3, 2, 2, 3, 0] : List Nat).length := h
  refine ⟨_, ?_, ixM (f := iD) hl⟩
  have : ∀ x ∈ ([2, 2, 3, 2, 1, 2, 3, 3, 2, 2, 3, 0] : List Nat), x ≤ 3 := by decide
  exact this _ (List.getElem_mem hl)
/-- the self call: both lists in slots 0, 1 -/
theorem self_call {F : FnT} {row : List Int} {env : FEnv} {k k' : Nat} {f g h : M EV} {c d e : PyData} {r : PyData} (h0 : env[0]? = some (.mu (row.map PyData.int))) (h1 : env[1]? = some (.mu [iD k])) (hf : f env = some (.im c, env)) (hg : g env = some (.im d, env)) (hh : h env = some (.im e, env))
    (hF : F [.mu (row.map PyData.int), .mu [iD k], .im c, .im d, .im e] = some (.im r, [.mu (row.map PyData.int), .mu [iD k'], .im c, .im d, .im e])) :
    callM F [] (consM (fVar 0) (consM (fVar 1) (consM f (consM g (consM h (retM [])))))) env = some (.im r, env.set 1 (.mu [iD k'])) := by
  have hff : consM (fVar 0) (consM (fVar 1) (consM f (consM g (consM h (retM []))))) env = some ([.slot 0, .slot 1, .im c, .im d, .im e], env) := by simp [a_bind, a_ret, a_fVar, a_fC, a_op2, a_opN, a_op1, FN.view, views, frz, a_frM, a_consM, a_tupM, a_lstM, mkT, mkL, a_boolE, evB, a_truE, truM, truSV, a_notM, a_notV, a_andM, a_orM, a_andV, a_orV, a_ifM, a_loM, evI, a_slM, a_setS, store, a_retS, retE, a_setG, a_seqS, a_ifS, retN, a_nxS, a_ite, a_itemsM, itemsOf, SV.dat, SV.asI, SV.asQ, a_enuM, enumM, oAdd, oSub, int1, oLt, oLe, oGt, oGe, List.getElem?_cons_zero, List.getElem?_cons_succ, List.set_cons_zero, List.set_cons_succ, h0, h1, hf, hg, hh]
  have hv : views [.slot 0, .slot 1, .im c, .im d, .im e] env = some [.mu (row.map PyData.int), .mu [iD k], .im c, .im d, .im e] := by simp [views, FN.view, h0, h1]
  have hm : slotsMu env [.slot 0, .slot 1, .im c, .im d, .im e] = [0, 1] := by simp [slotsMu, h0, h1]
  have := callM_im (dds := []) hff hv (by rw [hm]; simp) (by simpa using hF) im_ne
  rw [this]
  have e : upds env [.slot 0, .slot 1, .im c, .im d, .im e] [.mu (row.map PyData.int), .mu [iD k'], .im c, .im d, .im e] = env.set 1 (.mu [iD k']) := by
    simp only [upds, h0, h1]
    exact set_same (by rw [List.getElem?_set_ne (by omega)]; exact h0)
  rw [← e]
def Gf (m : Mb) (n : Nat) : Prop := Wf m ∧ dep m ≤ n
def Gm (m : Mb) (n : Nat) : Prop := Wfm m ∧ dep m ≤ n
theorem Gf_grp {b : Bool} {ms : List Mb} {n : Nat} (h : ∀ m ∈ ms, Gm m n) : Gf (.grp b ms) (n + 1) := ⟨Wfs_of fun m hm => (h m hm).1, dep_grp fun m hm => (h m hm).2⟩
theorem law_formula {row : List Int} (hr : Row row) {ws : List Str} (hw : Nms ws) (hl : ws.length ≤ 8) : ∀ (n d k mo : Nat), d < n → ∃ m k', Gf m (2 * d + 1) ∧ F__law_formula n [.mu (row.map PyData.int), .mu [iD k], .im (wd ws), .im (iD d), .im (iD mo)] = some (.im (enc m), [.mu (row.map PyData.int), .mu [iD k'], .im (wd ws), .im (iD d), .im (iD mo)])
  | n + 1, d, k, mo, hd => by
    obtain ⟨pk, hpk, c1⟩ := take_at hr (env := [.mu (row.map PyData.int), .mu [iD k], .im (wd ws), .im (iD d), .im (iD mo), .no, .no, .no, .no]) (a := 0) (b := 1) (by omega) rfl rfl (size := 10) (by omega)
    have s1 : setS [0, 1, 2, 3, 4] 5 (callM F__law_take [] (consM (fVar 0) (consM (fVar 1) (consM (fC (.int 10)) (retM []))))) [.mu (row.map PyData.int), .mu [iD k], .im (wd ws), .im (iD d), .im (iD mo), .no, .no, .no, .no] = some (.nx, [.mu (row.map PyData.int), .mu [iD (k + 1)], .im (wd ws), .im (iD d), .im (iD mo), .im (iD pk), .no, .no, .no]) := by
      have c1 : callM F__law_take [] (consM (fVar 0) (consM (fVar 1) (consM (fC (.int 10)) (retM [])))) [.mu (row.map PyData.int), .mu [iD k], .im (wd ws), .im (iD d), .im (iD mo), .no, .no, .no, .no] = _ := c1
      simp [a_setS, c1, store, frz]
    have ol : oLen [.im (wd ws)] = some (.im (.int ws.length)) := by simp [oLen, SV.asQ]
    by_cases hatom : 0 < ws.length ∧ (d = 0 ∨ pk < 2)
    · obtain ⟨x, hx, at1⟩ := atom_ret hr (env := [.mu (row.map PyData.int), .mu [iD (k + 1)], .im (wd ws), .im (iD d), .im (iD mo), .im (iD pk), .no, .no, .no]) (a := 0) (b := 1) (w := 2) (by omega) rfl rfl rfl (by omega) hatom.1
      refine ⟨.atom x, k + 2, ⟨hw x hx, by simp only [dep]; omega⟩, ?_⟩
      have t : andM (boolE (op2 (opN (consM (fVar 2) (retM [])) oLen) (fC (.int 0)) oGt)) (orM (boolE (op2 (fVar 3) (fC (.int 0)) oEq)) (boolE (op2 (fVar 5) (fC (.int 2)) oLt))) [.mu (row.map PyData.int), .mu [iD (k + 1)], .im (wd ws), .im (iD d), .im (iD mo), .im (iD pk), .no, .no, .no] = some (true, [.mu (row.map PyData.int), .mu [iD (k + 1)], .im (wd ws), .im (iD d), .im (iD mo), .im (iD pk), .no, .no, .no]) := by
        rcases hatom with ⟨h1, h2 | h2⟩
        · simp [a_bind, a_ret, a_fVar, a_fC, a_op2, a_opN, a_op1, FN.view, views, frz, a_frM, a_consM, a_tupM, a_lstM, mkT, mkL, a_boolE, evB, a_truE, truM, truSV, a_notM, a_notV, a_andM, a_orM, a_andV, a_orV, a_ifM, a_loM, evI, a_slM, a_setS, store, a_retS, retE, a_setG, a_seqS, a_ifS, retN, a_nxS, a_ite, a_itemsM, itemsOf, SV.dat, SV.asI, SV.asQ, a_enuM, enumM, oAdd, oSub, int1, oLt, oLe, oGt, oGe, List.getElem?_cons_zero, List.getElem?_cons_succ, List.set_cons_zero, List.set_cons_succ, ol, oEq_dec, h1, h2]
        · by_cases h3 : d = 0
          · simp [a_bind, a_ret, a_fVar, a_fC, a_op2, a_opN, a_op1, FN.view, views, frz, a_frM, a_consM, a_tupM, a_lstM, mkT, mkL, a_boolE, evB, a_truE, truM, truSV, a_notM, a_notV, a_andM, a_orM, a_andV, a_orV, a_ifM, a_loM, evI, a_slM, a_setS, store, a_retS, retE, a_setG, a_seqS, a_ifS, retN, a_nxS, a_ite, a_itemsM, itemsOf, SV.dat, SV.asI, SV.asQ, a_enuM, enumM, oAdd, oSub, int1, oLt, oLe, oGt, oGe, List.getElem?_cons_zero, List.getElem?_cons_succ, List.set_cons_zero, List.set_cons_succ, ol, oEq_dec, h1, h3]
          · simp [a_bind, a_ret, a_fVar, a_fC, a_op2, a_opN, a_op1, FN.view, views, frz, a_frM, a_consM, a_tupM, a_lstM, mkT, mkL, a_boolE, evB, a_truE, truM, truSV, a_notM, a_notV, a_andM, a_orM, a_andV, a_orV, a_ifM, a_loM, evI, a_slM, a_setS, store, a_retS, retE, a_setG, a_seqS, a_ifS, retN, a_nxS, a_ite, a_itemsM, itemsOf, SV.dat, SV.asI, SV.asQ, a_enuM, enumM, oAdd, oSub, int1, oLt, oLe, oGt, oGe, List.getElem?_cons_zero, List.getElem?_cons_succ, List.set_cons_zero, List.set_cons_succ, ol, oEq_dec, h1, h2, h3]; omega
      have hf : f__law_formula (F__law_formula n) [.mu (row.map PyData.int), .mu [iD k], .im (wd ws), .im (iD d), .im (iD mo), .no, .no, .no, .no] = some (.rt (.im (enc (.atom x))), [.mu (row.map PyData.int), .mu [iD (k + 2)], .im (wd ws), .im (iD d), .im (iD mo), .im (iD pk), .no, .no, .no]) := by
        unfold f__law_formula
        rw [seqS_nx s1]
        refine seqS_rt ?_
        rw [ifS_t t]
        rw [a_retS, a_bind, at1]
        rfl
      exact fn_rt (pin := [0, 1, 2, 3, 4]) (n := 5) (m := 4) (svs := [.mu (row.map PyData.int), .mu [iD k], .im (wd ws), .im (iD d), .im (iD mo)]) hf rfl rfl im_ne
    · have t : andM (boolE (op2 (opN (consM (fVar 2) (retM [])) oLen) (fC (.int 0)) oGt)) (orM (boolE (op2 (fVar 3) (fC (.int 0)) oEq)) (boolE (op2 (fVar 5) (fC (.int 2)) oLt))) [.mu (row.map PyData.int), .mu [iD (k + 1)], .im (wd ws), .im (iD d), .im (iD mo), .im (iD pk), .no, .no, .no] = some (false, [.mu (row.map PyData.int), .mu [iD (k + 1)], .im (wd ws), .im (iD d), .im (iD mo), .im (iD pk), .no, .no, .no]) := by
        by_cases h1 : 0 < ws.length
        · have h2 : ¬ d = 0 := fun z => hatom ⟨h1, .inl z⟩
          have h3 : ¬ ((pk : Int) < 2) := fun z => hatom ⟨h1, .inr (by omega)⟩
          simp [a_bind, a_ret, a_fVar, a_fC, a_op2, a_opN, a_op1, FN.view, views, frz, a_frM, a_consM, a_tupM, a_lstM, mkT, mkL, a_boolE, evB, a_truE, truM, truSV, a_notM, a_notV, a_andM, a_orM, a_andV, a_orV, a_ifM, a_loM, evI, a_slM, a_setS, store, a_retS, retE, a_setG, a_seqS, a_ifS, retN, a_nxS, a_ite, a_itemsM, itemsOf, SV.dat, SV.asI, SV.asQ, a_enuM, enumM, oAdd, oSub, int1, oLt, oLe, oGt, oGe, List.getElem?_cons_zero, List.getElem?_cons_succ, List.set_cons_zero, List.set_cons_succ, ol, oEq_dec, h1, h2, h3]
        · simp [a_bind, a_ret, a_fVar, a_fC, a_op2, a_opN, a_op1, FN.view, views, frz, a_frM, a_consM, a_tupM, a_lstM, mkT, mkL, a_boolE, evB, a_truE, truM, truSV, a_notM, a_notV, a_andM, a_orM, a_andV, a_orV, a_ifM, a_loM, evI, a_slM, a_setS, store, a_retS, retE, a_setG, a_seqS, a_ifS, retN, a_nxS, a_ite, a_itemsM, itemsOf, SV.dat, SV.asI, SV.asQ, a_enuM, enumM, oAdd, oSub, int1, oLt, oLe, oGt, oGe, List.getElem?_cons_zero, List.getElem?_cons_succ, List.set_cons_zero, List.set_cons_succ, ol, h1]
      have s3 : setS [0, 1, 2, 3, 4] 6 (lstM (retM [])) [.mu (row.map PyData.int), .mu [iD (k + 1)], .im (wd ws), .im (iD d), .im (iD mo), .im (iD pk), .no, .no, .no] = some (.nx, [.mu (row.map PyData.int), .mu [iD (k + 1)], .im (wd ws), .im (iD d), .im (iD mo), .im (iD pk), .mu [], .no, .no]) := by simp [a_bind, a_ret, a_fVar, a_fC, a_op2, a_opN, a_op1, FN.view, views, frz, a_frM, a_consM, a_tupM, a_lstM, mkT, mkL, a_boolE, evB, a_truE, truM, truSV, a_notM, a_notV, a_andM, a_orM, a_andV, a_orV, a_ifM, a_loM, evI, a_slM, a_setS, store, a_retS, retE, a_setG, a_seqS, a_ifS, retN, a_nxS, a_ite, a_itemsM, itemsOf, SV.dat, SV.asI, SV.asQ, a_enuM, enumM, oAdd, oSub, int1, oLt, oLe, oGt, oGe, List.getElem?_cons_zero, List.getElem?_cons_succ, List.set_cons_zero, List.set_cons_succ, sz 0]
      -- the members
      have s4 : ∃ (k2 : Nat) (ms : List Mb) (v7 v8 : SV), (∀ m ∈ ms, Gm m (2 * d)) ∧ (ifS (boolE (op2 (fVar 3) (fC (.int 0)) oGt)) (forS (rng1 (opN (consM (fVar 4) (consM (op2 (lstM (consM (frM (fC (.int 2))) (consM (frM (fC (.int 2))) (consM (frM (fC (.int 3))) (consM (frM (fC (.int 2))) (consM (frM (fC (.int 1))) (consM (frM (fC (.int 2))) (consM (frM (fC (.int 3))) (consM (frM (fC (.int 3))) (consM (frM (fC (.int 2))) (consM (frM (fC (.int 2))) (consM (frM (fC (.int 3))) (consM (frM (fC (.int 0))) (retM [])))))))))))))) (callM F__law_take [] (consM (fVar 0) (consM (fVar 1) (consM (fC (.int 12)) (retM []))))) oIx) (retM []))) oMin2)) (uName [0, 1, 2, 3, 4] 7) (f__law_formula_1 (F__law_formula n))) nxS) [.mu (row.map PyData.int), .mu [iD (k + 1)], .im (wd ws), .im (iD d), .im (iD mo), .im (iD pk), .mu [], .no, .no] = some (.nx, [.mu (row.map PyData.int), .mu [iD k2], .im (wd ws), .im (iD d), .im (iD mo), .im (iD pk), .mu (ms.map enc), v7, v8]) := by
        by_cases h0 : d = 0
        · refine ⟨k + 1, [], .no, .no, fun m hm => (by cases hm), ?_⟩
          have tt : boolE (op2 (fVar 3) (fC (.int 0)) oGt) [.mu (row.map PyData.int), .mu [iD (k + 1)], .im (wd ws), .im (iD d), .im (iD mo), .im (iD pk), .mu [], .no, .no] = some (false, [.mu (row.map PyData.int), .mu [iD (k + 1)], .im (wd ws), .im (iD d), .im (iD mo), .im (iD pk), .mu [], .no, .no]) := by simp [a_bind, a_ret, a_fVar, a_fC, a_op2, a_opN, a_op1, FN.view, views, frz, a_frM, a_consM, a_tupM, a_lstM, mkT, mkL, a_boolE, evB, a_truE, truM, truSV, a_notM, a_notV, a_andM, a_orM, a_andV, a_orV, a_ifM, a_loM, evI, a_slM, a_setS, store, a_retS, retE, a_setG, a_seqS, a_ifS, retN, a_nxS, a_ite, a_itemsM, itemsOf, SV.dat, SV.asI, SV.asQ, a_enuM, enumM, oAdd, oSub, int1, oLt, oLe, oGt, oGe, List.getElem?_cons_zero, List.getElem?_cons_succ, List.set_cons_zero, List.set_cons_succ, h0]
          rw [ifS_f tt]
          rfl
        · have tt : boolE (op2 (fVar 3) (fC (.int 0)) oGt) [.mu (row.map PyData.int), .mu [iD (k + 1)], .im (wd ws), .im (iD d), .im (iD mo), .im (iD pk), .mu [], .no, .no] = some (true, [.mu (row.map PyData.int), .mu [iD (k + 1)], .im (wd ws), .im (iD d), .im (iD mo), .im (iD pk), .mu [], .no, .no]) := by
            have : 0 < d := by omega
            simp [a_bind, a_ret, a_fVar, a_fC, a_op2, a_opN, a_op1, FN.view, views, frz, a_frM, a_consM, a_tupM, a_lstM, mkT, mkL, a_boolE, evB, a_truE, truM, truSV, a_notM, a_notV, a_andM, a_orM, a_andV, a_orV, a_ifM, a_loM, evI, a_slM, a_setS, store, a_retS, retE, a_setG, a_seqS, a_ifS, retN, a_nxS, a_ite, a_itemsM, itemsOf, SV.dat, SV.asI, SV.asQ, a_enuM, enumM, oAdd, oSub, int1, oLt, oLe, oGt, oGe, List.getElem?_cons_zero, List.getElem?_cons_succ, List.set_cons_zero, List.set_cons_succ, this]
          rw [ifS_t tt]
          obtain ⟨tv, htv, c2⟩ := take_at hr (env := [.mu (row.map PyData.int), .mu [iD (k + 1)], .im (wd ws), .im (iD d), .im (iD mo), .im (iD pk), .mu [], .no, .no]) (a := 0) (b := 1) (by omega) rfl rfl (size := 12) (by omega)
          have c2 : callM F__law_take [] (consM (fVar 0) (consM (fVar 1) (consM (fC (.int 12)) (retM [])))) [.mu (row.map PyData.int), .mu [iD (k + 1)], .im (wd ws), .im (iD d), .im (iD mo), .im (iD pk), .mu [], .no, .no] = some (.im (iD tv), [.mu (row.map PyData.int), .mu [iD (k + 2)], .im (wd ws), .im (iD d), .im (iD mo), .im (iD pk), .mu [], .no, .no]) := c2
          obtain ⟨x, hx, ix⟩ := turns_ix tv htv
          have hi := rng1_eq (n := min mo x) (f := opN (consM (fVar 4) (consM (op2 (lstM (consM (frM (fC (.int 2))) (consM (frM (fC (.int 2))) (consM (frM (fC (.int 3))) (consM (frM (fC (.int 2))) (consM (frM (fC (.int 1))) (consM (frM (fC (.int 2))) (consM (frM (fC (.int 3))) (consM (frM (fC (.int 3))) (consM (frM (fC (.int 2))) (consM (frM (fC (.int 2))) (consM (frM (fC (.int 3))) (consM (frM (fC (.int 0))) (retM [])))))))))))))) (callM F__law_take [] (consM (fVar 0) (consM (fVar 1) (consM (fC (.int 12)) (retM []))))) oIx) (retM []))) oMin2) (env := [.mu (row.map PyData.int), .mu [iD (k + 1)], .im (wd ws), .im (iD d), .im (iD mo), .im (iD pk), .mu [], .no, .no]) (env1 := [.mu (row.map PyData.int), .mu [iD (k + 2)], .im (wd ws), .im (iD d), .im (iD mo), .im (iD pk), .mu [], .no, .no]) (by
            have mn := min_small mo x
            generalize row.map PyData.int = RR at c2 ⊢
            generalize iD (k + 1) = K1 at c2 ⊢
            generalize iD (k + 2) = K2 at c2 ⊢
            simp only [iD] at c2 ix mn ⊢
            simp [a_bind, a_ret, a_fVar, a_fC, a_op2, a_opN, a_op1, FN.view, views, frz, a_frM, a_consM, a_tupM, a_lstM, mkT, mkL, a_boolE, evB, a_truE, truM, truSV, a_notM, a_notV, a_andM, a_orM, a_andV, a_orV, a_ifM, a_loM, evI, a_slM, a_setS, store, a_retS, retE, a_setG, a_seqS, a_ifS, retN, a_nxS, a_ite, a_itemsM, itemsOf, SV.dat, SV.asI, SV.asQ, a_enuM, enumM, oAdd, oSub, int1, oLt, oLe, oGt, oGe, List.getElem?_cons_zero, List.getElem?_cons_succ, List.set_cons_zero, List.set_cons_succ, sz 12, c2, ix, mn]) (by omega)
          rw [forS_eq hi]
          have key := loop_fold (u := uName [0, 1, 2, 3, 4] 7) (body := f__law_formula_1 (F__law_formula n)) iD (fun pre env => ∃ (k : Nat) (ms : List Mb) (v7 v8 : SV), (∀ m ∈ ms, Gm m (2 * d)) ∧ ms.length = pre.length ∧ env = [.mu (row.map PyData.int), .mu [iD k], .im (wd ws), .im (iD d), .im (iD mo), .im (iD pk), .mu (ms.map enc), v7, v8]) (List.range (min mo x)) [] [.mu (row.map PyData.int), .mu [iD (k + 2)], .im (wd ws), .im (iD d), .im (iD mo), .im (iD pk), .mu [], .no, .no] (fun p q r env e i => by
            obtain ⟨k, ms, v7, v8, hms, hlen, rfl⟩ := i
            obtain ⟨rfl, hlt⟩ := range_split e
            obtain ⟨m, k', hm, hF⟩ := law_formula hr hw hl n (d - 1) k 2 (by omega)
            have ed : ((d : Int) - 1) = ((d - 1 : Nat) : Int) := by omega
            have cs := self_call (F := F__law_formula n) (row := row) (k := k) (k' := k') (f := fVar 2) (g := op2 (fVar 3) (fC (.int 1)) oSub) (h := fC (.int 2)) (env := [.mu (row.map PyData.int), .mu [iD k], .im (wd ws), .im (iD d), .im (iD mo), .im (iD pk), .mu (ms.map enc), .im (iD p.length), v8]) rfl rfl (c := wd ws) (d := iD (d - 1)) (e := iD 2) rfl (by simp only [iD]; rw [← ed]; simp [a_bind, a_ret, a_fVar, a_fC, a_op2, a_opN, a_op1, FN.view, views, frz, a_frM, a_consM, a_tupM, a_lstM, mkT, mkL, a_boolE, evB, a_truE, truM, truSV, a_notM, a_notV, a_andM, a_orM, a_andV, a_orV, a_ifM, a_loM, evI, a_slM, a_setS, store, a_retS, retE, a_setG, a_seqS, a_ifS, retN, a_nxS, a_ite, a_itemsM, itemsOf, SV.dat, SV.asI, SV.asQ, a_enuM, enumM, oAdd, oSub, int1, oLt, oLe, oGt, oGe, List.getElem?_cons_zero, List.getElem?_cons_succ, List.set_cons_zero, List.set_cons_succ]) rfl hF
            obtain ⟨tv, htv, c2⟩ := take_at hr (env := [.mu (row.map PyData.int), .mu [iD k'], .im (wd ws), .im (iD d), .im (iD mo), .im (iD pk), .mu (ms.map enc), .im (iD p.length), .im (enc m)]) (a := 0) (b := 1) (by omega) rfl rfl (size := 5) (by omega)
            have hdm : 2 * (d - 1) + 1 ≤ 2 * d - 1 := by omega
            have hml : ms.length < sizeLine := szl _ (by omega)
            have b1 : setS [0, 1, 2, 3, 4] 8 (callM (F__law_formula n) [] (consM (fVar 0) (consM (fVar 1) (consM (fVar 2) (consM (op2 (fVar 3) (fC (.int 1)) oSub) (consM (fC (.int 2)) (retM []))))))) [.mu (row.map PyData.int), .mu [iD k], .im (wd ws), .im (iD d), .im (iD mo), .im (iD pk), .mu (ms.map enc), .im (iD p.length), v8] = some (.nx, [.mu (row.map PyData.int), .mu [iD k'], .im (wd ws), .im (iD d), .im (iD mo), .im (iD pk), .mu (ms.map enc), .im (iD p.length), .im (enc m)]) := by
              rw [a_setS]
              have cs : callM (F__law_formula n) [] (consM (fVar 0) (consM (fVar 1) (consM (fVar 2) (consM (op2 (fVar 3) (fC (.int 1)) oSub) (consM (fC (.int 2)) (retM [])))))) [.mu (row.map PyData.int), .mu [iD k], .im (wd ws), .im (iD d), .im (iD mo), .im (iD pk), .mu (ms.map enc), .im (iD p.length), v8] = _ := cs
              rw [cs]
              simp [store, frz]
            have c2 : callM F__law_take [] (consM (fVar 0) (consM (fVar 1) (consM (fC (.int 5)) (retM [])))) [.mu (row.map PyData.int), .mu [iD k'], .im (wd ws), .im (iD d), .im (iD mo), .im (iD pk), .mu (ms.map enc), .im (iD p.length), .im (enc m)] = some (.im (iD tv), [.mu (row.map PyData.int), .mu [iD (k' + 1)], .im (wd ws), .im (iD d), .im (iD mo), .im (iD pk), .mu (ms.map enc), .im (iD p.length), .im (enc m)]) := c2
            by_cases h5 : tv < 2
            · refine ⟨_, [.mu (row.map PyData.int), .mu [iD (k' + 1)], .im (wd ws), .im (iD d), .im (iD mo), .im (iD pk), .mu ((ms ++ [Mb.neg m]).map enc), .im (iD p.length), .im (enc (Mb.neg m))], rfl, ?_, k' + 1, ms ++ [Mb.neg m], .im (iD p.length), .im (enc (Mb.neg m)), fun x hx => ?_, by rw [List.length_append, List.length_append, hlen]; rfl, rfl⟩
              · show f__law_formula_1 (F__law_formula n) [.mu (row.map PyData.int), .mu [iD k], .im (wd ws), .im (iD d), .im (iD mo), .im (iD pk), .mu (ms.map enc), .im (iD p.length), v8] = _
                unfold f__law_formula_1
                rw [seqS_nx b1]
                have en : enc (.neg m) = .tuple [.str "not", enc m] := rfl
                rw [List.map_append, List.map_singleton, en]
                generalize enc m = E at c2 ⊢
                generalize hMs : ms.map enc = MS at c2 ⊢
                have hml' : MS.length < sizeLine := by rw [← hMs, List.length_map]; exact hml
                have h5' : ((tv : Nat) : Int) < 2 := by omega
                generalize row.map PyData.int = RR at c2 ⊢
                simp only [iD] at c2 ⊢
                simp [a_bind, a_ret, a_fVar, a_fC, a_op2, a_opN, a_op1, FN.view, views, frz, a_frM, a_consM, a_tupM, a_lstM, mkT, mkL, a_boolE, evB, a_truE, truM, truSV, a_notM, a_notV, a_andM, a_orM, a_andV, a_orV, a_ifM, a_loM, evI, a_slM, a_setS, store, a_retS, retE, a_setG, a_seqS, a_ifS, retN, a_nxS, a_ite, a_itemsM, itemsOf, SV.dat, SV.asI, SV.asQ, a_enuM, enumM, oAdd, oSub, int1, oLt, oLe, oGt, oGe, List.getElem?_cons_zero, List.getElem?_cons_succ, List.set_cons_zero, List.set_cons_succ, c2, h5', sz 2, a_appS, hml']
              · rcases List.mem_append.mp hx with hx | hx
                · exact hms x hx
                · rw [List.mem_singleton.mp hx]
                  exact ⟨hm.1, by have := hm.2; simp only [dep]; omega⟩
            · refine ⟨_, [.mu (row.map PyData.int), .mu [iD (k' + 1)], .im (wd ws), .im (iD d), .im (iD mo), .im (iD pk), .mu ((ms ++ [m]).map enc), .im (iD p.length), .im (enc m)], rfl, ?_, k' + 1, ms ++ [m], .im (iD p.length), .im (enc m), fun x hx => ?_, by rw [List.length_append, List.length_append, hlen]; rfl, rfl⟩
              · show f__law_formula_1 (F__law_formula n) [.mu (row.map PyData.int), .mu [iD k], .im (wd ws), .im (iD d), .im (iD mo), .im (iD pk), .mu (ms.map enc), .im (iD p.length), v8] = _
                unfold f__law_formula_1
                rw [seqS_nx b1]
                rw [List.map_append, List.map_singleton]
                generalize enc m = E at c2 ⊢
                generalize hMs : ms.map enc = MS at c2 ⊢
                have hml' : MS.length < sizeLine := by rw [← hMs, List.length_map]; exact hml
                have h5' : ¬ ((tv : Nat) : Int) < 2 := by omega
                generalize row.map PyData.int = RR at c2 ⊢
                simp only [iD] at c2 ⊢
                simp [a_bind, a_ret, a_fVar, a_fC, a_op2, a_opN, a_op1, FN.view, views, frz, a_frM, a_consM, a_tupM, a_lstM, mkT, mkL, a_boolE, evB, a_truE, truM, truSV, a_notM, a_notV, a_andM, a_orM, a_andV, a_orV, a_ifM, a_loM, evI, a_slM, a_setS, store, a_retS, retE, a_setG, a_seqS, a_ifS, retN, a_nxS, a_ite, a_itemsM, itemsOf, SV.dat, SV.asI, SV.asQ, a_enuM, enumM, oAdd, oSub, int1, oLt, oLe, oGt, oGe, List.getElem?_cons_zero, List.getElem?_cons_succ, List.set_cons_zero, List.set_cons_succ, c2, h5', sz 2, a_appS, hml']
              · rcases List.mem_append.mp hx with hx | hx
                · exact hms x hx
                · rw [List.mem_singleton.mp hx]
                  exact ⟨hm.1.m, by have := hm.2; omega⟩) ⟨k + 2, [], .no, .no, fun m hm => (by cases hm), rfl, rfl⟩
          obtain ⟨env2, h1, k2, ms, v7, v8, hms, _, h2⟩ := key
          subst h2
          exact ⟨k2, ms, v7, v8, hms, h1⟩
      obtain ⟨k2, ms, v7, v8, hms, s4⟩ := s4
      obtain ⟨tg, rt⟩ := grp_ret hr (env := [.mu (row.map PyData.int), .mu [iD k2], .im (wd ws), .im (iD d), .im (iD mo), .im (iD pk), .mu (ms.map enc), v7, v8]) (a := 0) (b := 1) (m := 6) (ms := ms) (by omega) rfl rfl rfl (by omega)
      refine ⟨.grp tg ms, k2 + 1, Gf_grp hms, ?_⟩
      have hf : f__law_formula (F__law_formula n) [.mu (row.map PyData.int), .mu [iD k], .im (wd ws), .im (iD d), .im (iD mo), .no, .no, .no, .no] = some (.rt (.im (enc (.grp tg ms))), [.mu (row.map PyData.int), .mu [iD (k2 + 1)], .im (wd ws), .im (iD d), .im (iD mo), .im (iD pk), .mu (ms.map enc), v7, v8]) := by
        unfold f__law_formula
        rw [seqS_nx s1]
        rw [seqS_nx (by rw [ifS_f t]; rfl)]
        rw [seqS_nx s3]
        rw [seqS_nx s4]
        rw [a_retS, a_bind, rt]
        rfl
      exact fn_rt (pin := [0, 1, 2, 3, 4]) (n := 5) (m := 4) (svs := [.mu (row.map PyData.int), .mu [iD k], .im (wd ws), .im (iD d), .im (iD mo)]) hf rfl rfl im_ne
end K89

namespace K89
open PySem FN
open PySem.PyData (strOk)
theorem grp0_ret {row : List Int} (h : Row row) {env : FEnv} {k : Nat} {a b : Nat} (hab : a ≠ b) (ha : env[a]? = some (.mu (row.map PyData.int))) (hb : env[b]? = some (.mu [iD k])) :
    ∃ t, tupM (consM (frM (op2 (lstM (consM (frM (fC (.str "all"))) (consM (frM (fC (.str "some"))) (retM [])))) (callM F__law_take [] (consM (fVar a) (consM (fVar b) (consM (fC (.int 2)) (retM []))))) oIx)) (consM (frM (tupM (retM []))) (retM []))) env = some (.im (enc (.grp t [])), env.set b (.mu [iD (k + 1)])) := by
  obtain ⟨v, hv, c⟩ := take_at h hab ha hb (size := 2) (by omega)
  have c : callM F__law_take [] (consM (fVar a) (consM (fVar b) (consM (fC (.int 2)) (retM [])))) env = some (.im (iD v), env.set b (.mu [iD (k + 1)])) := c
  refine ⟨decide (v = 0), ?_⟩
  have h2 := two_ix v hv
  have e : enc (.grp (decide (v = 0)) []) = .tuple [.str (gname (decide (v = 0))), .tuple []] := by rw [enc, encs]
  rw [e]
  simp [a_bind, a_ret, a_fVar, a_fC, a_op2, a_opN, a_op1, FN.view, views, frz, a_frM, a_consM, a_tupM, a_lstM, mkT, mkL, a_boolE, evB, a_truE, truM, truSV, a_notM, a_notV, a_andM, a_orM, a_andV, a_orV, a_ifM, a_loM, evI, a_slM, a_setS, store, a_retS, retE, a_setG, a_seqS, a_ifS, retN, a_nxS, a_ite, a_itemsM, itemsOf, SV.dat, SV.asI, SV.asQ, a_enuM, enumM, oAdd, oSub, int1, oLt, oLe, oGt, oGe, List.getElem?_cons_zero, List.getElem?_cons_succ, List.set_cons_zero, List.set_cons_succ, c, h2, sz 2, sz 0]
theorem tower_body {row : List Int} (hr : Row row) {ws : List Str} (hw : Nms ws) (k t : Nat) (m : Mb) (n : Nat) (hm : Gf m n) (hn : 1 ≤ n) (hi : SV) (v6 v7 : SV) : ∃ k' m' u6 u7, Gf m' (n + 2) ∧ f__law_tower_1 [.mu (row.map PyData.int), .mu [iD k], .im (wd ws), hi, .im (enc m), .im (iD t), v6, v7] = some (.nx, [.mu (row.map PyData.int), .mu [iD k'], .im (wd ws), hi, .im (enc m'), .im (iD t), u6, u7]) := by
  generalize hR : row.map PyData.int = RR
  have ol : oLen [.im (wd ws)] = some (.im (.int ws.length)) := by simp [oLen, SV.asQ]
  have s1 : setS [0, 1, 2, 3] 6 (lstM (consM (frM (fVar 4)) (retM []))) [.mu RR, .mu [iD k], .im (wd ws), hi, .im (enc m), .im (iD t), v6, v7] = some (.nx, [.mu RR, .mu [iD k], .im (wd ws), hi, .im (enc m), .im (iD t), .mu [enc m], v7]) := by simp [a_bind, a_ret, a_fVar, a_fC, a_op2, a_opN, a_op1, FN.view, views, frz, a_frM, a_consM, a_tupM, a_lstM, mkT, mkL, a_boolE, evB, a_truE, truM, truSV, a_notM, a_notV, a_andM, a_orM, a_andV, a_orV, a_ifM, a_loM, evI, a_slM, a_setS, store, a_retS, retE, a_setG, a_seqS, a_ifS, retN, a_nxS, a_ite, a_itemsM, itemsOf, SV.dat, SV.asI, SV.asQ, a_enuM, enumM, oAdd, oSub, int1, oLt, oLe, oGt, oGe, List.getElem?_cons_zero, List.getElem?_cons_succ, List.set_cons_zero, List.set_cons_succ, sz 1]
  -- the tower, denied or not
  have s2 : ∃ x : Mb, Gm x (n + 1) ∧ ifS (boolE (op2 (callM F__law_take [] (consM (fVar 0) (consM (fVar 1) (consM (fC (.int 3)) (retM []))))) (fC (.int 0)) oGt)) (setS [0, 1, 2, 3] 6 (lstM (consM (frM (tupM (consM (frM (fC (.str "not"))) (consM (frM (fVar 4)) (retM []))))) (retM [])))) nxS [.mu RR, .mu [iD k], .im (wd ws), hi, .im (enc m), .im (iD t), .mu [enc m], v7] = some (.nx, [.mu RR, .mu [iD (k + 1)], .im (wd ws), hi, .im (enc m), .im (iD t), .mu [enc x], v7]) := by
    obtain ⟨v, hv, c⟩ := take_at hr (env := [.mu RR, .mu [iD k], .im (wd ws), hi, .im (enc m), .im (iD t), .mu [enc m], v7]) (a := 0) (b := 1) (by omega) (by rw [hR]; rfl) rfl (size := 3) (by omega)
    have c : callM F__law_take [] (consM (fVar 0) (consM (fVar 1) (consM (fC (.int 3)) (retM [])))) [.mu RR, .mu [iD k], .im (wd ws), hi, .im (enc m), .im (iD t), .mu [enc m], v7] = some (.im (iD v), [.mu RR, .mu [iD (k + 1)], .im (wd ws), hi, .im (enc m), .im (iD t), .mu [enc m], v7]) := c
    generalize iD (k + 1) = K1 at c ⊢
    by_cases h0 : 0 < v
    · refine ⟨.neg m, ⟨hm.1, by have := hm.2; simp only [dep]; omega⟩, ?_⟩
      have en : enc (.neg m) = .tuple [.str "not", enc m] := rfl
      rw [en]
      generalize enc m = E at c ⊢
      simp only [iD] at c ⊢
      simp [a_bind, a_ret, a_fVar, a_fC, a_op2, a_opN, a_op1, FN.view, views, frz, a_frM, a_consM, a_tupM, a_lstM, mkT, mkL, a_boolE, evB, a_truE, truM, truSV, a_notM, a_notV, a_andM, a_orM, a_andV, a_orV, a_ifM, a_loM, evI, a_slM, a_setS, store, a_retS, retE, a_setG, a_seqS, a_ifS, retN, a_nxS, a_ite, a_itemsM, itemsOf, SV.dat, SV.asI, SV.asQ, a_enuM, enumM, oAdd, oSub, int1, oLt, oLe, oGt, oGe, List.getElem?_cons_zero, List.getElem?_cons_succ, List.set_cons_zero, List.set_cons_succ, c, h0, sz 2, sz 1]
    · refine ⟨m, ⟨hm.1.m, by have := hm.2; omega⟩, ?_⟩
      generalize enc m = E at c ⊢
      simp only [iD] at c ⊢
      simp [a_bind, a_ret, a_fVar, a_fC, a_op2, a_opN, a_op1, FN.view, views, frz, a_frM, a_consM, a_tupM, a_lstM, mkT, mkL, a_boolE, evB, a_truE, truM, truSV, a_notM, a_notV, a_andM, a_orM, a_andV, a_orV, a_ifM, a_loM, evI, a_slM, a_setS, store, a_retS, retE, a_setG, a_seqS, a_ifS, retN, a_nxS, a_ite, a_itemsM, itemsOf, SV.dat, SV.asI, SV.asQ, a_enuM, enumM, oAdd, oSub, int1, oLt, oLe, oGt, oGe, List.getElem?_cons_zero, List.getElem?_cons_succ, List.set_cons_zero, List.set_cons_succ, c, h0]
  obtain ⟨x, hx, s2⟩ := s2
  -- the other member
  have s3 : ∃ (k' : Nat) (ms : List Mb) (u7 : SV), (∀ y ∈ ms, Gm y (n + 1)) ∧ ifS (boolE (op2 (opN (consM (fVar 2) (retM [])) oLen) (fC (.int 0)) oGt)) (seqS (setS [0, 1, 2, 3] 7 (tupM (consM (frM (fC (.str "atom"))) (consM (frM (op2 (fVar 2) (op2 (opN (consM (callM F__law_take [] (consM (fVar 0) (consM (fVar 1) (consM (fC (.int 60)) (retM []))))) (retM [])) oInt) (opN (consM (fVar 2) (retM [])) oLen) oMod) oIx)) (retM []))))) (seqS (ifS (boolE (op2 (callM F__law_take [] (consM (fVar 0) (consM (fVar 1) (consM (fC (.int 4)) (retM []))))) (fC (.int 0)) oEq)) (setS [0, 1, 2, 3] 7 (tupM (consM (frM (fC (.str "not"))) (consM (frM (fVar 7)) (retM []))))) nxS) (insS 6 (callM F__law_take [] (consM (fVar 0) (consM (fVar 1) (consM (fC (.int 2)) (retM []))))) (frM (fVar 7))))) nxS [.mu RR, .mu [iD (k + 1)], .im (wd ws), hi, .im (enc m), .im (iD t), .mu [enc x], v7] = some (.nx, [.mu RR, .mu [iD k'], .im (wd ws), hi, .im (enc m), .im (iD t), .mu (ms.map enc), u7]) := by
    by_cases h0 : 0 < ws.length
    · have tt : boolE (op2 (opN (consM (fVar 2) (retM [])) oLen) (fC (.int 0)) oGt) [.mu RR, .mu [iD (k + 1)], .im (wd ws), hi, .im (enc m), .im (iD t), .mu [enc x], v7] = some (true, [.mu RR, .mu [iD (k + 1)], .im (wd ws), hi, .im (enc m), .im (iD t), .mu [enc x], v7]) := by simp [a_bind, a_ret, a_fVar, a_fC, a_op2, a_opN, a_op1, FN.view, views, frz, a_frM, a_consM, a_tupM, a_lstM, mkT, mkL, a_boolE, evB, a_truE, truM, truSV, a_notM, a_notV, a_andM, a_orM, a_andV, a_orV, a_ifM, a_loM, evI, a_slM, a_setS, store, a_retS, retE, a_setG, a_seqS, a_ifS, retN, a_nxS, a_ite, a_itemsM, itemsOf, SV.dat, SV.asI, SV.asQ, a_enuM, enumM, oAdd, oSub, int1, oLt, oLe, oGt, oGe, List.getElem?_cons_zero, List.getElem?_cons_succ, List.set_cons_zero, List.set_cons_succ, ol, h0]
      obtain ⟨a, ha, at1⟩ := atom_ret hr (env := [.mu RR, .mu [iD (k + 1)], .im (wd ws), hi, .im (enc m), .im (iD t), .mu [enc x], v7]) (a := 0) (b := 1) (w := 2) (by omega) (by rw [hR]; rfl) rfl rfl (by omega) h0
      have t1 : setS [0, 1, 2, 3] 7 (tupM (consM (frM (fC (.str "atom"))) (consM (frM (op2 (fVar 2) (op2 (opN (consM (callM F__law_take [] (consM (fVar 0) (consM (fVar 1) (consM (fC (.int 60)) (retM []))))) (retM [])) oInt) (opN (consM (fVar 2) (retM [])) oLen) oMod) oIx)) (retM [])))) [.mu RR, .mu [iD (k + 1)], .im (wd ws), hi, .im (enc m), .im (iD t), .mu [enc x], v7] = some (.nx, [.mu RR, .mu [iD (k + 2)], .im (wd ws), hi, .im (enc m), .im (iD t), .mu [enc x], .im (enc (.atom a))]) := by
        rw [a_setS, at1]
        rfl
      have t2 : ∃ o : Mb, Gm o (n + 1) ∧ ifS (boolE (op2 (callM F__law_take [] (consM (fVar 0) (consM (fVar 1) (consM (fC (.int 4)) (retM []))))) (fC (.int 0)) oEq)) (setS [0, 1, 2, 3] 7 (tupM (consM (frM (fC (.str "not"))) (consM (frM (fVar 7)) (retM []))))) nxS [.mu RR, .mu [iD (k + 2)], .im (wd ws), hi, .im (enc m), .im (iD t), .mu [enc x], .im (enc (.atom a))] = some (.nx, [.mu RR, .mu [iD (k + 3)], .im (wd ws), hi, .im (enc m), .im (iD t), .mu [enc x], .im (enc o)]) := by
        obtain ⟨v, hv, c⟩ := take_at hr (env := [.mu RR, .mu [iD (k + 2)], .im (wd ws), hi, .im (enc m), .im (iD t), .mu [enc x], .im (enc (.atom a))]) (a := 0) (b := 1) (by omega) (by rw [hR]; rfl) rfl (size := 4) (by omega)
        have c : callM F__law_take [] (consM (fVar 0) (consM (fVar 1) (consM (fC (.int 4)) (retM [])))) [.mu RR, .mu [iD (k + 2)], .im (wd ws), hi, .im (enc m), .im (iD t), .mu [enc x], .im (enc (.atom a))] = some (.im (iD v), [.mu RR, .mu [iD (k + 3)], .im (wd ws), hi, .im (enc m), .im (iD t), .mu [enc x], .im (enc (.atom a))]) := c
        generalize iD (k + 2) = K2 at c ⊢
        generalize iD (k + 3) = K3 at c ⊢
        by_cases hv0 : v = 0
        · refine ⟨.neg (.atom a), ⟨hw a ha, by simp only [dep]; omega⟩, ?_⟩
          have en : enc (.neg (.atom a)) = .tuple [.str "not", enc (.atom a)] := rfl
          rw [en]
          generalize enc (.atom a) = E at c ⊢
          generalize enc m = E2 at c ⊢
          subst hv0
          have z : oEq (.im (iD 0)) (.im (.int 0)) = some (.im (.bool true)) := oEq_dec
          simp [a_bind, a_ret, a_fVar, a_fC, a_op2, a_opN, a_op1, FN.view, views, frz, a_frM, a_consM, a_tupM, a_lstM, mkT, mkL, a_boolE, evB, a_truE, truM, truSV, a_notM, a_notV, a_andM, a_orM, a_andV, a_orV, a_ifM, a_loM, evI, a_slM, a_setS, store, a_retS, retE, a_setG, a_seqS, a_ifS, retN, a_nxS, a_ite, a_itemsM, itemsOf, SV.dat, SV.asI, SV.asQ, a_enuM, enumM, oAdd, oSub, int1, oLt, oLe, oGt, oGe, List.getElem?_cons_zero, List.getElem?_cons_succ, List.set_cons_zero, List.set_cons_succ, c, z, sz 2]
        · refine ⟨.atom a, ⟨hw a ha, by simp only [dep]; omega⟩, ?_⟩
          have z : oEq (.im (iD v)) (.im (.int 0)) = some (.im (.bool false)) := by rw [oEq_dec]; simp [hv0]
          generalize enc (.atom a) = E at c ⊢
          generalize enc m = E2 at c ⊢
          generalize iD v = V at c z ⊢
          simp [a_bind, a_ret, a_fVar, a_fC, a_op2, a_opN, a_op1, FN.view, views, frz, a_frM, a_consM, a_tupM, a_lstM, mkT, mkL, a_boolE, evB, a_truE, truM, truSV, a_notM, a_notV, a_andM, a_orM, a_andV, a_orV, a_ifM, a_loM, evI, a_slM, a_setS, store, a_retS, retE, a_setG, a_seqS, a_ifS, retN, a_nxS, a_ite, a_itemsM, itemsOf, SV.dat, SV.asI, SV.asQ, a_enuM, enumM, oAdd, oSub, int1, oLt, oLe, oGt, oGe, List.getElem?_cons_zero, List.getElem?_cons_succ, List.set_cons_zero, List.set_cons_succ, c, z]
      obtain ⟨o, ho, t2⟩ := t2
      obtain ⟨v, hv, c⟩ := take_at hr (env := [.mu RR, .mu [iD (k + 3)], .im (wd ws), hi, .im (enc m), .im (iD t), .mu [enc x], .im (enc o)]) (a := 0) (b := 1) (by omega) (by rw [hR]; rfl) rfl (size := 2) (by omega)
      have c : callM F__law_take [] (consM (fVar 0) (consM (fVar 1) (consM (fC (.int 2)) (retM [])))) [.mu RR, .mu [iD (k + 3)], .im (wd ws), hi, .im (enc m), .im (iD t), .mu [enc x], .im (enc o)] = some (.im (iD v), [.mu RR, .mu [iD (k + 4)], .im (wd ws), hi, .im (enc m), .im (iD t), .mu [enc x], .im (enc o)]) := c
      refine ⟨k + 4, [x].take v ++ [o] ++ [x].drop v, .im (enc o), fun y hy => ?_, ?_⟩
      · have : y = x ∨ y = o := by
          rcases List.mem_append.mp hy with hy | hy
          · rcases List.mem_append.mp hy with hy | hy
            · exact .inl (List.mem_singleton.mp (List.mem_of_mem_take hy))
            · exact .inr (List.mem_singleton.mp hy)
          · exact .inl (List.mem_singleton.mp (List.mem_of_mem_drop hy))
        rcases this with rfl | rfl
        · exact hx
        · exact ho
      · rw [ifS_t tt, seqS_nx t1, seqS_nx t2]
        have em : ([x].take v ++ [o] ++ [x].drop v).map enc = [enc x].take v ++ [enc o] ++ [enc x].drop v := by simp [List.map_take, List.map_drop]
        rw [em]
        generalize iD (k + 3) = K3 at c ⊢
        generalize iD (k + 4) = K4 at c ⊢
        generalize enc m = E2 at c ⊢
        generalize enc x = EX at c ⊢
        generalize enc o = EO at c ⊢
        have hv' : v < 9223372036854775808 := by omega
        simp only [iD] at c ⊢
        simp [a_bind, a_ret, a_fVar, a_fC, a_op2, a_opN, a_op1, FN.view, views, frz, a_frM, a_consM, a_tupM, a_lstM, mkT, mkL, a_boolE, evB, a_truE, truM, truSV, a_notM, a_notV, a_andM, a_orM, a_andV, a_orV, a_ifM, a_loM, evI, a_slM, a_setS, store, a_retS, retE, a_setG, a_seqS, a_ifS, retN, a_nxS, a_ite, a_itemsM, itemsOf, SV.dat, SV.asI, SV.asQ, a_enuM, enumM, oAdd, oSub, int1, oLt, oLe, oGt, oGe, List.getElem?_cons_zero, List.getElem?_cons_succ, List.set_cons_zero, List.set_cons_succ, a_insS, c, szl 1, hv']
    · have tt : boolE (op2 (opN (consM (fVar 2) (retM [])) oLen) (fC (.int 0)) oGt) [.mu RR, .mu [iD (k + 1)], .im (wd ws), hi, .im (enc m), .im (iD t), .mu [enc x], v7] = some (false, [.mu RR, .mu [iD (k + 1)], .im (wd ws), hi, .im (enc m), .im (iD t), .mu [enc x], v7]) := by simp [a_bind, a_ret, a_fVar, a_fC, a_op2, a_opN, a_op1, FN.view, views, frz, a_frM, a_consM, a_tupM, a_lstM, mkT, mkL, a_boolE, evB, a_truE, truM, truSV, a_notM, a_notV, a_andM, a_orM, a_andV, a_orV, a_ifM, a_loM, evI, a_slM, a_setS, store, a_retS, retE, a_setG, a_seqS, a_ifS, retN, a_nxS, a_ite, a_itemsM, itemsOf, SV.dat, SV.asI, SV.asQ, a_enuM, enumM, oAdd, oSub, int1, oLt, oLe, oGt, oGe, List.getElem?_cons_zero, List.getElem?_cons_succ, List.set_cons_zero, List.set_cons_succ, ol, h0]
      refine ⟨k + 1, [x], v7, fun y hy => by rw [List.mem_singleton.mp hy]; exact hx, ?_⟩
      rw [ifS_f tt]
      rfl
  obtain ⟨k', ms, u7, hms, s3⟩ := s3
  obtain ⟨tg, rt⟩ := grp_ret hr (env := [.mu RR, .mu [iD k'], .im (wd ws), hi, .im (enc m), .im (iD t), .mu (ms.map enc), u7]) (a := 0) (b := 1) (m := 6) (ms := ms) (by omega) (by rw [hR]; rfl) rfl rfl (by omega)
  refine ⟨k' + 1, .grp tg ms, .mu (ms.map enc), u7, Gf_grp hms, ?_⟩
  unfold f__law_tower_1
  rw [seqS_nx s1, seqS_nx s2, seqS_nx s3, a_setS, rt]
  rfl
end K89

namespace K89
open PySem FN
open PySem.PyData (strOk)
theorem law_tower {row : List Int} (hr : Row row) {ws : List Str} (hw : Nms ws) (k h : Nat) (h1 : 1 ≤ h) (h8 : h ≤ 8) : ∃ m k', Gf m 18 ∧ F__law_tower [.mu (row.map PyData.int), .mu [iD k], .im (wd ws), .im (iD h)] = some (.im (enc m), [.mu (row.map PyData.int), .mu [iD k'], .im (wd ws), .im (iD h)]) := by
  generalize hR : row.map PyData.int = RR
  have ol : oLen [.im (wd ws)] = some (.im (.int ws.length)) := by simp [oLen, SV.asQ]
  obtain ⟨t0, g0⟩ := grp0_ret hr (env := [.mu RR, .mu [iD k], .im (wd ws), .im (iD h), .no, .no, .no, .no]) (a := 0) (b := 1) (by omega) (by rw [hR]; rfl) rfl
  have s1 : setS [0, 1, 2, 3] 4 (tupM (consM (frM (op2 (lstM (consM (frM (fC (.str "all"))) (consM (frM (fC (.str "some"))) (retM [])))) (callM F__law_take [] (consM (fVar 0) (consM (fVar 1) (consM (fC (.int 2)) (retM []))))) oIx)) (consM (frM (tupM (retM []))) (retM [])))) [.mu RR, .mu [iD k], .im (wd ws), .im (iD h), .no, .no, .no, .no] = some (.nx, [.mu RR, .mu [iD (k + 1)], .im (wd ws), .im (iD h), .im (enc (.grp t0 [])), .no, .no, .no]) := by
    rw [a_setS, g0]
    rfl
  have s2 : ∃ (k' : Nat) (m : Mb), Gf m 1 ∧ ifS (boolE (op2 (opN (consM (fVar 2) (retM [])) oLen) (fC (.int 0)) oGt)) (setS [0, 1, 2, 3] 4 (tupM (consM (frM (fC (.str "atom"))) (consM (frM (op2 (fVar 2) (op2 (opN (consM (callM F__law_take [] (consM (fVar 0) (consM (fVar 1) (consM (fC (.int 60)) (retM []))))) (retM [])) oInt) (opN (consM (fVar 2) (retM [])) oLen) oMod) oIx)) (retM []))))) nxS [.mu RR, .mu [iD (k + 1)], .im (wd ws), .im (iD h), .im (enc (.grp t0 [])), .no, .no, .no] = some (.nx, [.mu RR, .mu [iD k'], .im (wd ws), .im (iD h), .im (enc m), .no, .no, .no]) := by
    by_cases h0 : 0 < ws.length
    · have tt : boolE (op2 (opN (consM (fVar 2) (retM [])) oLen) (fC (.int 0)) oGt) [.mu RR, .mu [iD (k + 1)], .im (wd ws), .im (iD h), .im (enc (.grp t0 [])), .no, .no, .no] = some (true, [.mu RR, .mu [iD (k + 1)], .im (wd ws), .im (iD h), .im (enc (.grp t0 [])), .no, .no, .no]) := by simp [a_bind, a_ret, a_fVar, a_fC, a_op2, a_opN, a_op1, FN.view, views, frz, a_frM, a_consM, a_tupM, a_lstM, mkT, mkL, a_boolE, evB, a_truE, truM, truSV, a_notM, a_notV, a_andM, a_orM, a_andV, a_orV, a_ifM, a_loM, evI, a_slM, a_setS, store, a_retS, retE, a_setG, a_seqS, a_ifS, retN, a_nxS, a_ite, a_itemsM, itemsOf, SV.dat, SV.asI, SV.asQ, a_enuM, enumM, oAdd, oSub, int1, oLt, oLe, oGt, oGe, List.getElem?_cons_zero, List.getElem?_cons_succ, List.set_cons_zero, List.set_cons_succ, ol, h0]
      obtain ⟨a, ha, at1⟩ := atom_ret hr (env := [.mu RR, .mu [iD (k + 1)], .im (wd ws), .im (iD h), .im (enc (.grp t0 [])), .no, .no, .no]) (a := 0) (b := 1) (w := 2) (by omega) (by rw [hR]; rfl) rfl rfl (by omega) h0
      refine ⟨k + 2, .atom a, ⟨hw a ha, by simp [dep]⟩, ?_⟩
      rw [ifS_t tt, a_setS, at1]
      rfl
    · have tt : boolE (op2 (opN (consM (fVar 2) (retM [])) oLen) (fC (.int 0)) oGt) [.mu RR, .mu [iD (k + 1)], .im (wd ws), .im (iD h), .im (enc (.grp t0 [])), .no, .no, .no] = some (false, [.mu RR, .mu [iD (k + 1)], .im (wd ws), .im (iD h), .im (enc (.grp t0 [])), .no, .no, .no]) := by simp [a_bind, a_ret, a_fVar, a_fC, a_op2, a_opN, a_op1, FN.view, views, frz, a_frM, a_consM, a_tupM, a_lstM, mkT, mkL, a_boolE, evB, a_truE, truM, truSV, a_notM, a_notV, a_andM, a_orM, a_andV, a_orV, a_ifM, a_loM, evI, a_slM, a_setS, store, a_retS, retE, a_setG, a_seqS, a_ifS, retN, a_nxS, a_ite, a_itemsM, itemsOf, SV.dat, SV.asI, SV.asQ, a_enuM, enumM, oAdd, oSub, int1, oLt, oLe, oGt, oGe, List.getElem?_cons_zero, List.getElem?_cons_succ, List.set_cons_zero, List.set_cons_succ, ol, h0]
      refine ⟨k + 1, .grp t0 [], ⟨trivial, by simp [dep, deps]⟩, ?_⟩
      rw [ifS_f tt]
      rfl
  obtain ⟨k1, m1, hm1, s2⟩ := s2
  have hi : ∃ t, t ≤ h ∧ rng1 (op2 (fVar 3) (opN (consM (op2 (opN (consM (fVar 2) (retM [])) oLen) (fC (.int 0)) oEq) (retM [])) oInt) oSub) [.mu RR, .mu [iD k1], .im (wd ws), .im (iD h), .im (enc m1), .no, .no, .no] = some ((List.range t).map iD, [.mu RR, .mu [iD k1], .im (wd ws), .im (iD h), .im (enc m1), .no, .no, .no]) := by
    by_cases h0 : ws.length = 0
    · refine ⟨h - 1, by omega, rng1_eq ?_ (by omega)⟩
      have e : ((h - 1 : Nat) : Int) = (h : Int) - 1 := by omega
      rw [e]
      generalize enc m1 = E
      generalize iD k1 = K1
      simp [a_bind, a_ret, a_fVar, a_fC, a_op2, a_opN, a_op1, FN.view, views, frz, a_frM, a_consM, a_tupM, a_lstM, mkT, mkL, a_boolE, evB, a_truE, truM, truSV, a_notM, a_notV, a_andM, a_orM, a_andV, a_orV, a_ifM, a_loM, evI, a_slM, a_setS, store, a_retS, retE, a_setG, a_seqS, a_ifS, retN, a_nxS, a_ite, a_itemsM, itemsOf, SV.dat, SV.asI, SV.asQ, a_enuM, enumM, oAdd, oSub, int1, oLt, oLe, oGt, oGe, List.getElem?_cons_zero, List.getElem?_cons_succ, List.set_cons_zero, List.set_cons_succ, ol, oEq_dec, h0, oInt_b]
    · refine ⟨h, Nat.le_refl _, rng1_eq ?_ (by omega)⟩
      generalize enc m1 = E
      generalize iD k1 = K1
      simp [a_bind, a_ret, a_fVar, a_fC, a_op2, a_opN, a_op1, FN.view, views, frz, a_frM, a_consM, a_tupM, a_lstM, mkT, mkL, a_boolE, evB, a_truE, truM, truSV, a_notM, a_notV, a_andM, a_orM, a_andV, a_orV, a_ifM, a_loM, evI, a_slM, a_setS, store, a_retS, retE, a_setG, a_seqS, a_ifS, retN, a_nxS, a_ite, a_itemsM, itemsOf, SV.dat, SV.asI, SV.asQ, a_enuM, enumM, oAdd, oSub, int1, oLt, oLe, oGt, oGe, List.getElem?_cons_zero, List.getElem?_cons_succ, List.set_cons_zero, List.set_cons_succ, ol, oEq_dec, h0, oInt_b]
  obtain ⟨t, ht, hi⟩ := hi
  have key := loop_fold (u := uName [0, 1, 2, 3] 5) (body := f__law_tower_1) iD (fun pre env => ∃ (k : Nat) (m : Mb) (v5 v6 v7 : SV), Gf m (2 * pre.length + 1) ∧ env = [.mu RR, .mu [iD k], .im (wd ws), .im (iD h), .im (enc m), v5, v6, v7]) (List.range t) [] [.mu RR, .mu [iD k1], .im (wd ws), .im (iD h), .im (enc m1), .no, .no, .no] (fun p d q env e i => by
    obtain ⟨k, m, v5, v6, v7, hm, rfl⟩ := i
    obtain ⟨rfl, hlt⟩ := range_split e
    obtain ⟨k', m', u6, u7, hm', hb⟩ := tower_body hr hw k p.length m _ hm (by omega) (.im (iD h)) v6 v7
    rw [hR] at hb
    refine ⟨_, _, rfl, hb, k', m', .im (iD p.length), u6, u7, ?_, rfl⟩
    rw [List.length_append, List.length_singleton]
    exact hm') ⟨k1, m1, .no, .no, .no, hm1, rfl⟩
  obtain ⟨env2, h2, k2, m2, v5, v6, v7, hm2, h3⟩ := key
  subst h3
  rw [List.nil_append, List.length_range] at hm2
  refine ⟨m2, k2, ⟨hm2.1, by have := hm2.2; omega⟩, ?_⟩
  have hf : f__law_tower [.mu RR, .mu [iD k], .im (wd ws), .im (iD h), .no, .no, .no, .no] = some (.rt (.im (enc m2)), [.mu RR, .mu [iD k2], .im (wd ws), .im (iD h), .im (enc m2), v5, v6, v7]) := by
    unfold f__law_tower
    rw [seqS_nx s1, seqS_nx s2, seqS_nx (by rw [forS_eq hi]; exact h2)]
    rfl
  exact fn_rt (pin := [0, 1, 2, 3]) (n := 4) (m := 4) (f := f__law_tower) (svs := [.mu RR, .mu [iD k], .im (wd ws), .im (iD h)]) hf rfl rfl im_ne
/-! by bits -/
theorem oIn_mu_bool {x : Mb} {ms : List Mb} {n : Nat} (hx : Mok x ∧ dep x ≤ 10) (hm : ∀ m ∈ ms, Mok m ∧ dep m ≤ 10) : ∃ b, oInB true (.im (enc x)) (.mu (ms.map enc)) = some (.im (.bool b)) := by
  have hs : SeqAt.shaped (.list (ms.map enc)) = true := by
    unfold SeqAt.shaped
    rw [Bool.and_eq_true]
    rw [← encs_map]
    refine ⟨lay_encs (Moks_of fun m h => (hm m h).1), decide_eq_true ?_⟩
    show PyData.depthAll (encs ms) + 1 ≤ 64
    have h1 := depth_encs ms
    have h2 := deps_le fun m h => (hm m h).2
    omega
  have hx' := sh_enc hx.1 (by have := hx.2; omega)
  have hno : ∀ j : Str, enc x ≠ .str j := fun j z => by cases x <;> simp [enc] at z
  refine ⟨!inD (enc x) (ms.map enc), ?_⟩
  cases x <;> simp only [enc, oInB, SV.dat, SV.asQ] at hx' ⊢ <;> rw [hx', hs] <;> rfl
end K89

namespace K89
open PySem FN
open PySem.PyData (strOk)
theorem exm_ok {w : List Str} {x : Str} (h : strOk x = true) : Mok (exm w x) ∧ dep (exm w x) ≤ 2 := by
  unfold exm
  split
  · exact ⟨h, by simp [dep]⟩
  · exact ⟨h, by simp [dep]⟩
theorem exactly_ok {w ws : List Str} (h : Ws ws) : Mok (exactly w ws) ∧ dep (exactly w ws) ≤ 3 := by
  refine ⟨Moks_of fun m hm => ?_, dep_grp fun m hm => ?_⟩
  · obtain ⟨x, hx, rfl⟩ := List.mem_map.mp hm
    exact (exm_ok (h x hx)).1
  · obtain ⟨x, hx, rfl⟩ := List.mem_map.mp hm
    exact (exm_ok (h x hx)).2
theorem aterm_ok {w : List Str} (h : Ws w) : Mok (aterm w) ∧ dep (aterm w) ≤ 2 := by
  refine ⟨Moks_of fun m hm => ?_, dep_grp fun m hm => ?_⟩
  · obtain ⟨x, hx, rfl⟩ := List.mem_map.mp hm
    exact h x hx
  · obtain ⟨x, hx, rfl⟩ := List.mem_map.mp hm
    simp [dep]
theorem lform_ok {l : List (List Str)} (h : ∀ w ∈ l, Ws w) : Mok (lform l) ∧ dep (lform l) ≤ 3 := by
  refine ⟨Moks_of fun m hm => ?_, dep_grp fun m hm => ?_⟩
  · obtain ⟨x, hx, rfl⟩ := List.mem_map.mp hm
    exact (aterm_ok (h x (List.mem_filter.mp hx).1)).1
  · obtain ⟨x, hx, rfl⟩ := List.mem_map.mp hm
    exact (aterm_ok (h x (List.mem_filter.mp hx).1)).2
def Go (m : Mb) (n : Nat) : Prop := Mok m ∧ dep m ≤ n
/-- (exactly(world, words) for world in slot i) -/
theorem bits_pick {ws : List Str} (hw : Nms ws) (hl4 : ws.length = 4) {bt pk tn : SV} {Lot : List (List Str)} {G : Mb} (hG : Go G 3) {off more : List Mb} (ho : ∀ m ∈ off, Go m 3) (hm : ∀ m ∈ more, Go m 3) (hol : off.length ≤ 100) (hml : more.length ≤ 100) {p : Nat} {v9 v10 : SV} :
    ∃ (off' more' : List Mb) (v10' : SV), (∀ m ∈ off', Go m 3) ∧ (∀ m ∈ more', Go m 3) ∧ off'.length ≤ off.length + 1 ∧ more'.length ≤ more.length + 1 ∧ f__law_by_bits_1 [.im (wd ws), bt, pk, tn, .mu ((worlds ws).map wd), .im (lst Lot), .im (enc G), .mu (off.map enc), .mu (more.map enc), .im (iD p), v10, .no, .no, .no] = some (.nx, [.im (wd ws), bt, pk, tn, .mu ((worlds ws).map wd), .im (lst Lot), .im (enc G), .mu (off'.map enc), .mu (more'.map enc), .im (iD p), v10', .no, .no, .no]) := by
  have hlen : (worlds ws).length = 16 := by rw [worlds_length, hl4]
  have hlt : p % 16 < (worlds ws).length := by rw [hlen]; exact Nat.mod_lt _ (by omega)
  have ix := ixM (f := wd) hlt
  have hmem := List.getElem_mem hlt
  have hcast : ((p % 16 : Nat) : Int) = (p : Int) % 16 := by omega
  rw [hcast] at ix
  generalize (worlds ws)[p % 16] = w at ix hmem
  generalize (worlds ws).map wd = W at ix ⊢
  have hww : Ws w := (Nms_worlds hw w hmem).ws
  have hx := exactly_ok (w := w) hw.ws
  have c1 : ∀ v10 : SV, callM F__law_exactly [] (consM (op2 (fVar 4) (op2 (opN (consM (fVar 9) (retM [])) oInt) (fC (.int 16)) oMod) oIx) (consM (fVar 0) (retM []))) [.im (wd ws), bt, pk, tn, .mu W, .im (lst Lot), .im (enc G), .mu (off.map enc), .mu (more.map enc), .im (iD p), v10, .no, .no, .no] = some (.im (enc (exactly w ws)), [.im (wd ws), bt, pk, tn, .mu W, .im (lst Lot), .im (enc G), .mu (off.map enc), .mu (more.map enc), .im (iD p), v10, .no, .no, .no]) := fun v10 => call_im [wd w, wd ws] (by simp [a_bind, a_ret, a_fVar, a_fC, a_op2, a_opN, a_op1, FN.view, views, frz, a_frM, a_consM, a_tupM, a_lstM, mkT, mkL, a_boolE, evB, a_truE, truM, truSV, a_notM, a_notV, a_andM, a_orM, a_andV, a_orV, a_ifM, a_loM, evI, a_slM, a_setS, store, a_retS, retE, a_setG, a_seqS, a_ifS, retN, a_nxS, a_ite, a_itemsM, itemsOf, SV.dat, SV.asI, SV.asQ, a_enuM, enumM, oAdd, oSub, int1, oLt, oLe, oGt, oGe, List.getElem?_cons_zero, List.getElem?_cons_succ, List.set_cons_zero, List.set_cons_succ, oInt_i, oMod_p, ix]) (law_exactly hww hw.ws (by omega)) im_ne
  have c2 : ∀ v10 : SV, callM (F__law_on fuel) [] (consM (fVar 6) (consM (op2 (fVar 4) (op2 (opN (consM (fVar 9) (retM [])) oInt) (fC (.int 16)) oMod) oIx) (retM []))) [.im (wd ws), bt, pk, tn, .mu W, .im (lst Lot), .im (enc G), .mu (off.map enc), .mu (more.map enc), .im (iD p), v10, .no, .no, .no] = some (.im (.bool (on G w)), [.im (wd ws), bt, pk, tn, .mu W, .im (lst Lot), .im (enc G), .mu (off.map enc), .mu (more.map enc), .im (iD p), v10, .no, .no, .no]) := fun v10 => call_im [enc G, wd w] (by simp [a_bind, a_ret, a_fVar, a_fC, a_op2, a_opN, a_op1, FN.view, views, frz, a_frM, a_consM, a_tupM, a_lstM, mkT, mkL, a_boolE, evB, a_truE, truM, truSV, a_notM, a_notV, a_andM, a_orM, a_andV, a_orV, a_ifM, a_loM, evI, a_slM, a_setS, store, a_retS, retE, a_setG, a_seqS, a_ifS, retN, a_nxS, a_ite, a_itemsM, itemsOf, SV.dat, SV.asI, SV.asQ, a_enuM, enumM, oAdd, oSub, int1, oLt, oLe, oGt, oGe, List.getElem?_cons_zero, List.getElem?_cons_succ, List.set_cons_zero, List.set_cons_succ, oInt_i, oMod_p, ix]) (law_on fuel G w (by rw [fuel_eq]; have := hG.2; omega) hG.1 hww) im_ne
  obtain ⟨b1, h1⟩ := oIn_mu_bool (n := 0) (x := exactly w ws) (ms := off) ⟨hx.1, by have := hx.2; omega⟩ fun m h => ⟨(ho m h).1, by have := (ho m h).2; omega⟩
  obtain ⟨b2, h2⟩ := oIn_mu_bool (n := 0) (x := exactly w ws) (ms := more) ⟨hx.1, by have := hx.2; omega⟩ fun m h => ⟨(hm m h).1, by have := (hm m h).2; omega⟩
  have key : ∃ off' more' : List Mb, (∀ m ∈ off', Go m 3) ∧ (∀ m ∈ more', Go m 3) ∧ off'.length ≤ off.length + 1 ∧ more'.length ≤ more.length + 1 ∧ (if (b1 && b2) = true then (if on G w = true then (off' = off ++ [exactly w ws] ∧ more' = more) else (off' = off ∧ more' = more ++ [exactly w ws])) else (off' = off ∧ more' = more)) := by
    have hx' : Go (exactly w ws) 3 := hx
    have snoc : ∀ l : List Mb, (∀ m ∈ l, Go m 3) → ∀ m ∈ l ++ [exactly w ws], Go m 3 := fun l h m hm => by
      rcases List.mem_append.mp hm with hm | hm
      · exact h m hm
      · rw [List.mem_singleton.mp hm]; exact hx'
    by_cases q : (b1 && b2) = true
    · by_cases q2 : on G w = true
      · exact ⟨off ++ [exactly w ws], more, snoc off ho, hm, by simp, by simp, by rw [if_pos q, if_pos q2]; exact ⟨rfl, rfl⟩⟩
      · exact ⟨off, more ++ [exactly w ws], ho, snoc more hm, by simp, by simp, by rw [if_pos q, if_neg q2]; exact ⟨rfl, rfl⟩⟩
    · exact ⟨off, more, ho, hm, by simp, by simp, by rw [if_neg q]; exact ⟨rfl, rfl⟩⟩
  obtain ⟨off', more', k1, k2, k3, k4, k5⟩ := key
  refine ⟨off', more', .im (enc (exactly w ws)), k1, k2, k3, k4, ?_⟩
  have l1 : (off.map enc).length < sizeLine := szl _ (by rw [List.length_map]; omega)
  have l2 : (more.map enc).length < sizeLine := szl _ (by rw [List.length_map]; omega)
  generalize enc G = EG at c1 c2 ⊢
  generalize lst Lot = LL at c1 c2 ⊢
  generalize iD p = P at c1 c2 ⊢
  generalize hEX : enc (exactly w ws) = EX at c1 h1 h2 ⊢
  by_cases q : (b1 && b2) = true
  · rw [if_pos q] at k5
    rw [Bool.and_eq_true] at q
    obtain ⟨rfl, rfl⟩ := q
    by_cases q2 : on G w = true
    · rw [if_pos q2] at k5
      obtain ⟨rfl, rfl⟩ := k5
      rw [List.map_append, List.map_singleton, hEX]
      generalize off.map enc = OF at c1 c2 h1 l1 ⊢
      generalize more'.map enc = MO at c1 c2 h2 l2 ⊢
      simp [f__law_by_bits_1, a_bind, a_ret, a_fVar, a_fC, a_op2, a_opN, a_op1, FN.view, views, frz, a_frM, a_consM, a_tupM, a_lstM, mkT, mkL, a_boolE, evB, a_truE, truM, truSV, a_notM, a_notV, a_andM, a_orM, a_andV, a_orV, a_ifM, a_loM, evI, a_slM, a_setS, store, a_retS, retE, a_setG, a_seqS, a_ifS, retN, a_nxS, a_ite, a_itemsM, itemsOf, SV.dat, SV.asI, SV.asQ, a_enuM, enumM, oAdd, oSub, int1, oLt, oLe, oGt, oGe, List.getElem?_cons_zero, List.getElem?_cons_succ, List.set_cons_zero, List.set_cons_succ, c1, c2, h1, h2, q2, a_appS, l1]
    · rw [if_neg q2] at k5
      obtain ⟨rfl, rfl⟩ := k5
      rw [List.map_append, List.map_singleton, hEX]
      generalize off'.map enc = OF at c1 c2 h1 l1 ⊢
      generalize more.map enc = MO at c1 c2 h2 l2 ⊢
      simp [f__law_by_bits_1, a_bind, a_ret, a_fVar, a_fC, a_op2, a_opN, a_op1, FN.view, views, frz, a_frM, a_consM, a_tupM, a_lstM, mkT, mkL, a_boolE, evB, a_truE, truM, truSV, a_notM, a_notV, a_andM, a_orM, a_andV, a_orV, a_ifM, a_loM, evI, a_slM, a_setS, store, a_retS, retE, a_setG, a_seqS, a_ifS, retN, a_nxS, a_ite, a_itemsM, itemsOf, SV.dat, SV.asI, SV.asQ, a_enuM, enumM, oAdd, oSub, int1, oLt, oLe, oGt, oGe, List.getElem?_cons_zero, List.getElem?_cons_succ, List.set_cons_zero, List.set_cons_succ, c1, c2, h1, h2, q2, a_appS, l2]
  · rw [if_neg q] at k5
    obtain ⟨rfl, rfl⟩ := k5
    generalize off'.map enc = OF at c1 c2 h1 l1 ⊢
    generalize more'.map enc = MO at c1 c2 h2 l2 ⊢
    cases b1
    · simp [f__law_by_bits_1, a_bind, a_ret, a_fVar, a_fC, a_op2, a_opN, a_op1, FN.view, views, frz, a_frM, a_consM, a_tupM, a_lstM, mkT, mkL, a_boolE, evB, a_truE, truM, truSV, a_notM, a_notV, a_andM, a_orM, a_andV, a_orV, a_ifM, a_loM, evI, a_slM, a_setS, store, a_retS, retE, a_setG, a_seqS, a_ifS, retN, a_nxS, a_ite, a_itemsM, itemsOf, SV.dat, SV.asI, SV.asQ, a_enuM, enumM, oAdd, oSub, int1, oLt, oLe, oGt, oGe, List.getElem?_cons_zero, List.getElem?_cons_succ, List.set_cons_zero, List.set_cons_succ, c1, h1]
    · cases b2
      · simp [f__law_by_bits_1, a_bind, a_ret, a_fVar, a_fC, a_op2, a_opN, a_op1, FN.view, views, frz, a_frM, a_consM, a_tupM, a_lstM, mkT, mkL, a_boolE, evB, a_truE, truM, truSV, a_notM, a_notV, a_andM, a_orM, a_andV, a_orV, a_ifM, a_loM, evI, a_slM, a_setS, store, a_retS, retE, a_setG, a_seqS, a_ifS, retN, a_nxS, a_ite, a_itemsM, itemsOf, SV.dat, SV.asI, SV.asQ, a_enuM, enumM, oAdd, oSub, int1, oLt, oLe, oGt, oGe, List.getElem?_cons_zero, List.getElem?_cons_succ, List.set_cons_zero, List.set_cons_succ, c1, h1, h2]
      · exact absurd rfl q
end K89

namespace K89
open PySem FN
open PySem.PyData (strOk)
theorem call_mu1 {F : FnT} {env : FEnv} {i : Nat} {ds : List PyData} {r : EV} {sv' : SV} (hi : env[i]? = some (.mu ds)) (hF : F [.mu ds] = some (r, [sv'])) (hr : ∀ i, r ≠ .slot i) : callM F [] (consM (fVar i) (retM [])) env = some (r, env.set i sv') := by
  have hf : consM (fVar i) (retM []) env = some ([.slot i], env) := by simp [a_bind, a_ret, a_fVar, a_fC, a_op2, a_opN, a_op1, FN.view, views, frz, a_frM, a_consM, a_tupM, a_lstM, mkT, mkL, a_boolE, evB, a_truE, truM, truSV, a_notM, a_notV, a_andM, a_orM, a_andV, a_orV, a_ifM, a_loM, evI, a_slM, a_setS, store, a_retS, retE, a_setG, a_seqS, a_ifS, retN, a_nxS, a_ite, a_itemsM, itemsOf, SV.dat, SV.asI, SV.asQ, a_enuM, enumM, oAdd, oSub, int1, oLt, oLe, oGt, oGe, List.getElem?_cons_zero, List.getElem?_cons_succ, List.set_cons_zero, List.set_cons_succ, hi]
  have hv : views [.slot i] env = some [.mu ds] := by simp [views, FN.view, hi]
  have hm : slotsMu env [.slot i] = [i] := by simp [slotsMu, hi]
  have := callM_im (dds := []) hf hv (by rw [hm]; simp) (by simpa using hF) hr
  rw [this]
  have e : upds env [.slot i] [sv'] = env.set i sv' := by simp only [upds, hi]
  rw [e]
theorem law_by_bits {ws : List Str} (hw : Nms ws) (hl : ws.length ≤ 4) {bits : List Int} (hb : bits.length = 16) {picks : List Int} (hp : ∀ d ∈ picks, 0 ≤ d) (hpl : picks.length ≤ 50) (turned : Bool) :
    ∃ m svs, Go m 12 ∧ F__law_by_bits [.im (wd ws), .mu (bits.map PyData.int), .mu (picks.map PyData.int), .im (.bool turned)] = some (.im (enc m), svs) := by
  have hle := worlds_le hl
  generalize hB : bits.map PyData.int = B
  generalize hK : picks.map PyData.int = PK
  have c : callM F__law_all [] (consM (fVar 0) (retM [])) [.im (wd ws), .mu B, .mu PK, .im (.bool turned), .no, .no, .no, .no, .no, .no, .no, .no, .no, .no] = some (.own ((worlds ws).map wd), [.im (wd ws), .mu B, .mu PK, .im (.bool turned), .no, .no, .no, .no, .no, .no, .no, .no, .no, .no]) := call_im [wd ws] (by simp [a_bind, a_ret, a_fVar, a_fC, a_op2, a_opN, a_op1, FN.view, views, frz, a_frM, a_consM, a_tupM, a_lstM, mkT, mkL, a_boolE, evB, a_truE, truM, truSV, a_notM, a_notV, a_andM, a_orM, a_andV, a_orV, a_ifM, a_loM, evI, a_slM, a_setS, store, a_retS, retE, a_setG, a_seqS, a_ifS, retN, a_nxS, a_ite, a_itemsM, itemsOf, SV.dat, SV.asI, SV.asQ, a_enuM, enumM, oAdd, oSub, int1, oLt, oLe, oGt, oGe, List.getElem?_cons_zero, List.getElem?_cons_succ, List.set_cons_zero, List.set_cons_succ]) (law_all (by omega)) own_ne
  have s1 : setS [0, 1, 2, 3] 4 (callM F__law_all [] (consM (fVar 0) (retM []))) [.im (wd ws), .mu B, .mu PK, .im (.bool turned), .no, .no, .no, .no, .no, .no, .no, .no, .no, .no] = some (.nx, [.im (wd ws), .mu B, .mu PK, .im (.bool turned), .mu ((worlds ws).map wd), .no, .no, .no, .no, .no, .no, .no, .no, .no]) := by
    rw [a_setS, c]
    rfl
  have hlenW : ((worlds ws).map wd).length = (worlds ws).length := List.length_map ..
  have hi := rng1_eq (n := (worlds ws).length) (f := opN (consM (fVar 4) (retM [])) oLen) (env := [.im (wd ws), .mu B, .mu PK, .im (.bool turned), .mu ((worlds ws).map wd), .no, .no, .no, .no, .no, .no, .no, .no, .no]) (env1 := [.im (wd ws), .mu B, .mu PK, .im (.bool turned), .mu ((worlds ws).map wd), .no, .no, .no, .no, .no, .no, .no, .no, .no]) (by
    generalize (worlds ws).map wd = W at hlenW ⊢
    simp [a_bind, a_ret, a_fVar, a_fC, a_op2, a_opN, a_op1, FN.view, views, frz, a_frM, a_consM, a_tupM, a_lstM, mkT, mkL, a_boolE, evB, a_truE, truM, truSV, a_notM, a_notV, a_andM, a_orM, a_andV, a_orV, a_ifM, a_loM, evI, a_slM, a_setS, store, a_retS, retE, a_setG, a_seqS, a_ifS, retN, a_nxS, a_ite, a_itemsM, itemsOf, SV.dat, SV.asI, SV.asQ, a_enuM, enumM, oAdd, oSub, int1, oLt, oLe, oGt, oGe, List.getElem?_cons_zero, List.getElem?_cons_succ, List.set_cons_zero, List.set_cons_succ, oLen, hlenW]) (by omega)
  have lc := lcg_map (vs := [12]) (u := uName [0, 1, 2, 3] 12) (test := f__law_by_bits_6) (elt := f__law_by_bits_7) iD (fun i => decide (bits.getD i 0 = 1)) (fun i => wd ((worlds ws).getD i [])) hi rfl (sz _ (by rw [List.length_range]; omega)) fun i hx => by
    have hx := List.mem_range.mp hx
    have i1 : oIx (.mu B) (.im (iD i)) = some (.im (.int (bits.getD i 0))) := by
      subst hB
      rw [List.getD_eq_getElem?_getD, List.getElem?_eq_getElem (by omega)]
      exact ixM (f := PyData.int) (by omega)
    have i2 : oIx (.mu ((worlds ws).map wd)) (.im (iD i)) = some (.im (wd ((worlds ws).getD i []))) := by
      rw [List.getD_eq_getElem?_getD, List.getElem?_eq_getElem hx]
      exact ixM (f := wd) hx
    generalize bits.getD i 0 = bt at i1 ⊢
    generalize (worlds ws).getD i [] = w at i2 ⊢
    generalize (worlds ws).map wd = W at i2 ⊢
    generalize iD i = I at i1 i2 ⊢
    refine ⟨_, rfl, ?_, fun _ => ?_, rfl⟩
    · simp [f__law_by_bits_6, a_bind, a_ret, a_fVar, a_fC, a_op2, a_opN, a_op1, FN.view, views, frz, a_frM, a_consM, a_tupM, a_lstM, mkT, mkL, a_boolE, evB, a_truE, truM, truSV, a_notM, a_notV, a_andM, a_orM, a_andV, a_orV, a_ifM, a_loM, evI, a_slM, a_setS, store, a_retS, retE, a_setG, a_seqS, a_ifS, retN, a_nxS, a_ite, a_itemsM, itemsOf, SV.dat, SV.asI, SV.asQ, a_enuM, enumM, oAdd, oSub, int1, oLt, oLe, oGt, oGe, List.getElem?_cons_zero, List.getElem?_cons_succ, List.set_cons_zero, List.set_cons_succ, wipeE, i1, oEq_dec]
    · simp [f__law_by_bits_7, a_bind, a_ret, a_fVar, a_fC, a_op2, a_opN, a_op1, FN.view, views, frz, a_frM, a_consM, a_tupM, a_lstM, mkT, mkL, a_boolE, evB, a_truE, truM, truSV, a_notM, a_notV, a_andM, a_orM, a_andV, a_orV, a_ifM, a_loM, evI, a_slM, a_setS, store, a_retS, retE, a_setG, a_seqS, a_ifS, retN, a_nxS, a_ite, a_itemsM, itemsOf, SV.dat, SV.asI, SV.asQ, a_enuM, enumM, oAdd, oSub, int1, oLt, oLe, oGt, oGe, List.getElem?_cons_zero, List.getElem?_cons_succ, List.set_cons_zero, List.set_cons_succ, wipeE, i2]
  -- the lot
  have hLot : ∃ Lot : List (List Str), (∀ v ∈ Lot, v ∈ worlds ws) ∧ Lot.length ≤ 16 ∧ ((List.range (worlds ws).length).filter fun i => decide (bits.getD i 0 = 1)).map (fun i => wd ((worlds ws).getD i [])) = Lot.map wd := by
    refine ⟨((List.range (worlds ws).length).filter fun i => decide (bits.getD i 0 = 1)).map fun i => (worlds ws).getD i [], fun v hv => ?_, ?_, by rw [List.map_map]; rfl⟩
    · obtain ⟨i, hi, rfl⟩ := List.mem_map.mp hv
      have := List.mem_range.mp (List.mem_filter.mp hi).1
      rw [List.getD_eq_getElem?_getD, List.getElem?_eq_getElem this]
      exact List.getElem_mem this
    · rw [List.length_map]
      have := List.length_filter_le (fun i => decide (bits.getD i 0 = 1)) (List.range (worlds ws).length)
      rw [List.length_range] at this
      omega
  obtain ⟨Lot, hLw, hLl, hLe⟩ := hLot
  rw [hLe] at lc
  have s2 : setS [0, 1, 2, 3] 5 (lcM [12] (rng1 (opN (consM (fVar 4) (retM [])) oLen)) (uName [0, 1, 2, 3] 12) f__law_by_bits_6 f__law_by_bits_7) [.im (wd ws), .mu B, .mu PK, .im (.bool turned), .mu ((worlds ws).map wd), .no, .no, .no, .no, .no, .no, .no, .no, .no] = some (.nx, [.im (wd ws), .mu B, .mu PK, .im (.bool turned), .mu ((worlds ws).map wd), .mu (Lot.map wd), .no, .no, .no, .no, .no, .no, .no, .no]) := by
    rw [a_setS, lc]
    rfl
  have ol : oLen [.im (wd ws)] = some (.im (.int ws.length)) := by simp [oLen, SV.asQ]
  have exs : ∀ l : List (List Str), Go (.grp false (l.map fun w => exactly w ws)) 4 := fun l => ⟨Moks_of fun m hm => by obtain ⟨x, _, rfl⟩ := List.mem_map.mp hm; exact (exactly_ok hw.ws).1, dep_grp fun m hm => by obtain ⟨x, _, rfl⟩ := List.mem_map.mp hm; exact (exactly_ok hw.ws).2⟩
  have een : ∀ l : List (List Str), enc (.grp false (l.map fun w => exactly w ws)) = .tuple [.str "some", .tuple (l.map fun w => enc (exactly w ws))] := fun l => by rw [enc, encs_map, List.map_map]; rfl
  have fin : ∀ {m : Mb} {env' : FEnv}, f__law_by_bits [.im (wd ws), .mu B, .mu PK, .im (.bool turned), .no, .no, .no, .no, .no, .no, .no, .no, .no, .no] = some (.rt (.im (enc m)), env') → ∃ svs, F__law_by_bits [.im (wd ws), .mu B, .mu PK, .im (.bool turned)] = some (.im (enc m), svs) := fun {m env'} hf =>
    ⟨_, fn_rt (pin := [0, 1, 2, 3]) (n := 4) (m := 10) (f := f__law_by_bits) (svs := [.im (wd ws), .mu B, .mu PK, .im (.bool turned)]) hf rfl rfl im_ne⟩
  by_cases h4 : ws.length < 4
  · have tt : boolE (op2 (opN (consM (fVar 0) (retM [])) oLen) (fC (.int 4)) oLt) [.im (wd ws), .mu B, .mu PK, .im (.bool turned), .mu ((worlds ws).map wd), .mu (Lot.map wd), .no, .no, .no, .no, .no, .no, .no, .no] = some (true, [.im (wd ws), .mu B, .mu PK, .im (.bool turned), .mu ((worlds ws).map wd), .mu (Lot.map wd), .no, .no, .no, .no, .no, .no, .no, .no]) := by
      have : (ws.length : Int) < 4 := by omega
      generalize (worlds ws).map wd = W
      generalize Lot.map wd = LL
      simp [a_bind, a_ret, a_fVar, a_fC, a_op2, a_opN, a_op1, FN.view, views, frz, a_frM, a_consM, a_tupM, a_lstM, mkT, mkL, a_boolE, evB, a_truE, truM, truSV, a_notM, a_notV, a_andM, a_orM, a_andV, a_orV, a_ifM, a_loM, evI, a_slM, a_setS, store, a_retS, retE, a_setG, a_seqS, a_ifS, retN, a_nxS, a_ite, a_itemsM, itemsOf, SV.dat, SV.asI, SV.asQ, a_enuM, enumM, oAdd, oSub, int1, oLt, oLe, oGt, oGe, List.getElem?_cons_zero, List.getElem?_cons_succ, List.set_cons_zero, List.set_cons_succ, ol, this]
    cases turned with
    | true =>
      have hi2 : itemsM (frM (fVar 4)) [.im (wd ws), .mu B, .mu PK, .im (.bool true), .mu ((worlds ws).map wd), .mu (Lot.map wd), .no, .no, .no, .no, .no, .no, .no, .no] = some ((worlds ws).map wd, [.im (wd ws), .mu B, .mu PK, .im (.bool true), .im (lst (worlds ws)), .mu (Lot.map wd), .no, .no, .no, .no, .no, .no, .no, .no]) := by simp [a_bind, a_ret, a_fVar, a_fC, a_op2, a_opN, a_op1, FN.view, views, frz, a_frM, a_consM, a_tupM, a_lstM, mkT, mkL, a_boolE, evB, a_truE, truM, truSV, a_notM, a_notV, a_andM, a_orM, a_andV, a_orV, a_ifM, a_loM, evI, a_slM, a_setS, store, a_retS, retE, a_setG, a_seqS, a_ifS, retN, a_nxS, a_ite, a_itemsM, itemsOf, SV.dat, SV.asI, SV.asQ, a_enuM, enumM, oAdd, oSub, int1, oLt, oLe, oGt, oGe, List.getElem?_cons_zero, List.getElem?_cons_succ, List.set_cons_zero, List.set_cons_succ]
      have lc2 := lcg_map (vs := [13]) (u := uName [0, 1, 2, 3] 13) (test := f__law_by_bits_4) (elt := f__law_by_bits_5) wd (fun w => !decide (w ∈ Lot)) wd hi2 rfl (sz _) fun w hx => by
        have hn := oIn_lsv (neg := true) (sv := .mu (Lot.map wd)) (.inr rfl) ((Nms_worlds hw w hx).ws) (lot := Lot) fun v hv => (Nms_worlds hw v (hLw v hv)).ws
        refine ⟨_, rfl, ?_, fun _ => ?_, rfl⟩
        · generalize Lot.map wd = LL at hn ⊢
          simp [f__law_by_bits_4, a_bind, a_ret, a_fVar, a_fC, a_op2, a_opN, a_op1, FN.view, views, frz, a_frM, a_consM, a_tupM, a_lstM, mkT, mkL, a_boolE, evB, a_truE, truM, truSV, a_notM, a_notV, a_andM, a_orM, a_andV, a_orV, a_ifM, a_loM, evI, a_slM, a_setS, store, a_retS, retE, a_setG, a_seqS, a_ifS, retN, a_nxS, a_ite, a_itemsM, itemsOf, SV.dat, SV.asI, SV.asQ, a_enuM, enumM, oAdd, oSub, int1, oLt, oLe, oGt, oGe, List.getElem?_cons_zero, List.getElem?_cons_succ, List.set_cons_zero, List.set_cons_succ, wipeE, hn]
        · simp [f__law_by_bits_5, a_bind, a_ret, a_fVar, a_fC, a_op2, a_opN, a_op1, FN.view, views, frz, a_frM, a_consM, a_tupM, a_lstM, mkT, mkL, a_boolE, evB, a_truE, truM, truSV, a_notM, a_notV, a_andM, a_orM, a_andV, a_orV, a_ifM, a_loM, evI, a_slM, a_setS, store, a_retS, retE, a_setG, a_seqS, a_ifS, retN, a_nxS, a_ite, a_itemsM, itemsOf, SV.dat, SV.asI, SV.asQ, a_enuM, enumM, oAdd, oSub, int1, oLt, oLe, oGt, oGe, List.getElem?_cons_zero, List.getElem?_cons_succ, List.set_cons_zero, List.set_cons_succ, wipeE]
      have hrw : ∀ w ∈ (worlds ws).filter (fun w => !decide (w ∈ Lot)), Ws w := fun w hx => (Nms_worlds hw w (List.mem_filter.mp hx).1).ws
      have hrl : ((worlds ws).filter fun w => !decide (w ∈ Lot)).length ≤ 16 := Nat.le_trans (List.length_filter_le _ _) hle
      generalize (worlds ws).filter (fun w => !decide (w ∈ Lot)) = rest at lc2 hrw hrl
      have s3 : setS [0, 1, 2, 3] 11 (lcM [13] (itemsM (frM (fVar 4))) (uName [0, 1, 2, 3] 13) f__law_by_bits_4 f__law_by_bits_5) [.im (wd ws), .mu B, .mu PK, .im (.bool true), .mu ((worlds ws).map wd), .mu (Lot.map wd), .no, .no, .no, .no, .no, .no, .no, .no] = some (.nx, [.im (wd ws), .mu B, .mu PK, .im (.bool true), .im (lst (worlds ws)), .mu (Lot.map wd), .no, .no, .no, .no, .no, .mu (rest.map wd), .no, .no]) := by
        rw [a_setS, lc2]
        rfl
      have hi3 : itemsM (frM (fVar 11)) [.im (wd ws), .mu B, .mu PK, .im (.bool true), .im (lst (worlds ws)), .mu (Lot.map wd), .no, .no, .no, .no, .no, .mu (rest.map wd), .no, .no] = some (rest.map wd, [.im (wd ws), .mu B, .mu PK, .im (.bool true), .im (lst (worlds ws)), .mu (Lot.map wd), .no, .no, .no, .no, .no, .im (lst rest), .no, .no]) := by simp [a_bind, a_ret, a_fVar, a_fC, a_op2, a_opN, a_op1, FN.view, views, frz, a_frM, a_consM, a_tupM, a_lstM, mkT, mkL, a_boolE, evB, a_truE, truM, truSV, a_notM, a_notV, a_andM, a_orM, a_andV, a_orV, a_ifM, a_loM, evI, a_slM, a_setS, store, a_retS, retE, a_setG, a_seqS, a_ifS, retN, a_nxS, a_ite, a_itemsM, itemsOf, SV.dat, SV.asI, SV.asQ, a_enuM, enumM, oAdd, oSub, int1, oLt, oLe, oGt, oGe, List.getElem?_cons_zero, List.getElem?_cons_succ, List.set_cons_zero, List.set_cons_succ]
      have lc3 := lcm_map (vs := [13]) (u := uName [0, 1, 2, 3] 13) (elt := f__law_by_bits_3) wd (fun w => enc (exactly w ws)) hi3 rfl (sz _) fun w hx => by
        refine ⟨_, rfl, ?_, rfl⟩
        have c : callM F__law_exactly [] (consM (fVar 13) (consM (fVar 0) (retM []))) [.im (wd ws), .mu B, .mu PK, .im (.bool true), .im (lst (worlds ws)), .mu (Lot.map wd), .no, .no, .no, .no, .no, .im (lst rest), .no, .im (wd w)] = some (.im (enc (exactly w ws)), [.im (wd ws), .mu B, .mu PK, .im (.bool true), .im (lst (worlds ws)), .mu (Lot.map wd), .no, .no, .no, .no, .no, .im (lst rest), .no, .im (wd w)]) := call_im [wd w, wd ws] (by simp [a_bind, a_ret, a_fVar, a_fC, a_op2, a_opN, a_op1, FN.view, views, frz, a_frM, a_consM, a_tupM, a_lstM, mkT, mkL, a_boolE, evB, a_truE, truM, truSV, a_notM, a_notV, a_andM, a_orM, a_andV, a_orV, a_ifM, a_loM, evI, a_slM, a_setS, store, a_retS, retE, a_setG, a_seqS, a_ifS, retN, a_nxS, a_ite, a_itemsM, itemsOf, SV.dat, SV.asI, SV.asQ, a_enuM, enumM, oAdd, oSub, int1, oLt, oLe, oGt, oGe, List.getElem?_cons_zero, List.getElem?_cons_succ, List.set_cons_zero, List.set_cons_succ]) (law_exactly (hrw w hx) hw.ws (by omega)) im_ne
        generalize lst (worlds ws) = W at c ⊢
        generalize lst rest = RR at c ⊢
        simp [f__law_by_bits_3, a_bind, a_ret, a_fVar, a_fC, a_op2, a_opN, a_op1, FN.view, views, frz, a_frM, a_consM, a_tupM, a_lstM, mkT, mkL, a_boolE, evB, a_truE, truM, truSV, a_notM, a_notV, a_andM, a_orM, a_andV, a_orV, a_ifM, a_loM, evI, a_slM, a_setS, store, a_retS, retE, a_setG, a_seqS, a_ifS, retN, a_nxS, a_ite, a_itemsM, itemsOf, SV.dat, SV.asI, SV.asQ, a_enuM, enumM, oAdd, oSub, int1, oLt, oLe, oGt, oGe, List.getElem?_cons_zero, List.getElem?_cons_succ, List.set_cons_zero, List.set_cons_succ, wipeE, c]
      have hM : Go (.grp true [.neg (.grp false (rest.map fun w => exactly w ws))]) 12 := by
        obtain ⟨q1, q2⟩ := exs rest
        exact ⟨⟨q1, trivial⟩, by simp only [dep, deps] at q2 ⊢; omega⟩
      have eM : enc (.grp true [.neg (.grp false (rest.map fun w => exactly w ws))]) = .tuple [.str "all", .tuple [.tuple [.str "not", .tuple [.str "some", .tuple (rest.map fun w => enc (exactly w ws))]]]] := by
        rw [← een rest]
        simp [enc, encs, gname]
      have hf : ∃ env', f__law_by_bits [.im (wd ws), .mu B, .mu PK, .im (.bool true), .no, .no, .no, .no, .no, .no, .no, .no, .no, .no] = some (.rt (.im (enc (.grp true [.neg (.grp false (rest.map fun w => exactly w ws))]))), env') := by
        refine ⟨[.im (wd ws), .mu B, .mu PK, .im (.bool true), .im (lst (worlds ws)), .mu (Lot.map wd), .no, .no, .no, .no, .no, .im (lst rest), .no, .no], ?_⟩
        unfold f__law_by_bits
        rw [seqS_nx s1, seqS_nx s2]
        refine seqS_rt ?_
        rw [ifS_t tt]
        refine seqS_rt ?_
        have t3 : truE (fVar 3) [.im (wd ws), .mu B, .mu PK, .im (.bool true), .mu ((worlds ws).map wd), .mu (Lot.map wd), .no, .no, .no, .no, .no, .no, .no, .no] = some (true, [.im (wd ws), .mu B, .mu PK, .im (.bool true), .mu ((worlds ws).map wd), .mu (Lot.map wd), .no, .no, .no, .no, .no, .no, .no, .no]) := rfl
        rw [ifS_t t3, seqS_nx s3, eM]
        generalize (rest.map fun w => enc (exactly w ws)) = Q at lc3 ⊢
        generalize lst rest = RR at lc3 ⊢
        generalize lst (worlds ws) = W at lc3 ⊢
        simp [a_bind, a_ret, a_fVar, a_fC, a_op2, a_opN, a_op1, FN.view, views, frz, a_frM, a_consM, a_tupM, a_lstM, mkT, mkL, a_boolE, evB, a_truE, truM, truSV, a_notM, a_notV, a_andM, a_orM, a_andV, a_orV, a_ifM, a_loM, evI, a_slM, a_setS, store, a_retS, retE, a_setG, a_seqS, a_ifS, retN, a_nxS, a_ite, a_itemsM, itemsOf, SV.dat, SV.asI, SV.asQ, a_enuM, enumM, oAdd, oSub, int1, oLt, oLe, oGt, oGe, List.getElem?_cons_zero, List.getElem?_cons_succ, List.set_cons_zero, List.set_cons_succ, lc3, oTuple, sz 2, sz 1]
      obtain ⟨env', hf⟩ := hf
      obtain ⟨svs, hF⟩ := fin hf
      exact ⟨_, svs, hM, hF⟩
    | false =>
      have hi3 : itemsM (frM (fVar 5)) [.im (wd ws), .mu B, .mu PK, .im (.bool false), .mu ((worlds ws).map wd), .mu (Lot.map wd), .no, .no, .no, .no, .no, .no, .no, .no] = some (Lot.map wd, [.im (wd ws), .mu B, .mu PK, .im (.bool false), .mu ((worlds ws).map wd), .im (lst Lot), .no, .no, .no, .no, .no, .no, .no, .no]) := by simp [a_bind, a_ret, a_fVar, a_fC, a_op2, a_opN, a_op1, FN.view, views, frz, a_frM, a_consM, a_tupM, a_lstM, mkT, mkL, a_boolE, evB, a_truE, truM, truSV, a_notM, a_notV, a_andM, a_orM, a_andV, a_orV, a_ifM, a_loM, evI, a_slM, a_setS, store, a_retS, retE, a_setG, a_seqS, a_ifS, retN, a_nxS, a_ite, a_itemsM, itemsOf, SV.dat, SV.asI, SV.asQ, a_enuM, enumM, oAdd, oSub, int1, oLt, oLe, oGt, oGe, List.getElem?_cons_zero, List.getElem?_cons_succ, List.set_cons_zero, List.set_cons_succ]
      have lc3 := lcm_map (vs := [13]) (u := uName [0, 1, 2, 3] 13) (elt := f__law_by_bits_2) wd (fun w => enc (exactly w ws)) hi3 rfl (sz _) fun w hx => by
        refine ⟨_, rfl, ?_, rfl⟩
        have c : callM F__law_exactly [] (consM (fVar 13) (consM (fVar 0) (retM []))) [.im (wd ws), .mu B, .mu PK, .im (.bool false), .mu ((worlds ws).map wd), .im (lst Lot), .no, .no, .no, .no, .no, .no, .no, .im (wd w)] = some (.im (enc (exactly w ws)), [.im (wd ws), .mu B, .mu PK, .im (.bool false), .mu ((worlds ws).map wd), .im (lst Lot), .no, .no, .no, .no, .no, .no, .no, .im (wd w)]) := call_im [wd w, wd ws] (by simp [a_bind, a_ret, a_fVar, a_fC, a_op2, a_opN, a_op1, FN.view, views, frz, a_frM, a_consM, a_tupM, a_lstM, mkT, mkL, a_boolE, evB, a_truE, truM, truSV, a_notM, a_notV, a_andM, a_orM, a_andV, a_orV, a_ifM, a_loM, evI, a_slM, a_setS, store, a_retS, retE, a_setG, a_seqS, a_ifS, retN, a_nxS, a_ite, a_itemsM, itemsOf, SV.dat, SV.asI, SV.asQ, a_enuM, enumM, oAdd, oSub, int1, oLt, oLe, oGt, oGe, List.getElem?_cons_zero, List.getElem?_cons_succ, List.set_cons_zero, List.set_cons_succ]) (law_exactly ((Nms_worlds hw w (hLw w hx)).ws) hw.ws (by omega)) im_ne
        generalize (worlds ws).map wd = W at c ⊢
        generalize lst Lot = RR at c ⊢
        simp [f__law_by_bits_2, a_bind, a_ret, a_fVar, a_fC, a_op2, a_opN, a_op1, FN.view, views, frz, a_frM, a_consM, a_tupM, a_lstM, mkT, mkL, a_boolE, evB, a_truE, truM, truSV, a_notM, a_notV, a_andM, a_orM, a_andV, a_orV, a_ifM, a_loM, evI, a_slM, a_setS, store, a_retS, retE, a_setG, a_seqS, a_ifS, retN, a_nxS, a_ite, a_itemsM, itemsOf, SV.dat, SV.asI, SV.asQ, a_enuM, enumM, oAdd, oSub, int1, oLt, oLe, oGt, oGe, List.getElem?_cons_zero, List.getElem?_cons_succ, List.set_cons_zero, List.set_cons_succ, wipeE, c]
      have hM : Go (.grp false (Lot.map fun w => exactly w ws)) 12 := ⟨(exs Lot).1, by have := (exs Lot).2; omega⟩
      have hf : ∃ env', f__law_by_bits [.im (wd ws), .mu B, .mu PK, .im (.bool false), .no, .no, .no, .no, .no, .no, .no, .no, .no, .no] = some (.rt (.im (enc (.grp false (Lot.map fun w => exactly w ws)))), env') := by
        refine ⟨[.im (wd ws), .mu B, .mu PK, .im (.bool false), .mu ((worlds ws).map wd), .im (lst Lot), .no, .no, .no, .no, .no, .no, .no, .no], ?_⟩
        unfold f__law_by_bits
        rw [seqS_nx s1, seqS_nx s2]
        refine seqS_rt ?_
        rw [ifS_t tt]
        have t3 : truE (fVar 3) [.im (wd ws), .mu B, .mu PK, .im (.bool false), .mu ((worlds ws).map wd), .mu (Lot.map wd), .no, .no, .no, .no, .no, .no, .no, .no] = some (false, [.im (wd ws), .mu B, .mu PK, .im (.bool false), .mu ((worlds ws).map wd), .mu (Lot.map wd), .no, .no, .no, .no, .no, .no, .no, .no]) := rfl
        rw [seqS_nx (by rw [ifS_f t3]; rfl), een]
        generalize (Lot.map fun w => enc (exactly w ws)) = Q at lc3 ⊢
        generalize lst Lot = RR at lc3 ⊢
        generalize (worlds ws).map wd = W at lc3 ⊢
        simp [a_bind, a_ret, a_fVar, a_fC, a_op2, a_opN, a_op1, FN.view, views, frz, a_frM, a_consM, a_tupM, a_lstM, mkT, mkL, a_boolE, evB, a_truE, truM, truSV, a_notM, a_notV, a_andM, a_orM, a_andV, a_orV, a_ifM, a_loM, evI, a_slM, a_setS, store, a_retS, retE, a_setG, a_seqS, a_ifS, retN, a_nxS, a_ite, a_itemsM, itemsOf, SV.dat, SV.asI, SV.asQ, a_enuM, enumM, oAdd, oSub, int1, oLt, oLe, oGt, oGe, List.getElem?_cons_zero, List.getElem?_cons_succ, List.set_cons_zero, List.set_cons_succ, lc3, oTuple, sz 2, sz 1]
      obtain ⟨env', hf⟩ := hf
      obtain ⟨svs, hF⟩ := fin hf
      exact ⟨_, svs, hM, hF⟩
  · have hl4 : ws.length = 4 := by omega
    have tt : boolE (op2 (opN (consM (fVar 0) (retM [])) oLen) (fC (.int 4)) oLt) [.im (wd ws), .mu B, .mu PK, .im (.bool turned), .mu ((worlds ws).map wd), .mu (Lot.map wd), .no, .no, .no, .no, .no, .no, .no, .no] = some (false, [.im (wd ws), .mu B, .mu PK, .im (.bool turned), .mu ((worlds ws).map wd), .mu (Lot.map wd), .no, .no, .no, .no, .no, .no, .no, .no]) := by
      have : ¬ (ws.length : Int) < 4 := by omega
      generalize (worlds ws).map wd = W
      generalize Lot.map wd = LL
      simp [a_bind, a_ret, a_fVar, a_fC, a_op2, a_opN, a_op1, FN.view, views, frz, a_frM, a_consM, a_tupM, a_lstM, mkT, mkL, a_boolE, evB, a_truE, truM, truSV, a_notM, a_notV, a_andM, a_orM, a_andV, a_orV, a_ifM, a_loM, evI, a_slM, a_setS, store, a_retS, retE, a_setG, a_seqS, a_ifS, retN, a_nxS, a_ite, a_itemsM, itemsOf, SV.dat, SV.asI, SV.asQ, a_enuM, enumM, oAdd, oSub, int1, oLt, oLe, oGt, oGe, List.getElem?_cons_zero, List.getElem?_cons_succ, List.set_cons_zero, List.set_cons_succ, ol, this]
    have hLws : ∀ v ∈ Lot, Ws v := fun v hv => (Nms_worlds hw v (hLw v hv)).ws
    have hLs : Sm Lot := fun v hv => Nat.le_trans (worlds_short v (hLw v hv)) (by omega)
    have c6 := call_mu1 (F := F__law_form) (env := [.im (wd ws), .mu B, .mu PK, .im (.bool turned), .mu ((worlds ws).map wd), .mu (Lot.map wd), .no, .no, .no, .no, .no, .no, .no, .no]) (i := 5) rfl (law_form (.inr rfl) hLws (by omega) hLs) im_ne
    have hG : Go (lform Lot) 3 := lform_ok hLws
    generalize lform Lot = G at c6 hG
    have s6 : setS [0, 1, 2, 3] 6 (callM F__law_form [] (consM (fVar 5) (retM []))) [.im (wd ws), .mu B, .mu PK, .im (.bool turned), .mu ((worlds ws).map wd), .mu (Lot.map wd), .no, .no, .no, .no, .no, .no, .no, .no] = some (.nx, [.im (wd ws), .mu B, .mu PK, .im (.bool turned), .mu ((worlds ws).map wd), .im (lst Lot), .im (enc G), .no, .no, .no, .no, .no, .no, .no]) := by
      rw [a_setS, c6]
      rfl
    have s7 : setS [0, 1, 2, 3] 7 (lstM (retM [])) [.im (wd ws), .mu B, .mu PK, .im (.bool turned), .mu ((worlds ws).map wd), .im (lst Lot), .im (enc G), .no, .no, .no, .no, .no, .no, .no] = some (.nx, [.im (wd ws), .mu B, .mu PK, .im (.bool turned), .mu ((worlds ws).map wd), .im (lst Lot), .im (enc G), .mu [], .no, .no, .no, .no, .no, .no]) := rfl
    have s8 : setS [0, 1, 2, 3] 8 (lstM (retM [])) [.im (wd ws), .mu B, .mu PK, .im (.bool turned), .mu ((worlds ws).map wd), .im (lst Lot), .im (enc G), .mu [], .no, .no, .no, .no, .no, .no] = some (.nx, [.im (wd ws), .mu B, .mu PK, .im (.bool turned), .mu ((worlds ws).map wd), .im (lst Lot), .im (enc G), .mu [], .mu [], .no, .no, .no, .no, .no]) := rfl
    have hi9 : itemsM (frM (fVar 2)) [.im (wd ws), .mu B, .mu PK, .im (.bool turned), .mu ((worlds ws).map wd), .im (lst Lot), .im (enc G), .mu [], .mu [], .no, .no, .no, .no, .no] = some (picks.map PyData.int, [.im (wd ws), .mu B, .im (.list PK), .im (.bool turned), .mu ((worlds ws).map wd), .im (lst Lot), .im (enc G), .mu [], .mu [], .no, .no, .no, .no, .no]) := by rw [hK]; rfl
    have key := loop_fold (u := uName [0, 1, 2, 3] 9) (body := f__law_by_bits_1) PyData.int (fun pre env => ∃ (off more : List Mb) (v9 v10 : SV), (∀ m ∈ off, Go m 3) ∧ (∀ m ∈ more, Go m 3) ∧ off.length ≤ pre.length ∧ more.length ≤ pre.length ∧ env = [.im (wd ws), .mu B, .im (.list PK), .im (.bool turned), .mu ((worlds ws).map wd), .im (lst Lot), .im (enc G), .mu (off.map enc), .mu (more.map enc), v9, v10, .no, .no, .no]) picks [] [.im (wd ws), .mu B, .im (.list PK), .im (.bool turned), .mu ((worlds ws).map wd), .im (lst Lot), .im (enc G), .mu [], .mu [], .no, .no, .no, .no, .no] (fun p d q env e i => by
      obtain ⟨off, more, v9, v10, h1, h2, h3, h4, rfl⟩ := i
      have hpl2 : p.length ≤ 50 := by
        have := congrArg List.length e
        rw [List.nil_append, List.length_append] at this
        omega
      have hd : 0 ≤ d := hp d (by rw [List.nil_append] at e; rw [e]; simp)
      obtain ⟨off', more', v10', k1, k2, k3, k4, k5⟩ := bits_pick hw hl4 (bt := .mu B) (pk := .im (.list PK)) (tn := .im (.bool turned)) (Lot := Lot) hG h1 h2 (by omega) (by omega) (p := d.toNat) (v9 := v9) (v10 := v10)
      have ed : (iD d.toNat : PyData) = .int d := by show PyData.int ((d.toNat : Nat) : Int) = _; rw [Int.toNat_of_nonneg hd]
      rw [ed] at k5
      refine ⟨_, _, rfl, k5, off', more', .im (.int d), v10', k1, k2, ?_, ?_, rfl⟩
      · rw [List.length_append, List.length_singleton]; omega
      · rw [List.length_append, List.length_singleton]; omega) ⟨[], [], .no, .no, fun m h => (by cases h), fun m h => (by cases h), Nat.le_refl _, Nat.le_refl _, rfl⟩
    obtain ⟨env2, h1, off, more, v9, v10, g1', g2', l1, l2, h2⟩ := key
    subst h2
    rw [List.nil_append] at l1 l2
    have hM : Go (.grp false (.grp true [G, .neg (.grp false off)] :: more)) 12 := by
      refine ⟨⟨⟨hG.1, Moks_of fun m hm => (g1' m hm).1, trivial⟩, Moks_of fun m hm => (g2' m hm).1⟩, ?_⟩
      have a1 := deps_le fun m hm => (g1' m hm).2
      have a2 := deps_le fun m hm => (g2' m hm).2
      have a3 := hG.2
      simp only [dep, deps]
      omega
    have eM : enc (.grp false (.grp true [G, .neg (.grp false off)] :: more)) = .tuple [.str "some", .tuple (.tuple [.str "all", .tuple [enc G, .tuple [.str "not", .tuple [.str "some", .tuple (off.map enc)]]]] :: more.map enc)] := by
      simp [enc, encs, encs_map, gname]
    have hf : f__law_by_bits [.im (wd ws), .mu B, .mu PK, .im (.bool turned), .no, .no, .no, .no, .no, .no, .no, .no, .no, .no] = some (.rt (.im (enc (.grp false (.grp true [G, .neg (.grp false off)] :: more)))), [.im (wd ws), .mu B, .im (.list PK), .im (.bool turned), .mu ((worlds ws).map wd), .im (lst Lot), .im (enc G), .mu (off.map enc), .mu (more.map enc), v9, v10, .no, .no, .no]) := by
      unfold f__law_by_bits
      rw [seqS_nx s1, seqS_nx s2, seqS_nx (by rw [ifS_f tt]; rfl), seqS_nx s6, seqS_nx s7, seqS_nx s8, seqS_nx (by rw [forS_eq hi9]; exact h1), eM]
      have lm : 1 + (more.map enc).length ≤ sizeLine := sz _ (by rw [List.length_map]; omega)
      generalize off.map enc = OF
      generalize more.map enc = MO at lm ⊢
      generalize enc G = EG
      generalize (worlds ws).map wd = W
      generalize lst Lot = LL
      simp [a_bind, a_ret, a_fVar, a_fC, a_op2, a_opN, a_op1, FN.view, views, frz, a_frM, a_consM, a_tupM, a_lstM, mkT, mkL, a_boolE, evB, a_truE, truM, truSV, a_notM, a_notV, a_andM, a_orM, a_andV, a_orV, a_ifM, a_loM, evI, a_slM, a_setS, store, a_retS, retE, a_setG, a_seqS, a_ifS, retN, a_nxS, a_ite, a_itemsM, itemsOf, SV.dat, SV.asI, SV.asQ, a_enuM, enumM, oAdd, oSub, int1, oLt, oLe, oGt, oGe, List.getElem?_cons_zero, List.getElem?_cons_succ, List.set_cons_zero, List.set_cons_succ, oTuple, sz 1, sz 2, lm]
    obtain ⟨svs, hF⟩ := fin hf
    exact ⟨_, svs, hM, hF⟩
end K89

namespace K89
open PySem FN
open PySem.PyData (strOk)
theorem rep_mul (a : Int) (n : Nat) : (List.replicate n [PyData.int a]).flatten = (List.replicate n a).map PyData.int := by
  induction n with
  | zero => rfl
  | succ n ih => rw [List.replicate_succ, List.replicate_succ, List.flatten_cons, ih]; rfl
/-- digits(cell(script, j), sizes) -/
theorem dig_call (ns : List Int) {sizes : List Int} (hp : ∀ s ∈ sizes, 0 < s ∧ s < 1073741824) (hn : sizes.length ≤ 100) {j : Nat} (hj : j ≤ 100) {env : FEnv} {i : Nat} (hi : env[i]? = some (.im (.list (ns.map PyData.int)))) {g : M EV} (hg : g env = some (.own (sizes.map PyData.int), env)) :
    ∃ ds, Dig ds sizes ∧ callM F__law_digits [] (consM (callM F__law_cell [] (consM (fVar i) (consM (fC (.int (j : Int))) (retM [])))) (consM g (retM []))) env = some (.own (ds.map PyData.int), env) := by
  obtain ⟨z, hz⟩ := law_cell ns j hj
  obtain ⟨ds, svs, hd, hF⟩ := law_digits hp hn z
  have c1 : callM F__law_cell [] (consM (fVar i) (consM (fC (.int (j : Int))) (retM []))) env = some (.im (.int z), env) := call_im [.list (ns.map PyData.int), iD j] (by simp [a_bind, a_ret, a_fVar, a_fC, a_op2, a_opN, a_op1, FN.view, views, frz, a_frM, a_consM, a_tupM, a_lstM, mkT, mkL, a_boolE, evB, a_truE, truM, truSV, a_notM, a_notV, a_andM, a_orM, a_andV, a_orV, a_ifM, a_loM, evI, a_slM, a_setS, store, a_retS, retE, a_setG, a_seqS, a_ifS, retN, a_nxS, a_ite, a_itemsM, itemsOf, SV.dat, SV.asI, SV.asQ, a_enuM, enumM, oAdd, oSub, int1, oLt, oLe, oGt, oGe, List.getElem?_cons_zero, List.getElem?_cons_succ, List.set_cons_zero, List.set_cons_succ, hi]) hz im_ne
  refine ⟨ds, hd, ?_⟩
  have hf : consM (callM F__law_cell [] (consM (fVar i) (consM (fC (.int (j : Int))) (retM [])))) (consM g (retM [])) env = some ([.im (.int z), .own (sizes.map PyData.int)], env) := by simp [a_consM, a_bind, c1, hg, a_ret]
  have hv : views [.im (.int z), .own (sizes.map PyData.int)] env = some [.im (.int z), .mu (sizes.map PyData.int)] := rfl
  have := callM_im (dds := []) hf hv (by simp [slotsMu]) (by simpa using hF) own_ne
  rw [this]
  have e : upds env [.im (.int z), .own (sizes.map PyData.int)] svs = env := by
    cases svs with
    | nil => rfl
    | cons a s => cases s <;> rfl
  rw [e]
theorem Dig.nonneg {ds sizes : List Int} (h : Dig ds sizes) : ∀ d ∈ ds, 0 ≤ d := fun d hd => by
  obtain ⟨i, hi, rfl⟩ := List.mem_iff_getElem.mp hd
  have hi2 : i < sizes.length := by rw [← h.1]; exact hi
  exact (h.2 i _ _ (List.getElem?_eq_getElem hi) (List.getElem?_eq_getElem hi2)).1
theorem mul60 (env : FEnv) : op2 (lstM (consM (frM (fC (.int 60))) (retM []))) (fC (.int 48)) oMul env = some (.own ((List.replicate 48 60).map PyData.int), env) := by rfl
theorem mul2 (env : FEnv) : op2 (lstM (consM (frM (fC (.int 2))) (retM []))) (fC (.int 16)) oMul env = some (.own ((List.replicate 16 2).map PyData.int), env) := by rfl
theorem highs_ix (v : Nat) (h : v < 6) : ∃ x : Nat, 1 ≤ x ∧ x ≤ 8 ∧ oIx (.mu [.int 8, .int 3, .int 5, .int 7, .int 8, .int 6]) (.im (iD v)) = some (.im (iD x)) := by
  have e : ([.int 8, .int 3, .int 5, .int 7, .int 8, .int 6] : List PyData) = ([8, 3, 5, 7, 8, 6] : List Nat).map iD := rfl
  rw [e]
  have hl : v < ([8, 3, 5, 7, 8, 6] : List Nat).length := h
  have : ∀ x ∈ ([8, 3, 5, 7, 8, 6] : List Nat), 1 ≤ x ∧ x ≤ 8 := by decide
  exact ⟨_, (this _ (List.getElem_mem hl)).1, (this _ (List.getElem_mem hl)).2, ixM (f := iD) hl⟩
theorem call_two {F : FnT} {row : List Int} {env env1 : FEnv} {k k' a b : Nat} {f : M (List EV)} {as : List PyData} {r : PyData} (hab : a ≠ b) (h0 : env1[a]? = some (.mu (row.map PyData.int))) (h1 : env1[b]? = some (.mu [iD k])) (hf : f env = some (.slot a :: .slot b :: as.map EV.im, env1))
    (hF : F (.mu (row.map PyData.int) :: .mu [iD k] :: as.map SV.im) = some (.im r, .mu (row.map PyData.int) :: .mu [iD k'] :: as.map SV.im)) :
    callM F [] f env = some (.im r, env1.set b (.mu [iD k'])) := by
  have hv : views (.slot a :: .slot b :: as.map EV.im) env1 = some (.mu (row.map PyData.int) :: .mu [iD k] :: as.map SV.im) := by
    rw [views, FN.view, h0, views, FN.view, h1, views_im]
  have hm : slotsMu env1 (.slot a :: .slot b :: as.map EV.im) = [a, b] := by
    rw [slotsMu, h0, slotsMu, h1, slots_im]
  have := callM_im (dds := []) hf hv (by rw [hm]; simp [hab]) (by simpa using hF) im_ne
  rw [this]
  have e : upds env1 (.slot a :: .slot b :: as.map EV.im) (.mu (row.map PyData.int) :: .mu [iD k'] :: as.map SV.im) = env1.set b (.mu [iD k']) := by
    rw [upds, h0, upds, h1, upds_im]
    exact set_same (by rw [List.getElem?_set_ne (Ne.symm hab)]; exact h0)
  rw [← e]
theorem law_one (ns : List Int) {ws : List Str} (hw : Nms ws) (hl : ws.length ≤ 4) : ∃ m svs, Go m 20 ∧ F__law_one [.im (.list (ns.map PyData.int)), .im (wd ws)] = some (.im (enc m), svs) := by
  generalize hL : PyData.list (ns.map PyData.int) = L
  obtain ⟨row, hrow, c1⟩ := dig_call ns (sizes := List.replicate 48 60) (fun s hs => by rw [List.eq_of_mem_replicate hs]; omega) (by simp) (j := 1) (by omega) (env := [.im L, .im (wd ws), .no, .no, .no, .no]) (i := 0) (by rw [hL]; rfl) (mul60 _)
  have c1 : callM F__law_digits [] (consM (callM F__law_cell [] (consM (fVar 0) (consM (fC (.int 1)) (retM [])))) (consM (op2 (lstM (consM (frM (fC (.int 60))) (retM []))) (fC (.int 48)) oMul) (retM []))) [.im L, .im (wd ws), .no, .no, .no, .no] = some (.own (row.map PyData.int), [.im L, .im (wd ws), .no, .no, .no, .no]) := c1
  have hr48 : row.length = 48 := by rw [hrow.1, List.length_replicate]
  have hr : Row row := ⟨fun z => (by rw [z] at hr48; cases hr48), by omega⟩
  generalize hR : row.map PyData.int = RR at c1
  have s1 : setS [0, 1] 2 (callM F__law_digits [] (consM (callM F__law_cell [] (consM (fVar 0) (consM (fC (.int 1)) (retM [])))) (consM (op2 (lstM (consM (frM (fC (.int 60))) (retM []))) (fC (.int 48)) oMul) (retM [])))) [.im L, .im (wd ws), .no, .no, .no, .no] = some (.nx, [.im L, .im (wd ws), .mu RR, .no, .no, .no]) := by
    rw [a_setS, c1]
    rfl
  have s2 : setS [0, 1] 3 (lstM (consM (frM (fC (.int 0))) (retM []))) [.im L, .im (wd ws), .mu RR, .no, .no, .no] = some (.nx, [.im L, .im (wd ws), .mu RR, .mu [iD 0], .no, .no]) := rfl
  obtain ⟨pk, hpk, c3⟩ := take_at hr (env := [.im L, .im (wd ws), .mu RR, .mu [iD 0], .no, .no]) (a := 2) (b := 3) (by omega) (by rw [hR]; rfl) rfl (size := 6) (by omega)
  have s3 : setS [0, 1] 4 (callM F__law_take [] (consM (fVar 2) (consM (fVar 3) (consM (fC (.int 6)) (retM []))))) [.im L, .im (wd ws), .mu RR, .mu [iD 0], .no, .no] = some (.nx, [.im L, .im (wd ws), .mu RR, .mu [iD 1], .im (iD pk), .no]) := by
    have c3 : callM F__law_take [] (consM (fVar 2) (consM (fVar 3) (consM (fC (.int 6)) (retM [])))) [.im L, .im (wd ws), .mu RR, .mu [iD 0], .no, .no] = some (.im (iD pk), [.im L, .im (wd ws), .mu RR, .mu [iD 1], .no, .no]) := c3
    rw [a_setS, c3]
    rfl
  have fin : ∀ {m : Mb} {env' : FEnv}, f__law_one [.im L, .im (wd ws), .no, .no, .no, .no] = some (.rt (.im (enc m)), env') → ∃ svs, F__law_one [.im L, .im (wd ws)] = some (.im (enc m), svs) := fun {m env'} hf =>
    ⟨_, fn_rt (pin := [0, 1]) (n := 2) (m := 4) (f := f__law_one) (svs := [.im L, .im (wd ws)]) hf rfl rfl im_ne⟩
  by_cases h2 : pk < 2
  · obtain ⟨m, k', hm, hF⟩ := law_formula hr hw (by omega) fuel 3 1 3 (by rw [fuel_eq]; omega)
    have c := call_two (F := F__law_formula fuel) (row := row) (a := 2) (b := 3) (k := 1) (k' := k') (f := consM (fVar 2) (consM (fVar 3) (consM (fVar 1) (consM (fC (.int 3)) (consM (fC (.int 3)) (retM [])))))) (env := [.im L, .im (wd ws), .mu RR, .mu [iD 1], .im (iD pk), .no]) (env1 := [.im L, .im (wd ws), .mu RR, .mu [iD 1], .im (iD pk), .no]) (as := [wd ws, iD 3, iD 3]) (by omega) (by rw [hR]; rfl) rfl rfl hF
    have tt : boolE (op2 (fVar 4) (fC (.int 2)) oLt) [.im L, .im (wd ws), .mu RR, .mu [iD 1], .im (iD pk), .no] = some (true, [.im L, .im (wd ws), .mu RR, .mu [iD 1], .im (iD pk), .no]) := by
      have : (pk : Int) < 2 := by omega
      simp [a_bind, a_ret, a_fVar, a_fC, a_op2, a_opN, a_op1, FN.view, views, frz, a_frM, a_consM, a_tupM, a_lstM, mkT, mkL, a_boolE, evB, a_truE, truM, truSV, a_notM, a_notV, a_andM, a_orM, a_andV, a_orV, a_ifM, a_loM, evI, a_slM, a_setS, store, a_retS, retE, a_setG, a_seqS, a_ifS, retN, a_nxS, a_ite, a_itemsM, itemsOf, SV.dat, SV.asI, SV.asQ, a_enuM, enumM, oAdd, oSub, int1, oLt, oLe, oGt, oGe, List.getElem?_cons_zero, List.getElem?_cons_succ, List.set_cons_zero, List.set_cons_succ, this]
    have hf : f__law_one [.im L, .im (wd ws), .no, .no, .no, .no] = some (.rt (.im (enc m)), [.im L, .im (wd ws), .mu RR, .mu [iD k'], .im (iD pk), .no]) := by
      unfold f__law_one
      rw [seqS_nx s1, seqS_nx s2, seqS_nx s3]
      refine seqS_rt ?_
      rw [ifS_t tt, a_retS, a_bind, c]
      rfl
    obtain ⟨svs, hF⟩ := fin hf
    exact ⟨m, svs, ⟨hm.1.ok, by have := hm.2; omega⟩, hF⟩
  · have tt : boolE (op2 (fVar 4) (fC (.int 2)) oLt) [.im L, .im (wd ws), .mu RR, .mu [iD 1], .im (iD pk), .no] = some (false, [.im L, .im (wd ws), .mu RR, .mu [iD 1], .im (iD pk), .no]) := by
      have : ¬ (pk : Int) < 2 := by omega
      simp [a_bind, a_ret, a_fVar, a_fC, a_op2, a_opN, a_op1, FN.view, views, frz, a_frM, a_consM, a_tupM, a_lstM, mkT, mkL, a_boolE, evB, a_truE, truM, truSV, a_notM, a_notV, a_andM, a_orM, a_andV, a_orV, a_ifM, a_loM, evI, a_slM, a_setS, store, a_retS, retE, a_setG, a_seqS, a_ifS, retN, a_nxS, a_ite, a_itemsM, itemsOf, SV.dat, SV.asI, SV.asQ, a_enuM, enumM, oAdd, oSub, int1, oLt, oLe, oGt, oGe, List.getElem?_cons_zero, List.getElem?_cons_succ, List.set_cons_zero, List.set_cons_succ, this]
    by_cases h3 : pk = 2
    · have t3 : boolE (op2 (fVar 4) (fC (.int 2)) oEq) [.im L, .im (wd ws), .mu RR, .mu [iD 1], .im (iD pk), .no] = some (true, [.im L, .im (wd ws), .mu RR, .mu [iD 1], .im (iD pk), .no]) := by
        simp [a_bind, a_ret, a_fVar, a_fC, a_op2, a_opN, a_op1, FN.view, views, frz, a_frM, a_consM, a_tupM, a_lstM, mkT, mkL, a_boolE, evB, a_truE, truM, truSV, a_notM, a_notV, a_andM, a_orM, a_andV, a_orV, a_ifM, a_loM, evI, a_slM, a_setS, store, a_retS, retE, a_setG, a_seqS, a_ifS, retN, a_nxS, a_ite, a_itemsM, itemsOf, SV.dat, SV.asI, SV.asQ, a_enuM, enumM, oAdd, oSub, int1, oLt, oLe, oGt, oGe, List.getElem?_cons_zero, List.getElem?_cons_succ, List.set_cons_zero, List.set_cons_succ, oEq_dec, h3]
      obtain ⟨v, hv, ct⟩ := take_at hr (env := [.im L, .im (wd ws), .mu RR, .mu [iD 1], .im (iD pk), .no]) (a := 2) (b := 3) (by omega) (by rw [hR]; rfl) rfl (size := 6) (by omega)
      have ct : callM F__law_take [] (consM (fVar 2) (consM (fVar 3) (consM (fC (.int 6)) (retM [])))) [.im L, .im (wd ws), .mu RR, .mu [iD 1], .im (iD pk), .no] = some (.im (iD v), [.im L, .im (wd ws), .mu RR, .mu [iD 2], .im (iD pk), .no]) := ct
      obtain ⟨x, hx1, hx8, ix⟩ := highs_ix v hv
      obtain ⟨m, k', hm, hF⟩ := law_tower hr hw 2 x hx1 hx8
      have c := call_two (F := F__law_tower) (row := row) (a := 2) (b := 3) (k := 2) (k' := k') (f := consM (fVar 2) (consM (fVar 3) (consM (fVar 1) (consM (op2 (lstM (consM (frM (fC (.int 8))) (consM (frM (fC (.int 3))) (consM (frM (fC (.int 5))) (consM (frM (fC (.int 7))) (consM (frM (fC (.int 8))) (consM (frM (fC (.int 6))) (retM [])))))))) (callM F__law_take [] (consM (fVar 2) (consM (fVar 3) (consM (fC (.int 6)) (retM []))))) oIx) (retM []))))) (env := [.im L, .im (wd ws), .mu RR, .mu [iD 1], .im (iD pk), .no]) (env1 := [.im L, .im (wd ws), .mu RR, .mu [iD 2], .im (iD pk), .no]) (as := [wd ws, iD x]) (by omega) (by rw [hR]; rfl) rfl (by
        generalize iD v = V at ct ix
        generalize iD x = XX at ix ⊢
        generalize iD 1 = K1 at ct ⊢
        generalize iD 2 = K2 at ct ⊢
        generalize iD pk = PK at ct ⊢
        simp [a_bind, a_ret, a_fVar, a_fC, a_op2, a_opN, a_op1, FN.view, views, frz, a_frM, a_consM, a_tupM, a_lstM, mkT, mkL, a_boolE, evB, a_truE, truM, truSV, a_notM, a_notV, a_andM, a_orM, a_andV, a_orV, a_ifM, a_loM, evI, a_slM, a_setS, store, a_retS, retE, a_setG, a_seqS, a_ifS, retN, a_nxS, a_ite, a_itemsM, itemsOf, SV.dat, SV.asI, SV.asQ, a_enuM, enumM, oAdd, oSub, int1, oLt, oLe, oGt, oGe, List.getElem?_cons_zero, List.getElem?_cons_succ, List.set_cons_zero, List.set_cons_succ, ct, ix, sz 6]) hF
      have hf : f__law_one [.im L, .im (wd ws), .no, .no, .no, .no] = some (.rt (.im (enc m)), [.im L, .im (wd ws), .mu RR, .mu [iD k'], .im (iD pk), .no]) := by
        unfold f__law_one
        rw [seqS_nx s1, seqS_nx s2, seqS_nx s3, seqS_nx (by rw [ifS_f tt]; rfl)]
        refine seqS_rt ?_
        rw [ifS_t t3, a_retS, a_bind, c]
        rfl
      obtain ⟨svs, hF⟩ := fin hf
      exact ⟨m, svs, ⟨hm.1.ok, by have := hm.2; omega⟩, hF⟩
    · have t3 : boolE (op2 (fVar 4) (fC (.int 2)) oEq) [.im L, .im (wd ws), .mu RR, .mu [iD 1], .im (iD pk), .no] = some (false, [.im L, .im (wd ws), .mu RR, .mu [iD 1], .im (iD pk), .no]) := by
        have : ¬ ((pk : Int) = 2) := by omega
        simp [a_bind, a_ret, a_fVar, a_fC, a_op2, a_opN, a_op1, FN.view, views, frz, a_frM, a_consM, a_tupM, a_lstM, mkT, mkL, a_boolE, evB, a_truE, truM, truSV, a_notM, a_notV, a_andM, a_orM, a_andV, a_orV, a_ifM, a_loM, evI, a_slM, a_setS, store, a_retS, retE, a_setG, a_seqS, a_ifS, retN, a_nxS, a_ite, a_itemsM, itemsOf, SV.dat, SV.asI, SV.asQ, a_enuM, enumM, oAdd, oSub, int1, oLt, oLe, oGt, oGe, List.getElem?_cons_zero, List.getElem?_cons_succ, List.set_cons_zero, List.set_cons_succ, oEq_dec, this]
      obtain ⟨bits, hbits, c5⟩ := dig_call ns (sizes := List.replicate 16 2) (fun s hs => by rw [List.eq_of_mem_replicate hs]; omega) (by simp) (j := 2) (by omega) (env := [.im L, .im (wd ws), .mu RR, .mu [iD 1], .im (iD pk), .no]) (i := 0) (by rw [hL]; rfl) (mul2 _)
      have c5 : callM F__law_digits [] (consM (callM F__law_cell [] (consM (fVar 0) (consM (fC (.int 2)) (retM [])))) (consM (op2 (lstM (consM (frM (fC (.int 2))) (retM []))) (fC (.int 16)) oMul) (retM []))) [.im L, .im (wd ws), .mu RR, .mu [iD 1], .im (iD pk), .no] = some (.own (bits.map PyData.int), [.im L, .im (wd ws), .mu RR, .mu [iD 1], .im (iD pk), .no]) := c5
      have hb16 : bits.length = 16 := by rw [hbits.1, List.length_replicate]
      have s5 : setS [0, 1] 5 (callM F__law_digits [] (consM (callM F__law_cell [] (consM (fVar 0) (consM (fC (.int 2)) (retM [])))) (consM (op2 (lstM (consM (frM (fC (.int 2))) (retM []))) (fC (.int 16)) oMul) (retM [])))) [.im L, .im (wd ws), .mu RR, .mu [iD 1], .im (iD pk), .no] = some (.nx, [.im L, .im (wd ws), .mu RR, .mu [iD 1], .im (iD pk), .mu (bits.map PyData.int)]) := by
        rw [a_setS, c5]
        rfl
      have hpn : ∀ d ∈ (row.take 8).drop 5, 0 ≤ d := fun d hd => hrow.nonneg d (List.mem_of_mem_take (List.mem_of_mem_drop hd))
      obtain ⟨m, svs, hm, hF⟩ := law_by_bits hw hl hb16 hpn (by rw [List.length_drop, List.length_take]; omega) (decide (pk = 3))
      have hcut : oSl (.mu RR) (some 5) (some 8) = some (.own (((row.take 8).drop 5).map PyData.int)) := by
        have := cutG_mid RR 5 8
        have e : cutG RR (some 5) (some 8) = (RR.take 8).drop 5 := this
        rw [oSl, e, ← hR, ← List.map_take, ← List.map_drop]
      have hff : consM (fVar 1) (consM (fVar 5) (consM (slM (fVar 2) (loM (fC (.int 5))) (loM (fC (.int 8))) oSl) (consM (op2 (fVar 4) (fC (.int 3)) oEq) (retM [])))) [.im L, .im (wd ws), .mu RR, .mu [iD 1], .im (iD pk), .mu (bits.map PyData.int)] = some ([.im (wd ws), .slot 5, .own (((row.take 8).drop 5).map PyData.int), .im (.bool (decide (pk = 3)))], [.im L, .im (wd ws), .mu RR, .mu [iD 1], .im (iD pk), .mu (bits.map PyData.int)]) := by
        have z : oEq (.im (iD pk)) (.im (.int 3)) = some (.im (.bool (decide (pk = 3)))) := by
          have := oEq_nat (i := pk) (j := 3)
          exact this
        generalize ((row.take 8).drop 5).map PyData.int = PP at hcut ⊢
        generalize bits.map PyData.int = BB
        generalize iD pk = PK at z ⊢
        simp [a_bind, a_ret, a_fVar, a_fC, a_op2, a_opN, a_op1, FN.view, views, frz, a_frM, a_consM, a_tupM, a_lstM, mkT, mkL, a_boolE, evB, a_truE, truM, truSV, a_notM, a_notV, a_andM, a_orM, a_andV, a_orV, a_ifM, a_loM, evI, a_slM, a_setS, store, a_retS, retE, a_setG, a_seqS, a_ifS, retN, a_nxS, a_ite, a_itemsM, itemsOf, SV.dat, SV.asI, SV.asQ, a_enuM, enumM, oAdd, oSub, int1, oLt, oLe, oGt, oGe, List.getElem?_cons_zero, List.getElem?_cons_succ, List.set_cons_zero, List.set_cons_succ, hcut, z]
      have c := callM_im (dds := []) (F := F__law_by_bits) hff (svs := [.im (wd ws), .mu (bits.map PyData.int), .mu (((row.take 8).drop 5).map PyData.int), .im (.bool (decide (pk = 3)))]) rfl (by simp [slotsMu]) (by simpa using hF) im_ne
      have hf : f__law_one [.im L, .im (wd ws), .no, .no, .no, .no] = some (.rt (.im (enc m)), upds [.im L, .im (wd ws), .mu RR, .mu [iD 1], .im (iD pk), .mu (bits.map PyData.int)] [.im (wd ws), .slot 5, .own (((row.take 8).drop 5).map PyData.int), .im (.bool (decide (pk = 3)))] svs) := by
        unfold f__law_one
        rw [seqS_nx s1, seqS_nx s2, seqS_nx s3, seqS_nx (by rw [ifS_f tt]; rfl), seqS_nx (by rw [ifS_f t3]; rfl), seqS_nx s5, a_retS, a_bind, c]
        rfl
      obtain ⟨svs', hF'⟩ := fin hf
      exact ⟨m, svs', ⟨hm.1, by have := hm.2; omega⟩, hF'⟩
end K89

namespace K89
open PySem FN
open PySem.PyData (strOk)
theorem ixI {l : List Int} {i : Nat} (h : i < l.length) (h0 : ∀ d ∈ l, 0 ≤ d) : ∃ q : Nat, oIx (.mu (l.map PyData.int)) (.im (iD i)) = some (.im (iD q)) := by
  refine ⟨(l[i]).toNat, ?_⟩
  have e : (iD (l[i]).toNat : PyData) = .int l[i] := by show PyData.int (((l[i]).toNat : Nat) : Int) = _; rw [Int.toNat_of_nonneg (h0 _ (List.getElem_mem h))]
  rw [e]
  exact ixM (f := PyData.int) h
theorem oMod_n {a b : Nat} (h : 0 < b) : oMod (.im (iD a)) (.im (iD b)) = some (.im (iD (a % b))) := by
  have := oMod_p (i := (a : Int)) (j := (b : Int)) (by omega)
  rw [this]
  have e : ((a % b : Nat) : Int) = (a : Int) % (b : Int) := by omega
  show some (EV.im (PyData.int ((a : Int) % (b : Int)))) = some (.im (.int ((a % b : Nat) : Int)))
  rw [e]
/-- int(picks[i]) % (slot or constant) -/
theorem modE {env : FEnv} {i b q : Nat} {PK : List PyData} {g : M EV} (h3 : env[3]? = some (.mu PK)) (hq : oIx (.mu PK) (.im (iD i)) = some (.im (iD q))) (hg : g env = some (.im (iD b), env)) (hb : 0 < b) :
    op2 (opN (consM (op2 (fVar 3) (fC (.int (i : Int))) oIx) (retM [])) oInt) g oMod env = some (.im (iD (q % b)), env) := by
  have hq : oIx (.mu PK) (.im (.int (i : Int))) = some (.im (iD q)) := hq
  have hm := oMod_n (a := q) hb
  have oi : oInt [.im (iD q)] = some (.im (iD q)) := rfl
  generalize iD q = Q at hq hm oi
  generalize iD b = B at hg hm
  generalize iD (q % b) = R at hm ⊢
  simp [a_bind, a_ret, a_fVar, a_fC, a_op2, a_opN, a_op1, FN.view, views, frz, a_frM, a_consM, a_tupM, a_lstM, mkT, mkL, a_boolE, evB, a_truE, truM, truSV, a_notM, a_notV, a_andM, a_orM, a_andV, a_orV, a_ifM, a_loM, evI, a_slM, a_setS, store, a_retS, retE, a_setG, a_seqS, a_ifS, retN, a_nxS, a_ite, a_itemsM, itemsOf, SV.dat, SV.asI, SV.asQ, a_enuM, enumM, oAdd, oSub, int1, oLt, oLe, oGt, oGe, List.getElem?_cons_zero, List.getElem?_cons_succ, List.set_cons_zero, List.set_cons_succ, h3, hq, oi, hg, hm]
abbrev rws (rs : List (List Mb)) : List PyData := rs.map fun r => fms r
def Rok (n : Nat) (rs : List (List Mb)) : Prop := ∀ r ∈ rs, Foks r ∧ r.length ≤ n
theorem Foks_set {l : List Mb} {i : Nat} {m : Mb} (h : Foks l) (hm : Fok m) : Foks (l.set i m) := fun x hx => by
  rcases List.mem_or_eq_of_mem_set hx with hx | rfl
  · exact h x hx
  · exact hm
theorem ixN_nat {n i : Nat} (h : i < n) : L2.ixN n (i : Int) = some i := by
  unfold L2.ixN
  rw [if_pos (by omega), if_pos (by omega), Int.toNat_natCast]
theorem list_set_map {α : Type} (l : List α) (f : α → PyData) (i : Nat) (x : α) : (l.map f).set i (f x) = (l.set i x).map f := by
  rw [List.map_set]
/-- changed[i] = row[j] -/
theorem spoil_set {n : Nat} {row ch : List Mb} {i j : Nat} (hi : i < ch.length) (hj : j < row.length) {env : FEnv} {a b : Nat} (h0 : env[0]? = some (.im (fms row))) (h8 : env[8]? = some (.mu (ch.map enc))) (ha : env[a]? = some (.im (iD j))) (hb : env[b]? = some (.im (iD i))) :
    setG (frM (op2 (fVar 0) (fVar a) oIx)) (uIx 8 (fVar b)) env = some (.nx, env.set 8 (.mu ((ch.set i row[j]).map enc))) := by
  have ix := ixT (f := enc) hj
  have e1 : frM (op2 (fVar 0) (fVar a) oIx) env = some (enc row[j], env) := by
    generalize hI : (iD j : PyData) = J at ha
    have ix : oIx (.im (fms row)) (.im J) = some (.im (enc row[j])) := by rw [← hI]; exact ix
    generalize fms row = R at h0 ix
    simp [a_bind, a_ret, a_fVar, a_fC, a_op2, a_opN, a_op1, FN.view, views, frz, a_frM, a_consM, a_tupM, a_lstM, mkT, mkL, a_boolE, evB, a_truE, truM, truSV, a_notM, a_notV, a_andM, a_orM, a_andV, a_orV, a_ifM, a_loM, evI, a_slM, a_setS, store, a_retS, retE, a_setG, a_seqS, a_ifS, retN, a_nxS, a_ite, a_itemsM, itemsOf, SV.dat, SV.asI, SV.asQ, a_enuM, enumM, oAdd, oSub, int1, oLt, oLe, oGt, oGe, List.getElem?_cons_zero, List.getElem?_cons_succ, List.set_cons_zero, List.set_cons_succ, h0, ha, ix]
  rw [a_setG, e1]
  have hl : (ch.map enc).length = ch.length := List.length_map ..
  have hx := ixN_nat (n := (ch.map enc).length) (i := i) (by rw [hl]; exact hi)
  have e2 : FN.bindM (fVar b) evI env = some ((i : Int), env) := by simp [a_bind, a_fVar, hb, evI, FN.view, SV.asI]
  show (match uIx 8 (fVar b) (enc row[j]) env with | some env2 => some (Out.nx, env2) | none => none) = _
  unfold uIx
  rw [h8]
  dsimp only
  rw [e2]
  dsimp only
  rw [h8]
  dsimp only
  rw [hx, ← list_set_map]
/-- row[:i] + (x,) + row[i+1:], the middle and the rest given -/
theorem spoil_cut {row : List Mb} {i : Nat} (hn : row.length ≤ 100) {env env1 env2 : FEnv} {a : Nat} {f : M EV} {m : Mb} {g : M EV} {j : Nat} (h0 : env[0]? = some (.im (fms row))) (ha : env[a]? = some (.im (iD i))) (hf : f env = some (.im (enc m), env1)) (h0' : env1[0]? = some (.im (fms row))) (hg : g env1 = some (.im (iD j), env1)) :
    op2 (op2 (slM (fVar 0) (retM none) (loM (fVar a)) oSl) (tupM (consM (frM f) (retM []))) oAdd) (slM (fVar 0) (loM g) (retM none) oSl) oAdd env = some (.im (fms (row.take i ++ [m] ++ row.drop j)), env1) := by
  have c1 : oSl (.im (fms row)) none (some (i : Int)) = some (.im (.tuple ((row.take i).map enc))) := by
    show some (EV.im (.tuple (cutG (row.map enc) none (some (i : Int))))) = _
    rw [cutG_take, List.map_take]
  have c2 : oSl (.im (fms row)) (some (j : Int)) none = some (.im (.tuple ((row.drop j).map enc))) := by
    show some (EV.im (.tuple (cutG (row.map enc) (some (j : Int)) none))) = _
    rw [cutG_drop, List.map_drop]
  have l1 : ((row.take i).map enc).length + 1 ≤ sizeLine := sz _ (by rw [List.length_map, List.length_take]; omega)
  have l2 : ((row.take i).map enc ++ [enc m]).length + ((row.drop j).map enc).length ≤ sizeLine := sz _ (by simp only [List.length_append, List.length_map, List.length_take, List.length_drop, List.length_singleton]; omega)
  have e : fms (row.take i ++ [m] ++ row.drop j) = .tuple ((row.take i).map enc ++ [enc m] ++ (row.drop j).map enc) := by simp [fms]
  rw [e]
  generalize (row.take i).map enc = A at c1 l1 l2 ⊢
  generalize (row.drop j).map enc = B at c2 l2 ⊢
  generalize enc m = E at hf l2 ⊢
  generalize fms row = R at h0 h0' c1 c2
  have l3 : A.length + 1 + B.length ≤ sizeLine := by simpa using l2
  simp only [iD] at ha hg
  simp [a_bind, a_ret, a_fVar, a_fC, a_op2, a_opN, a_op1, FN.view, views, frz, a_frM, a_consM, a_tupM, a_lstM, mkT, mkL, a_boolE, evB, a_truE, truM, truSV, a_notM, a_notV, a_andM, a_orM, a_andV, a_orV, a_ifM, a_loM, evI, a_slM, a_setS, store, a_retS, retE, a_setG, a_seqS, a_ifS, retN, a_nxS, a_ite, a_itemsM, itemsOf, SV.dat, SV.asI, SV.asQ, a_enuM, enumM, oAdd, oSub, int1, oLt, oLe, oGt, oGe, List.getElem?_cons_zero, List.getElem?_cons_succ, List.set_cons_zero, List.set_cons_succ, h0, ha, hf, h0', hg, c1, c2, l1, l3, sz 1]
theorem oterm_ok {ws w : List Str} (h : Ws ws) : Mok (oterm ws w) ∧ dep (oterm ws w) ≤ 2 := by
  refine ⟨Moks_of fun m hm => ?_, dep_grp fun m hm => ?_⟩
  · obtain ⟨x, hx, rfl⟩ := List.mem_map.mp hm
    exact h x (List.mem_filter.mp hx).1
  · obtain ⟨x, hx, rfl⟩ := List.mem_map.mp hm
    simp [dep]
theorem grown_ok {lot : List (List Str)} {ws : List Str} (hl : ∀ v ∈ lot, Ws v) (hw : Ws ws) (way : Nat) : Fok (grown lot ws way) := by
  have h0 := lform_ok hl
  unfold grown
  split
  · exact ⟨h0.1, by have := h0.2; omega⟩
  · split
    · refine ⟨Moks_of fun m hm => ?_, Nat.le_trans (dep_grp (n := 2) fun m hm => ?_) (by omega)⟩
      · obtain ⟨x, hx, rfl⟩ := List.mem_map.mp hm
        exact (aterm_ok (hl x (List.mem_reverse.mp hx))).1
      · obtain ⟨x, hx, rfl⟩ := List.mem_map.mp hm
        exact (aterm_ok (hl x (List.mem_reverse.mp hx))).2
    · split
      · refine ⟨Moks_of fun m hm => ?_, Nat.le_trans (dep_grp (n := 2) fun m hm => ?_) (by omega)⟩
        · obtain ⟨x, hx, rfl⟩ := List.mem_map.mp hm
          exact (oterm_ok hw).1
        · obtain ⟨x, hx, rfl⟩ := List.mem_map.mp hm
          exact (oterm_ok hw).2
      · refine ⟨⟨⟨h0.1, trivial, trivial⟩, trivial, trivial⟩, ?_⟩
        have := h0.2
        simp only [g3, dep, deps]
        omega
theorem spoil_grown {row : List Mb} {ws : List Str} {PK : List PyData} {rs : List (List Mb)} {LT : List PyData} {nn Wd ff gg v8 v10 : SV} {pl q6 : Nat} {Lot : List (List Str)} (hn : row.length ≤ 50) (hw : Nms ws) (hl4 : ws.length ≤ 4) (hL : ∀ v ∈ Lot, v ∈ worlds ws) (hLl : Lot.length ≤ 16) (hr : rs.length ≤ 50) (hq : oIx (.mu PK) (.im (iD 6)) = some (.im (iD q6))) :
    ∃ (m : Mb) (v12 : SV), Fok m ∧ appS 9 (frM (op2 (op2 (slM (fVar 0) (retM none) (loM (fVar 11)) oSl) (tupM (consM (frM (callM F__law_grown [] (consM (fVar 12) (consM (fVar 2) (consM (op2 (opN (consM (op2 (fVar 3) (fC (.int 6)) oIx) (retM [])) oInt) (fC (.int 4)) oMod) (retM [])))))) (retM []))) oAdd) (slM (fVar 0) (loM (op2 (fVar 11) (fC (.int 1)) oAdd)) (retM none) oSl) oAdd)) [.im (fms row), .mu LT, .im (wd ws), .mu PK, nn, Wd, ff, gg, v8, .mu (rws rs), v10, .im (iD pl), .mu (Lot.map wd), .no] =
      some (.nx, [.im (fms row), .mu LT, .im (wd ws), .mu PK, nn, Wd, ff, gg, v8, .mu (rws (rs ++ [row.take pl ++ [m] ++ row.drop (pl + 1)])), v10, .im (iD pl), v12, .no]) := by
  have hLw : ∀ v ∈ Lot, Ws v := fun v hv => (Nms_worlds hw v (hL v hv)).ws
  have hLs : Sm Lot := fun v hv => Nat.le_trans (worlds_short v (hL v hv)) (by omega)
  obtain ⟨sv', hF⟩ := law_grown (way := q6 % 4) (Nat.mod_lt _ (by omega)) (sv := .mu (Lot.map wd)) (.inr rfl) hLw (by omega) hLs hw hl4
  have hm := modE (env := [.im (fms row), .mu LT, .im (wd ws), .mu PK, nn, Wd, ff, gg, v8, .mu (rws rs), v10, .im (iD pl), .mu (Lot.map wd), .no]) (i := 6) (b := 4) (g := fC (.int 4)) rfl hq rfl (by omega)
  have hm : op2 (opN (consM (op2 (fVar 3) (fC (.int 6)) oIx) (retM [])) oInt) (fC (.int 4)) oMod [.im (fms row), .mu LT, .im (wd ws), .mu PK, nn, Wd, ff, gg, v8, .mu (rws rs), v10, .im (iD pl), .mu (Lot.map wd), .no] = some (.im (iD (q6 % 4)), [.im (fms row), .mu LT, .im (wd ws), .mu PK, nn, Wd, ff, gg, v8, .mu (rws rs), v10, .im (iD pl), .mu (Lot.map wd), .no]) := hm
  obtain ⟨env', c, he⟩ := call_lsv (F := F__law_grown) (i := 12) (as := [wd ws, iD (q6 % 4)]) (f := consM (fVar 12) (consM (fVar 2) (consM (op2 (opN (consM (op2 (fVar 3) (fC (.int 6)) oIx) (retM [])) oInt) (fC (.int 4)) oMod) (retM [])))) (env := [.im (fms row), .mu LT, .im (wd ws), .mu PK, nn, Wd, ff, gg, v8, .mu (rws rs), v10, .im (iD pl), .mu (Lot.map wd), .no]) (lot := Lot) (.inr rfl) rfl (fun e he => by
    rw [a_consM, a_bind, he]
    have h2 : fVar 2 [.im (fms row), .mu LT, .im (wd ws), .mu PK, nn, Wd, ff, gg, v8, .mu (rws rs), v10, .im (iD pl), .mu (Lot.map wd), .no] = some (.im (wd ws), [.im (fms row), .mu LT, .im (wd ws), .mu PK, nn, Wd, ff, gg, v8, .mu (rws rs), v10, .im (iD pl), .mu (Lot.map wd), .no]) := rfl
    simp only [a_bind, a_consM, h2, hm, a_ret]
    rfl) hF im_ne
  have hG := grown_ok hLw hw.ws (q6 % 4)
  generalize grown Lot ws (q6 % 4) = m at c hG
  have hv : ∃ v12, env' = [.im (fms row), .mu LT, .im (wd ws), .mu PK, nn, Wd, ff, gg, v8, .mu (rws rs), v10, .im (iD pl), v12, .no] := by
    rcases he with rfl | rfl
    · exact ⟨_, rfl⟩
    · exact ⟨_, rfl⟩
  obtain ⟨v12, rfl⟩ := hv
  refine ⟨m, v12, hG, ?_⟩
  have ct := spoil_cut (row := row) (i := pl) (j := pl + 1) (by omega) (env := [.im (fms row), .mu LT, .im (wd ws), .mu PK, nn, Wd, ff, gg, v8, .mu (rws rs), v10, .im (iD pl), .mu (Lot.map wd), .no]) (env2 := []) (a := 11) (g := op2 (fVar 11) (fC (.int 1)) oAdd) rfl rfl c rfl rfl
  rw [a_appS]
  have e9 : ([.im (fms row), .mu LT, .im (wd ws), .mu PK, nn, Wd, ff, gg, v8, .mu (rws rs), v10, .im (iD pl), .mu (Lot.map wd), .no] : FEnv)[9]? = some (.mu (rws rs)) := rfl
  rw [e9]
  dsimp only
  rw [a_frM, a_bind, ct]
  have hl : (rws rs).length < sizeLine := szl _ (by rw [List.length_map]; omega)
  show (if (rws rs).length < sizeLine then _ else _) = _
  rw [if_pos hl]
  have er : rws (rs ++ [row.take pl ++ [m] ++ row.drop (pl + 1)]) = rws rs ++ [fms (row.take pl ++ [m] ++ row.drop (pl + 1))] := by simp [rws]
  rw [er]
  rfl
end K89

namespace K89
open PySem FN
open PySem.PyData (strOk)
theorem fms_len {l : List Mb} : oLen [.im (fms l)] = some (.im (iD l.length)) := by
  show some (EV.im (.int ((l.map enc).length : Nat))) = _
  rw [List.length_map]
theorem Foks_app {a b : List Mb} (h : Foks a) (h2 : Foks b) : Foks (a ++ b) := fun m hm => (List.mem_append.mp hm).elim (h m) (h2 m)
theorem Foks_take {a : List Mb} (h : Foks a) (n : Nat) : Foks (a.take n) := fun m hm => h m (List.mem_of_mem_take hm)
theorem Foks_drop {a : List Mb} (h : Foks a) (n : Nat) : Foks (a.drop n) := fun m hm => h m (List.mem_of_mem_drop hm)
theorem Foks_one {m : Mb} (h : Fok m) : Foks [m] := fun x hx => by rw [List.mem_singleton.mp hx]; exact h
theorem Rok_app {n : Nat} {a : List (List Mb)} {r : List Mb} (h : Rok n a) (hr : Foks r) (hl : r.length ≤ n) : Rok n (a ++ [r]) := fun x hx => (List.mem_append.mp hx).elim (h x) fun z => by rw [List.mem_singleton.mp z]; exact ⟨hr, hl⟩
/-- the first half: rows of the four first -/
theorem spoil_first {row : List Mb} (hrow : Foks row) (hn1 : 1 ≤ row.length) (hn : row.length ≤ 20) {ws : List Str} (hl4 : ws.length ≤ 4) {LT : List PyData} {PK : List Int} (hP : PK.length = 8) (hP0 : ∀ d ∈ PK, 0 ≤ d) :
    ∃ (f g : Nat) (rs : List (List Mb)) (v8 : SV), f < row.length ∧ g < row.length ∧ Rok (row.length + 1) rs ∧ rs.length = 3 ∧ ∀ k : SS, (seqS (setS [0, 1, 2, 3] 4 (opN (consM (fVar 0) (retM [])) oLen)) (seqS (setS [0, 1, 2, 3] 5 (callM F__law_all [] (consM (fVar 2) (retM [])))) (seqS (setS [0, 1, 2, 3] 6 (op2 (opN (consM (op2 (fVar 3) (fC (.int 0)) oIx) (retM [])) oInt) (fVar 4) oMod)) (seqS (setS [0, 1, 2, 3] 7 (op2 (opN (consM (op2 (fVar 3) (fC (.int 1)) oIx) (retM [])) oInt) (fVar 4) oMod)) (seqS (setS [0, 1, 2, 3] 8 (opN (consM (fVar 0) (retM [])) oList)) (seqS (setG (frM (op2 (fVar 0) (fVar 7) oIx)) (uIx 8 (fVar 6))) (seqS (setG (frM (op2 (fVar 0) (fVar 6) oIx)) (uIx 8 (fVar 7))) (seqS (setS [0, 1, 2, 3] 9 (lstM (consM (frM (opN (consM (fVar 8) (retM [])) oTuple)) (consM (frM (op2 (slM (fVar 0) (retM none) (loM (fVar 6)) oSl) (slM (fVar 0) (loM (op2 (fVar 6) (fC (.int 1)) oAdd)) (retM none) oSl) oAdd)) (retM []))))) (seqS (ifS (boolE (op2 (op2 (opN (consM (op2 (fVar 3) (fC (.int 2)) oIx) (retM [])) oInt) (fC (.int 2)) oMod) (fC (.int 0)) oEq)) (appS 9 (frM (op2 (fVar 0) (tupM (consM (frM (tupM (consM (frM (fC (.str "some"))) (consM (frM (tupM (retM []))) (retM []))))) (retM []))) oAdd))) (appS 9 (frM (op2 (op2 (slM (fVar 0) (retM none) (loM (fVar 7)) oSl) (tupM (consM (frM (op2 (fVar 0) (fVar 7) oIx)) (retM []))) oAdd) (slM (fVar 0) (loM (fVar 7)) (retM none) oSl) oAdd)))) k)))))))))
      [.im (fms row), .mu LT, .im (wd ws), .mu (PK.map PyData.int), .no, .no, .no, .no, .no, .no, .no, .no, .no, .no] = k [.im (fms row), .mu LT, .im (wd ws), .mu (PK.map PyData.int), .im (iD row.length), .mu ((worlds ws).map wd), .im (iD f), .im (iD g), v8, .mu (rws rs), .no, .no, .no, .no] := by
  obtain ⟨q0, h0⟩ := ixI (i := 0) (l := PK) (by omega) hP0
  obtain ⟨q1, h1⟩ := ixI (i := 1) (l := PK) (by omega) hP0
  obtain ⟨q2, h2⟩ := ixI (i := 2) (l := PK) (by omega) hP0
  generalize PK.map PyData.int = P at h0 h1 h2 ⊢
  generalize hf : q0 % row.length = f
  generalize hg : q1 % row.length = g
  have hfl : f < row.length := by rw [← hf]; exact Nat.mod_lt _ hn1
  have hgl : g < row.length := by rw [← hg]; exact Nat.mod_lt _ hn1
  have s1 : setS [0, 1, 2, 3] 4 (opN (consM (fVar 0) (retM [])) oLen) [.im (fms row), .mu LT, .im (wd ws), .mu P, .no, .no, .no, .no, .no, .no, .no, .no, .no, .no] = some (.nx, [.im (fms row), .mu LT, .im (wd ws), .mu P, .im (iD row.length), .no, .no, .no, .no, .no, .no, .no, .no, .no]) := by
    have ol := fms_len (l := row)
    generalize fms row = R at ol ⊢
    generalize iD row.length = N at ol ⊢
    simp [a_bind, a_ret, a_fVar, a_fC, a_op2, a_opN, a_op1, FN.view, views, frz, a_frM, a_consM, a_tupM, a_lstM, mkT, mkL, a_boolE, evB, a_truE, truM, truSV, a_notM, a_notV, a_andM, a_orM, a_andV, a_orV, a_ifM, a_loM, evI, a_slM, a_setS, store, a_retS, retE, a_setG, a_seqS, a_ifS, retN, a_nxS, a_ite, a_itemsM, itemsOf, SV.dat, SV.asI, SV.asQ, a_enuM, enumM, oAdd, oSub, int1, oLt, oLe, oGt, oGe, List.getElem?_cons_zero, List.getElem?_cons_succ, List.set_cons_zero, List.set_cons_succ, ol]
  have s2 : setS [0, 1, 2, 3] 5 (callM F__law_all [] (consM (fVar 2) (retM []))) [.im (fms row), .mu LT, .im (wd ws), .mu P, .im (iD row.length), .no, .no, .no, .no, .no, .no, .no, .no, .no] = some (.nx, [.im (fms row), .mu LT, .im (wd ws), .mu P, .im (iD row.length), .mu ((worlds ws).map wd), .no, .no, .no, .no, .no, .no, .no, .no]) := by
    have c : callM F__law_all [] (consM (fVar 2) (retM [])) [.im (fms row), .mu LT, .im (wd ws), .mu P, .im (iD row.length), .no, .no, .no, .no, .no, .no, .no, .no, .no] = some (.own ((worlds ws).map wd), [.im (fms row), .mu LT, .im (wd ws), .mu P, .im (iD row.length), .no, .no, .no, .no, .no, .no, .no, .no, .no]) := call_im [wd ws] rfl (law_all (by omega)) own_ne
    rw [a_setS, c]
    rfl
  have s3 : setS [0, 1, 2, 3] 6 (op2 (opN (consM (op2 (fVar 3) (fC (.int 0)) oIx) (retM [])) oInt) (fVar 4) oMod) [.im (fms row), .mu LT, .im (wd ws), .mu P, .im (iD row.length), .mu ((worlds ws).map wd), .no, .no, .no, .no, .no, .no, .no, .no] = some (.nx, [.im (fms row), .mu LT, .im (wd ws), .mu P, .im (iD row.length), .mu ((worlds ws).map wd), .im (iD f), .no, .no, .no, .no, .no, .no, .no]) := by
    have c := modE (i := 0) (b := row.length) (g := fVar 4) (env := [.im (fms row), .mu LT, .im (wd ws), .mu P, .im (iD row.length), .mu ((worlds ws).map wd), .no, .no, .no, .no, .no, .no, .no, .no]) rfl h0 rfl hn1
    rw [hf] at c
    have c : op2 (opN (consM (op2 (fVar 3) (fC (.int 0)) oIx) (retM [])) oInt) (fVar 4) oMod [.im (fms row), .mu LT, .im (wd ws), .mu P, .im (iD row.length), .mu ((worlds ws).map wd), .no, .no, .no, .no, .no, .no, .no, .no] = _ := c
    rw [a_setS, c]
    rfl
  have s4 : setS [0, 1, 2, 3] 7 (op2 (opN (consM (op2 (fVar 3) (fC (.int 1)) oIx) (retM [])) oInt) (fVar 4) oMod) [.im (fms row), .mu LT, .im (wd ws), .mu P, .im (iD row.length), .mu ((worlds ws).map wd), .im (iD f), .no, .no, .no, .no, .no, .no, .no] = some (.nx, [.im (fms row), .mu LT, .im (wd ws), .mu P, .im (iD row.length), .mu ((worlds ws).map wd), .im (iD f), .im (iD g), .no, .no, .no, .no, .no, .no]) := by
    have c := modE (i := 1) (b := row.length) (g := fVar 4) (env := [.im (fms row), .mu LT, .im (wd ws), .mu P, .im (iD row.length), .mu ((worlds ws).map wd), .im (iD f), .no, .no, .no, .no, .no, .no, .no]) rfl h1 rfl hn1
    rw [hg] at c
    have c : op2 (opN (consM (op2 (fVar 3) (fC (.int 1)) oIx) (retM [])) oInt) (fVar 4) oMod [.im (fms row), .mu LT, .im (wd ws), .mu P, .im (iD row.length), .mu ((worlds ws).map wd), .im (iD f), .no, .no, .no, .no, .no, .no, .no] = _ := c
    rw [a_setS, c]
    rfl
  have s5 : setS [0, 1, 2, 3] 8 (opN (consM (fVar 0) (retM [])) oList) [.im (fms row), .mu LT, .im (wd ws), .mu P, .im (iD row.length), .mu ((worlds ws).map wd), .im (iD f), .im (iD g), .no, .no, .no, .no, .no, .no] = some (.nx, [.im (fms row), .mu LT, .im (wd ws), .mu P, .im (iD row.length), .mu ((worlds ws).map wd), .im (iD f), .im (iD g), .mu (row.map enc), .no, .no, .no, .no, .no]) := rfl
  have s6 := spoil_set (n := 0) (row := row) (ch := row) (i := f) (j := g) hfl hgl (a := 7) (b := 6) (env := [.im (fms row), .mu LT, .im (wd ws), .mu P, .im (iD row.length), .mu ((worlds ws).map wd), .im (iD f), .im (iD g), .mu (row.map enc), .no, .no, .no, .no, .no]) rfl rfl rfl rfl
  have s6 : setG (frM (op2 (fVar 0) (fVar 7) oIx)) (uIx 8 (fVar 6)) [.im (fms row), .mu LT, .im (wd ws), .mu P, .im (iD row.length), .mu ((worlds ws).map wd), .im (iD f), .im (iD g), .mu (row.map enc), .no, .no, .no, .no, .no] = some (.nx, [.im (fms row), .mu LT, .im (wd ws), .mu P, .im (iD row.length), .mu ((worlds ws).map wd), .im (iD f), .im (iD g), .mu ((row.set f row[g]).map enc), .no, .no, .no, .no, .no]) := s6
  have s7 := spoil_set (n := 0) (row := row) (ch := row.set f row[g]) (i := g) (j := f) (by rw [List.length_set]; exact hgl) hfl (a := 6) (b := 7) (env := [.im (fms row), .mu LT, .im (wd ws), .mu P, .im (iD row.length), .mu ((worlds ws).map wd), .im (iD f), .im (iD g), .mu ((row.set f row[g]).map enc), .no, .no, .no, .no, .no]) rfl rfl rfl rfl
  have hchF : Foks ((row.set f row[g]).set g row[f]) := Foks_set (Foks_set hrow (hrow _ (List.getElem_mem hgl))) (hrow _ (List.getElem_mem hfl))
  have hchl : ((row.set f row[g]).set g row[f]).length = row.length := by rw [List.length_set, List.length_set]
  generalize (row.set f row[g]).set g row[f] = ch at s7 hchF hchl
  have s7 : setG (frM (op2 (fVar 0) (fVar 6) oIx)) (uIx 8 (fVar 7)) [.im (fms row), .mu LT, .im (wd ws), .mu P, .im (iD row.length), .mu ((worlds ws).map wd), .im (iD f), .im (iD g), .mu ((row.set f row[g]).map enc), .no, .no, .no, .no, .no] = some (.nx, [.im (fms row), .mu LT, .im (wd ws), .mu P, .im (iD row.length), .mu ((worlds ws).map wd), .im (iD f), .im (iD g), .mu (ch.map enc), .no, .no, .no, .no, .no]) := s7
  have s8 : setS [0, 1, 2, 3] 9 (lstM (consM (frM (opN (consM (fVar 8) (retM [])) oTuple)) (consM (frM (op2 (slM (fVar 0) (retM none) (loM (fVar 6)) oSl) (slM (fVar 0) (loM (op2 (fVar 6) (fC (.int 1)) oAdd)) (retM none) oSl) oAdd)) (retM [])))) [.im (fms row), .mu LT, .im (wd ws), .mu P, .im (iD row.length), .mu ((worlds ws).map wd), .im (iD f), .im (iD g), .mu (ch.map enc), .no, .no, .no, .no, .no] = some (.nx, [.im (fms row), .mu LT, .im (wd ws), .mu P, .im (iD row.length), .mu ((worlds ws).map wd), .im (iD f), .im (iD g), .mu (ch.map enc), .mu (rws [ch, row.take f ++ row.drop (f + 1)]), .no, .no, .no, .no]) := by
    have c1 : oSl (.im (fms row)) none (some (f : Int)) = some (.im (.tuple ((row.take f).map enc))) := by
      show some (EV.im (.tuple (cutG (row.map enc) none (some (f : Int))))) = _
      rw [cutG_take, List.map_take]
    have c2 : oSl (.im (fms row)) (some ((f : Int) + 1)) none = some (.im (.tuple ((row.drop (f + 1)).map enc))) := by
      show some (EV.im (.tuple (cutG (row.map enc) (some (((f + 1 : Nat) : Int))) none))) = _
      rw [cutG_drop, List.map_drop]
    have l2 : ((row.take f).map enc).length + ((row.drop (f + 1)).map enc).length ≤ sizeLine := sz _ (by simp only [List.length_map, List.length_take, List.length_drop]; omega)
    have e : rws [ch, row.take f ++ row.drop (f + 1)] = [.tuple (ch.map enc), .tuple ((row.take f).map enc ++ (row.drop (f + 1)).map enc)] := by simp [rws, fms]
    rw [e]
    generalize (row.take f).map enc = A at c1 l2 ⊢
    generalize (row.drop (f + 1)).map enc = B at c2 l2 ⊢
    generalize fms row = R at c1 c2 ⊢
    generalize ch.map enc = CH
    generalize (worlds ws).map wd = W
    simp only [iD] at c1 c2 ⊢
    simp [a_bind, a_ret, a_fVar, a_fC, a_op2, a_opN, a_op1, FN.view, views, frz, a_frM, a_consM, a_tupM, a_lstM, mkT, mkL, a_boolE, evB, a_truE, truM, truSV, a_notM, a_notV, a_andM, a_orM, a_andV, a_orV, a_ifM, a_loM, evI, a_slM, a_setS, store, a_retS, retE, a_setG, a_seqS, a_ifS, retN, a_nxS, a_ite, a_itemsM, itemsOf, SV.dat, SV.asI, SV.asQ, a_enuM, enumM, oAdd, oSub, int1, oLt, oLe, oGt, oGe, List.getElem?_cons_zero, List.getElem?_cons_succ, List.set_cons_zero, List.set_cons_succ, c1, c2, l2, sz 2, oTuple]
  have hn2 : Fok (.grp false []) := ⟨trivial, by simp [dep, deps]⟩
  have r2 : Rok (row.length + 1) [ch, row.take f ++ row.drop (f + 1)] := fun x hx => by
    rcases List.mem_cons.mp hx with rfl | hx
    · exact ⟨hchF, by omega⟩
    · rw [List.mem_singleton.mp hx]
      exact ⟨Foks_app (Foks_take hrow _) (Foks_drop hrow _), by simp only [List.length_append, List.length_take, List.length_drop]; omega⟩
  have s9 : ∃ r : List Mb, Foks r ∧ r.length ≤ row.length + 1 ∧ ifS (boolE (op2 (op2 (opN (consM (op2 (fVar 3) (fC (.int 2)) oIx) (retM [])) oInt) (fC (.int 2)) oMod) (fC (.int 0)) oEq)) (appS 9 (frM (op2 (fVar 0) (tupM (consM (frM (tupM (consM (frM (fC (.str "some"))) (consM (frM (tupM (retM []))) (retM []))))) (retM []))) oAdd))) (appS 9 (frM (op2 (op2 (slM (fVar 0) (retM none) (loM (fVar 7)) oSl) (tupM (consM (frM (op2 (fVar 0) (fVar 7) oIx)) (retM []))) oAdd) (slM (fVar 0) (loM (fVar 7)) (retM none) oSl) oAdd))) [.im (fms row), .mu LT, .im (wd ws), .mu P, .im (iD row.length), .mu ((worlds ws).map wd), .im (iD f), .im (iD g), .mu (ch.map enc), .mu (rws [ch, row.take f ++ row.drop (f + 1)]), .no, .no, .no, .no] = some (.nx, [.im (fms row), .mu LT, .im (wd ws), .mu P, .im (iD row.length), .mu ((worlds ws).map wd), .im (iD f), .im (iD g), .mu (ch.map enc), .mu (rws ([ch, row.take f ++ row.drop (f + 1)] ++ [r])), .no, .no, .no, .no]) := by
    have hz : ([ch, row.take f ++ row.drop (f + 1)] : List (List Mb)).length = 2 := rfl
    generalize [ch, row.take f ++ row.drop (f + 1)] = rs at hz ⊢
    generalize ch.map enc = CH
    generalize (worlds ws).map wd = W
    have hlr : (rws rs).length < sizeLine := szl _ (by rw [List.length_map]; omega)
    have app : ∀ r : List Mb, rws (rs ++ [r]) = rws rs ++ [fms r] := fun r => by simp [rws]
    have md := modE (i := 2) (b := 2) (g := fC (.int 2)) (env := [.im (fms row), .mu LT, .im (wd ws), .mu P, .im (iD row.length), .mu W, .im (iD f), .im (iD g), .mu CH, .mu (rws rs), .no, .no, .no, .no]) rfl h2 rfl (by omega)
    have md : op2 (opN (consM (op2 (fVar 3) (fC (.int 2)) oIx) (retM [])) oInt) (fC (.int 2)) oMod [.im (fms row), .mu LT, .im (wd ws), .mu P, .im (iD row.length), .mu W, .im (iD f), .im (iD g), .mu CH, .mu (rws rs), .no, .no, .no, .no] = _ := md
    by_cases hq : q2 % 2 = 0
    · refine ⟨row ++ [.grp false []], Foks_app hrow (Foks_one hn2), by rw [List.length_append]; exact Nat.le_refl _, ?_⟩
      have tt : boolE (op2 (op2 (opN (consM (op2 (fVar 3) (fC (.int 2)) oIx) (retM [])) oInt) (fC (.int 2)) oMod) (fC (.int 0)) oEq) [.im (fms row), .mu LT, .im (wd ws), .mu P, .im (iD row.length), .mu W, .im (iD f), .im (iD g), .mu CH, .mu (rws rs), .no, .no, .no, .no] = some (true, [.im (fms row), .mu LT, .im (wd ws), .mu P, .im (iD row.length), .mu W, .im (iD f), .im (iD g), .mu CH, .mu (rws rs), .no, .no, .no, .no]) := by
        rw [hq] at md
        rw [a_boolE, a_bind, a_op2, a_bind, md]
        rfl
      rw [ifS_t tt, app]
      have e : fms (row ++ [.grp false []]) = .tuple (row.map enc ++ [.tuple [.str "some", .tuple []]]) := by simp [fms, enc, encs, gname]
      have l3 : (row.map enc).length + 1 ≤ sizeLine := sz _ (by rw [List.length_map]; omega)
      rw [e]
      generalize rws rs = RS at hlr ⊢
      show appS 9 _ [.im (.tuple (row.map enc)), .mu LT, .im (wd ws), .mu P, .im (iD row.length), .mu W, .im (iD f), .im (iD g), .mu CH, .mu RS, .no, .no, .no, .no] = some (.nx, [.im (.tuple (row.map enc)), .mu LT, .im (wd ws), .mu P, .im (iD row.length), .mu W, .im (iD f), .im (iD g), .mu CH, .mu (RS ++ [.tuple (row.map enc ++ [.tuple [.str "some", .tuple []]])]), .no, .no, .no, .no])
      generalize row.map enc = RE at l3 ⊢
      simp [a_bind, a_ret, a_fVar, a_fC, a_op2, a_opN, a_op1, FN.view, views, frz, a_frM, a_consM, a_tupM, a_lstM, mkT, mkL, a_boolE, evB, a_truE, truM, truSV, a_notM, a_notV, a_andM, a_orM, a_andV, a_orV, a_ifM, a_loM, evI, a_slM, a_setS, store, a_retS, retE, a_setG, a_seqS, a_ifS, retN, a_nxS, a_ite, a_itemsM, itemsOf, SV.dat, SV.asI, SV.asQ, a_enuM, enumM, oAdd, oSub, int1, oLt, oLe, oGt, oGe, List.getElem?_cons_zero, List.getElem?_cons_succ, List.set_cons_zero, List.set_cons_succ, a_appS, hlr, l3, sz 0, sz 1, sz 2]
    · refine ⟨row.take g ++ [row[g]] ++ row.drop g, Foks_app (Foks_app (Foks_take hrow _) (Foks_one (hrow _ (List.getElem_mem hgl)))) (Foks_drop hrow _), by simp only [List.length_append, List.length_take, List.length_drop, List.length_singleton]; omega, ?_⟩
      have tt : boolE (op2 (op2 (opN (consM (op2 (fVar 3) (fC (.int 2)) oIx) (retM [])) oInt) (fC (.int 2)) oMod) (fC (.int 0)) oEq) [.im (fms row), .mu LT, .im (wd ws), .mu P, .im (iD row.length), .mu W, .im (iD f), .im (iD g), .mu CH, .mu (rws rs), .no, .no, .no, .no] = some (false, [.im (fms row), .mu LT, .im (wd ws), .mu P, .im (iD row.length), .mu W, .im (iD f), .im (iD g), .mu CH, .mu (rws rs), .no, .no, .no, .no]) := by
        have h1' : q2 % 2 = 1 := by omega
        rw [h1'] at md
        rw [a_boolE, a_bind, a_op2, a_bind, md]
        rfl
      rw [ifS_f tt, app]
      have ix := ixT (f := enc) hgl
      have cm : op2 (fVar 0) (fVar 7) oIx [.im (fms row), .mu LT, .im (wd ws), .mu P, .im (iD row.length), .mu W, .im (iD f), .im (iD g), .mu CH, .mu (rws rs), .no, .no, .no, .no] = some (.im (enc row[g]), [.im (fms row), .mu LT, .im (wd ws), .mu P, .im (iD row.length), .mu W, .im (iD f), .im (iD g), .mu CH, .mu (rws rs), .no, .no, .no, .no]) := by
        have ix : oIx (.im (fms row)) (.im (iD g)) = some (.im (enc row[g])) := ix
        generalize fms row = R at ix ⊢
        generalize iD g = GG at ix ⊢
        generalize rws rs = RS
        simp [a_bind, a_ret, a_fVar, a_fC, a_op2, a_opN, a_op1, FN.view, views, frz, a_frM, a_consM, a_tupM, a_lstM, mkT, mkL, a_boolE, evB, a_truE, truM, truSV, a_notM, a_notV, a_andM, a_orM, a_andV, a_orV, a_ifM, a_loM, evI, a_slM, a_setS, store, a_retS, retE, a_setG, a_seqS, a_ifS, retN, a_nxS, a_ite, a_itemsM, itemsOf, SV.dat, SV.asI, SV.asQ, a_enuM, enumM, oAdd, oSub, int1, oLt, oLe, oGt, oGe, List.getElem?_cons_zero, List.getElem?_cons_succ, List.set_cons_zero, List.set_cons_succ, ix]
      have ct := spoil_cut (row := row) (i := g) (j := g) (by omega) (env := [.im (fms row), .mu LT, .im (wd ws), .mu P, .im (iD row.length), .mu W, .im (iD f), .im (iD g), .mu CH, .mu (rws rs), .no, .no, .no, .no]) (env2 := []) (a := 7) (g := fVar 7) rfl rfl cm rfl rfl
      rw [a_appS]
      have e9 : ([.im (fms row), .mu LT, .im (wd ws), .mu P, .im (iD row.length), .mu W, .im (iD f), .im (iD g), .mu CH, .mu (rws rs), .no, .no, .no, .no] : FEnv)[9]? = some (.mu (rws rs)) := rfl
      rw [e9]
      dsimp only
      rw [a_frM, a_bind, ct]
      show (if (rws rs).length < sizeLine then _ else _) = _
      rw [if_pos hlr]
      rfl
  obtain ⟨r, hr1, hr2, s9⟩ := s9
  refine ⟨f, g, [ch, row.take f ++ row.drop (f + 1)] ++ [r], .mu (ch.map enc), hfl, hgl, Rok_app r2 hr1 hr2, rfl, fun k => ?_⟩
  rw [seqS_nx s1, seqS_nx s2, seqS_nx s3, seqS_nx s4, seqS_nx s5]
  rw [seqS_nx s6, seqS_nx s7, seqS_nx s8, seqS_nx s9]
end K89

namespace K89
open PySem FN
open PySem.PyData (strOk)
/-- world = worlds[int(picks[i]) % len(worlds)] -/
theorem spoil_world {row : List Mb} {ws : List Str} {LT P : List PyData} {n f g v8 v9 v10 v11 v12 : SV} {i q : Nat} (hq : oIx (.mu P) (.im (iD i)) = some (.im (iD q))) :
    ∃ w ∈ worlds ws, setS [0, 1, 2, 3] 10 (op2 (fVar 5) (op2 (opN (consM (op2 (fVar 3) (fC (.int (i : Int))) oIx) (retM [])) oInt) (opN (consM (fVar 5) (retM [])) oLen) oMod) oIx) [.im (fms row), .mu LT, .im (wd ws), .mu P, n, .mu ((worlds ws).map wd), f, g, v8, v9, v10, v11, v12, .no] = some (.nx, [.im (fms row), .mu LT, .im (wd ws), .mu P, n, .mu ((worlds ws).map wd), f, g, v8, v9, .im (wd w), v11, v12, .no]) := by
  have hpos : 0 < (worlds ws).length := by rw [worlds_length]; exact Nat.pow_pos (by omega)
  have hlt : q % (worlds ws).length < (worlds ws).length := Nat.mod_lt _ hpos
  refine ⟨(worlds ws)[q % (worlds ws).length], List.getElem_mem hlt, ?_⟩
  have ix := ixM (f := wd) hlt
  have ol : oLen [.mu ((worlds ws).map wd)] = some (.im (iD (worlds ws).length)) := by
    show some (EV.im (.int (((worlds ws).map wd).length : Nat))) = _
    rw [List.length_map]
  have md := modE (i := i) (b := (worlds ws).length) (g := opN (consM (fVar 5) (retM [])) oLen) (env := [.im (fms row), .mu LT, .im (wd ws), .mu P, n, .mu ((worlds ws).map wd), f, g, v8, v9, v10, v11, v12, .no]) rfl hq (by
    generalize iD (worlds ws).length = N at ol ⊢
    generalize (worlds ws).map wd = W at ol ⊢
    simp [a_bind, a_ret, a_fVar, a_fC, a_op2, a_opN, a_op1, FN.view, views, frz, a_frM, a_consM, a_tupM, a_lstM, mkT, mkL, a_boolE, evB, a_truE, truM, truSV, a_notM, a_notV, a_andM, a_orM, a_andV, a_orV, a_ifM, a_loM, evI, a_slM, a_setS, store, a_retS, retE, a_setG, a_seqS, a_ifS, retN, a_nxS, a_ite, a_itemsM, itemsOf, SV.dat, SV.asI, SV.asQ, a_enuM, enumM, oAdd, oSub, int1, oLt, oLe, oGt, oGe, List.getElem?_cons_zero, List.getElem?_cons_succ, List.set_cons_zero, List.set_cons_succ, ol]) hpos
  generalize q % (worlds ws).length = k at hlt ix md ⊢
  have ix : oIx (.mu ((worlds ws).map wd)) (.im (iD k)) = some (.im (wd (worlds ws)[k])) := ix
  generalize (worlds ws)[k] = w at ix ⊢
  generalize (worlds ws).map wd = W at ix md ⊢
  generalize iD k = K at ix md
  rw [a_setS, a_op2, a_bind, a_fVar]
  simp only [List.getElem?_cons_succ, List.getElem?_cons_zero]
  rw [a_bind, md]
  simp [FN.view, ix, store, frz]
theorem LT_ix {ws : List Str} {bits : List Int} {pl : Nat} (h : pl < ws.length + 1) : oIx (.mu ((List.range (ws.length + 1)).map fun m => lst (lotB ws bits m))) (.im (iD pl)) = some (.im (lst (lotB ws bits pl))) := by
  have hl : pl < (List.range (ws.length + 1)).length := by rw [List.length_range]; exact h
  have := ixM (f := fun m => lst (lotB ws bits m)) hl
  rw [List.getElem_range] at this
  exact this
/-- lot = [other for other in lots[place] if not below(other, world)] -/
theorem spoil_lot3 {row : List Mb} {ws : List Str} {bits : List Int} {P : List PyData} {n Wd f g v8 v9 v12 : SV} {pl : Nat} {w : List Str} (hw : Nms ws) (hl4 : ws.length ≤ 4) (hpl : pl < ws.length + 1) (hwm : w ∈ worlds ws) :
    ∃ Lot : List (List Str), (∀ v ∈ Lot, v ∈ worlds ws) ∧ Lot.length ≤ 16 ∧ setS [0, 1, 2, 3] 12 (lcM [13] (itemsM (frM (op2 (fVar 1) (fVar 11) oIx))) (uName [0, 1, 2, 3] 13) f__law_spoilt_3 f__law_spoilt_4) [.im (fms row), .mu ((List.range (ws.length + 1)).map fun m => lst (lotB ws bits m)), .im (wd ws), .mu P, n, Wd, f, g, v8, v9, .im (wd w), .im (iD pl), v12, .no] = some (.nx, [.im (fms row), .mu ((List.range (ws.length + 1)).map fun m => lst (lotB ws bits m)), .im (wd ws), .mu P, n, Wd, f, g, v8, v9, .im (wd w), .im (iD pl), .mu (Lot.map wd), .no]) := by
  have ix := LT_ix (bits := bits) hpl
  generalize ((List.range (ws.length + 1)).map fun m => lst (lotB ws bits m)) = LT at ix ⊢
  have hsub : ∀ v ∈ lotB ws bits pl, v ∈ worlds ws := fun v hv => (List.mem_filter.mp hv).1
  have hlen : (lotB ws bits pl).length ≤ 16 := Nat.le_trans (List.length_filter_le _ _) (worlds_le hl4)
  generalize lotB ws bits pl = L at ix hsub hlen
  have hi : itemsM (frM (op2 (fVar 1) (fVar 11) oIx)) [.im (fms row), .mu LT, .im (wd ws), .mu P, n, Wd, f, g, v8, v9, .im (wd w), .im (iD pl), v12, .no] = some (L.map wd, [.im (fms row), .mu LT, .im (wd ws), .mu P, n, Wd, f, g, v8, v9, .im (wd w), .im (iD pl), v12, .no]) := by
    generalize iD pl = PL at ix ⊢
    simp [a_bind, a_ret, a_fVar, a_fC, a_op2, a_opN, a_op1, FN.view, views, frz, a_frM, a_consM, a_tupM, a_lstM, mkT, mkL, a_boolE, evB, a_truE, truM, truSV, a_notM, a_notV, a_andM, a_orM, a_andV, a_orV, a_ifM, a_loM, evI, a_slM, a_setS, store, a_retS, retE, a_setG, a_seqS, a_ifS, retN, a_nxS, a_ite, a_itemsM, itemsOf, SV.dat, SV.asI, SV.asQ, a_enuM, enumM, oAdd, oSub, int1, oLt, oLe, oGt, oGe, List.getElem?_cons_zero, List.getElem?_cons_succ, List.set_cons_zero, List.set_cons_succ, ix]
  have lc := lcg_map (vs := [13]) (u := uName [0, 1, 2, 3] 13) (test := f__law_spoilt_3) (elt := f__law_spoilt_4) wd (fun v => !(sub v w)) wd hi rfl (sz _) fun v hv => by
    have c : callM F__law_below [] (consM (fVar 13) (consM (fVar 10) (retM []))) [.im (fms row), .mu LT, .im (wd ws), .mu P, n, Wd, f, g, v8, v9, .im (wd w), .im (iD pl), v12, .im (wd v)] = some (.im (.bool (sub v w)), [.im (fms row), .mu LT, .im (wd ws), .mu P, n, Wd, f, g, v8, v9, .im (wd w), .im (iD pl), v12, .im (wd v)]) := call_im [wd v, wd w] rfl (law_below (Nms_worlds hw v (hsub v hv)).ws (Nms_worlds hw w hwm).ws) im_ne
    refine ⟨_, rfl, ?_, fun _ => rfl, rfl⟩
    show f__law_spoilt_3 [.im (fms row), .mu LT, .im (wd ws), .mu P, n, Wd, f, g, v8, v9, .im (wd w), .im (iD pl), v12, .im (wd v)] = _
    rw [f__law_spoilt_3, a_notM, a_bind, a_truE, a_bind, c]
    rfl
  refine ⟨L.filter fun v => !(sub v w), fun v hv => hsub v (List.mem_filter.mp hv).1, Nat.le_trans (List.length_filter_le _ _) hlen, ?_⟩
  rw [a_setS, lc]
  rfl
/-- lot = [other for other in worlds if other in lots[place] or below(world, other)] -/
theorem spoil_lot1 {row : List Mb} {ws : List Str} {bits : List Int} {P : List PyData} {n f g v8 v9 v12 : SV} {pl : Nat} {w : List Str} (hw : Nms ws) (hl4 : ws.length ≤ 4) (hpl : pl < ws.length + 1) (hwm : w ∈ worlds ws) :
    ∃ Lot : List (List Str), (∀ v ∈ Lot, v ∈ worlds ws) ∧ Lot.length ≤ 16 ∧ setS [0, 1, 2, 3] 12 (lcM [13] (itemsM (frM (fVar 5))) (uName [0, 1, 2, 3] 13) f__law_spoilt_1 f__law_spoilt_2) [.im (fms row), .mu ((List.range (ws.length + 1)).map fun m => lst (lotB ws bits m)), .im (wd ws), .mu P, n, .mu ((worlds ws).map wd), f, g, v8, v9, .im (wd w), .im (iD pl), v12, .no] = some (.nx, [.im (fms row), .mu ((List.range (ws.length + 1)).map fun m => lst (lotB ws bits m)), .im (wd ws), .mu P, n, .im (lst (worlds ws)), f, g, v8, v9, .im (wd w), .im (iD pl), .mu (Lot.map wd), .no]) := by
  have ix := LT_ix (bits := bits) hpl
  generalize ((List.range (ws.length + 1)).map fun m => lst (lotB ws bits m)) = LT at ix ⊢
  have hsub : ∀ v ∈ lotB ws bits pl, Ws v := fun v hv => (Nms_worlds hw v (List.mem_filter.mp hv).1).ws
  generalize lotB ws bits pl = L at ix hsub
  have hi : itemsM (frM (fVar 5)) [.im (fms row), .mu LT, .im (wd ws), .mu P, n, .mu ((worlds ws).map wd), f, g, v8, v9, .im (wd w), .im (iD pl), v12, .no] = some ((worlds ws).map wd, [.im (fms row), .mu LT, .im (wd ws), .mu P, n, .im (lst (worlds ws)), f, g, v8, v9, .im (wd w), .im (iD pl), v12, .no]) := rfl
  have lc := lcg_map (vs := [13]) (u := uName [0, 1, 2, 3] 13) (test := f__law_spoilt_1) (elt := f__law_spoilt_2) wd (fun v => decide (v ∈ L) || sub w v) wd hi rfl (sz _ (by have := worlds_le hl4; omega)) fun v hv => by
    have hvw := (Nms_worlds hw v hv).ws
    generalize lst (worlds ws) = W
    have c : callM F__law_below [] (consM (fVar 10) (consM (fVar 13) (retM []))) [.im (fms row), .mu LT, .im (wd ws), .mu P, n, .im W, f, g, v8, v9, .im (wd w), .im (iD pl), v12, .im (wd v)] = some (.im (.bool (sub w v)), [.im (fms row), .mu LT, .im (wd ws), .mu P, n, .im W, f, g, v8, v9, .im (wd w), .im (iD pl), v12, .im (wd v)]) := call_im [wd w, wd v] rfl (law_below (Nms_worlds hw w hwm).ws hvw) im_ne
    have hn := oIn_lsv (neg := false) (sv := .im (lst L)) (.inl rfl) hvw (lot := L) hsub
    refine ⟨_, rfl, ?_, fun _ => rfl, rfl⟩
    show f__law_spoilt_1 [.im (fms row), .mu LT, .im (wd ws), .mu P, n, .im W, f, g, v8, v9, .im (wd w), .im (iD pl), v12, .im (wd v)] = _
    generalize iD pl = PL at ix c ⊢
    generalize lst L = LL at ix hn
    by_cases h : v ∈ L
    · simp [f__law_spoilt_1, a_bind, a_ret, a_fVar, a_fC, a_op2, a_opN, a_op1, FN.view, views, frz, a_frM, a_consM, a_tupM, a_lstM, mkT, mkL, a_boolE, evB, a_truE, truM, truSV, a_notM, a_notV, a_andM, a_orM, a_andV, a_orV, a_ifM, a_loM, evI, a_slM, a_setS, store, a_retS, retE, a_setG, a_seqS, a_ifS, retN, a_nxS, a_ite, a_itemsM, itemsOf, SV.dat, SV.asI, SV.asQ, a_enuM, enumM, oAdd, oSub, int1, oLt, oLe, oGt, oGe, List.getElem?_cons_zero, List.getElem?_cons_succ, List.set_cons_zero, List.set_cons_succ, wipeE, ix, hn, h]
    · simp [f__law_spoilt_1, a_bind, a_ret, a_fVar, a_fC, a_op2, a_opN, a_op1, FN.view, views, frz, a_frM, a_consM, a_tupM, a_lstM, mkT, mkL, a_boolE, evB, a_truE, truM, truSV, a_notM, a_notV, a_andM, a_orM, a_andV, a_orV, a_ifM, a_loM, evI, a_slM, a_setS, store, a_retS, retE, a_setG, a_seqS, a_ifS, retN, a_nxS, a_ite, a_itemsM, itemsOf, SV.dat, SV.asI, SV.asQ, a_enuM, enumM, oAdd, oSub, int1, oLt, oLe, oGt, oGe, List.getElem?_cons_zero, List.getElem?_cons_succ, List.set_cons_zero, List.set_cons_succ, wipeE, ix, hn, h, c]
  refine ⟨(worlds ws).filter fun v => decide (v ∈ L) || sub w v, fun v hv => (List.mem_filter.mp hv).1, Nat.le_trans (List.length_filter_le _ _) (worlds_le hl4), ?_⟩
  rw [a_setS, lc]
  rfl
end K89

namespace FN
open PySem FN
open PySem.PyData (strOk)
/-! helpers: one statement -/
theorem appS_at {n : Nat} {f : M PyData} {env env1 : FEnv} {ds es : List PyData} {d : PyData} (h0 : env[n]? = some (.mu ds)) (hf : f env = some (d, env1)) (h1 : env1[n]? = some (.mu es)) (hl : es.length < sizeLine) : appS n f env = some (.nx, env1.set n (.mu (es ++ [d]))) := by
  rw [a_appS, h0]
  dsimp only
  rw [hf]
  dsimp only
  rw [h1]
  dsimp only
  rw [if_pos hl]
theorem frM_im {f : M EV} {env env1 : FEnv} {d : PyData} (h : f env = some (.im d, env1)) : frM f env = some (d, env1) := by rw [a_frM, a_bind, h]; rfl
theorem setS_im {pin : List Nat} {i : Nat} {f : M EV} {env env1 : FEnv} {d : PyData} (hi : i ∉ pin) (h : f env = some (.im d, env1)) : setS pin i f env = some (.nx, env1.set i (.im d)) := by
  rw [a_setS, h]
  dsimp only
  unfold store
  rw [if_neg hi]
  rfl
theorem setS_own {pin : List Nat} {i : Nat} {f : M EV} {env env1 : FEnv} {ds : List PyData} (hi : i ∉ pin) (h : f env = some (.own ds, env1)) : setS pin i f env = some (.nx, env1.set i (.mu ds)) := by
  rw [a_setS, h]
  dsimp only
  unfold store
  rw [if_neg hi]
theorem boolE_im {f : M EV} {env env1 : FEnv} {b : Bool} (h : f env = some (.im (.bool b), env1)) : boolE f env = some (b, env1) := by rw [a_boolE, a_bind, h]; rfl
theorem truE_im {f : M EV} {env env1 : FEnv} {b : Bool} (h : f env = some (.im (.bool b), env1)) : truE f env = some (b, env1) := by rw [a_truE, a_bind, h]; rfl
theorem notM_eq {f : M Bool} {env env1 : FEnv} {b : Bool} (h : f env = some (b, env1)) : notM f env = some (!b, env1) := by rw [a_notM, a_bind, h]; rfl
theorem orM_f {f g : M Bool} {env env1 : FEnv} (h : f env = some (false, env1)) : orM f g env = g env1 := by rw [a_orM, a_bind, h]; rfl
theorem orM_t {f g : M Bool} {env env1 : FEnv} (h : f env = some (true, env1)) : orM f g env = some (true, env1) := by rw [a_orM, a_bind, h]; rfl
theorem op2_im {f g : M EV} {o : SV → SV → Option EV} {env env1 env2 : FEnv} {p q : PyData} {r : EV} (h1 : f env = some (.im p, env1)) (h2 : g env1 = some (.im q, env2)) (h3 : o (.im p) (.im q) = some r) : op2 f g o env = some (r, env2) := by
  rw [a_op2, a_bind, h1]
  dsimp only
  rw [a_bind, h2]
  simp only [FN.view, h3]
theorem ifS_nx {t : M Bool} {f : SS} {env env1 : FEnv} (h : t env = some (false, env1)) : ifS t f nxS env = some (.nx, env1) := by rw [ifS_f h]; rfl
theorem consM2 {f g : M EV} {env env1 env2 : FEnv} {x y : EV} (h1 : f env = some (x, env1)) (h2 : g env1 = some (y, env2)) : consM f (consM g (retM [])) env = some ([x, y], env2) := by
  rw [a_consM, a_bind, h1]
  dsimp only
  rw [a_bind, a_consM, a_bind, h2]
  rfl
theorem consM1 {f : M EV} {env env1 : FEnv} {x : EV} (h1 : f env = some (x, env1)) : consM f (retM []) env = some ([x], env1) := by
  rw [a_consM, a_bind, h1]
  rfl
theorem fV {env : FEnv} {i : Nat} {d : PyData} (h : env[i]? = some (.im d)) : fVar i env = some (.im d, env) := by rw [a_fVar, h]
theorem fMu {env : FEnv} {i : Nat} {d : List PyData} (h : env[i]? = some (.mu d)) : fVar i env = some (.slot i, env) := by rw [a_fVar, h]
end FN

namespace K89
open PySem FN
open PySem.PyData (strOk)
theorem wd_len {w : List Str} : oLen [.im (wd w)] = some (.im (iD w.length)) := by
  show some (EV.im (.int ((wds w).length : Nat))) = _
  rw [List.length_map]
/-- place = int(picks[4]) % len(world); if ..: place = len(world) - 1 -/
theorem spoil_place {row : List Mb} {ws w : List Str} {LT P : List PyData} {n W f g v8 v9 v11 v12 : SV} {q4 q5 : Nat} (hw : 0 < w.length) (h4 : oIx (.mu P) (.im (iD 4)) = some (.im (iD q4))) (h5 : oIx (.mu P) (.im (iD 5)) = some (.im (iD q5))) :
    ∃ pl, pl < w.length ∧ ∀ k : SS, seqS (setS [0, 1, 2, 3] 11 (op2 (opN (consM (op2 (fVar 3) (fC (.int 4)) oIx) (retM [])) oInt) (opN (consM (fVar 10) (retM [])) oLen) oMod)) (seqS (ifS (boolE (op2 (op2 (opN (consM (op2 (fVar 3) (fC (.int 5)) oIx) (retM [])) oInt) (fC (.int 3)) oMod) (fC (.int 0)) oGt)) (setS [0, 1, 2, 3] 11 (op2 (opN (consM (fVar 10) (retM [])) oLen) (fC (.int 1)) oSub)) nxS) k) [.im (fms row), .mu LT, .im (wd ws), .mu P, n, W, f, g, v8, v9, .im (wd w), v11, v12, .no] = k [.im (fms row), .mu LT, .im (wd ws), .mu P, n, W, f, g, v8, v9, .im (wd w), .im (iD pl), v12, .no] := by
  have md := modE (i := 4) (b := w.length) (g := opN (consM (fVar 10) (retM [])) oLen) (env := [.im (fms row), .mu LT, .im (wd ws), .mu P, n, W, f, g, v8, v9, .im (wd w), v11, v12, .no]) rfl h4 (by
    have ol := wd_len (w := w)
    generalize iD w.length = N at ol ⊢
    generalize wd w = WW at ol ⊢
    simp [a_bind, a_ret, a_fVar, a_fC, a_op2, a_opN, a_op1, FN.view, views, frz, a_frM, a_consM, a_tupM, a_lstM, mkT, mkL, a_boolE, evB, a_truE, truM, truSV, a_notM, a_notV, a_andM, a_orM, a_andV, a_orV, a_ifM, a_loM, evI, a_slM, a_setS, store, a_retS, retE, a_setG, a_seqS, a_ifS, retN, a_nxS, a_ite, a_itemsM, itemsOf, SV.dat, SV.asI, SV.asQ, a_enuM, enumM, oAdd, oSub, int1, oLt, oLe, oGt, oGe, List.getElem?_cons_zero, List.getElem?_cons_succ, List.set_cons_zero, List.set_cons_succ, ol]) hw
  have md : op2 (opN (consM (op2 (fVar 3) (fC (.int 4)) oIx) (retM [])) oInt) (opN (consM (fVar 10) (retM [])) oLen) oMod [.im (fms row), .mu LT, .im (wd ws), .mu P, n, W, f, g, v8, v9, .im (wd w), v11, v12, .no] = _ := md
  have s1 : setS [0, 1, 2, 3] 11 (op2 (opN (consM (op2 (fVar 3) (fC (.int 4)) oIx) (retM [])) oInt) (opN (consM (fVar 10) (retM [])) oLen) oMod) [.im (fms row), .mu LT, .im (wd ws), .mu P, n, W, f, g, v8, v9, .im (wd w), v11, v12, .no] = some (.nx, [.im (fms row), .mu LT, .im (wd ws), .mu P, n, W, f, g, v8, v9, .im (wd w), .im (iD (q4 % w.length)), v12, .no]) := by
    rw [a_setS, md]
    rfl
  have hlt : q4 % w.length < w.length := Nat.mod_lt _ hw
  generalize q4 % w.length = p0 at s1 hlt
  have md5 := modE (i := 5) (b := 3) (g := fC (.int 3)) (env := [.im (fms row), .mu LT, .im (wd ws), .mu P, n, W, f, g, v8, v9, .im (wd w), .im (iD p0), v12, .no]) rfl h5 rfl (by omega)
  have md5 : op2 (opN (consM (op2 (fVar 3) (fC (.int 5)) oIx) (retM [])) oInt) (fC (.int 3)) oMod [.im (fms row), .mu LT, .im (wd ws), .mu P, n, W, f, g, v8, v9, .im (wd w), .im (iD p0), v12, .no] = _ := md5
  have tt : boolE (op2 (op2 (opN (consM (op2 (fVar 3) (fC (.int 5)) oIx) (retM [])) oInt) (fC (.int 3)) oMod) (fC (.int 0)) oGt) [.im (fms row), .mu LT, .im (wd ws), .mu P, n, W, f, g, v8, v9, .im (wd w), .im (iD p0), v12, .no] = some (decide (0 < q5 % 3), [.im (fms row), .mu LT, .im (wd ws), .mu P, n, W, f, g, v8, v9, .im (wd w), .im (iD p0), v12, .no]) := by
    have z : oGt (.im (iD (q5 % 3))) (.im (.int 0)) = some (.im (.bool (decide (0 < q5 % 3)))) := by
      simp only [oGt, int1, SV.asI, iD]
      congr 3
      exact decide_eq_decide.mpr (by omega)
    exact boolE_im (op2_im md5 rfl z)
  by_cases h : 0 < q5 % 3
  · refine ⟨w.length - 1, by omega, fun k => ?_⟩
    rw [decide_eq_true h] at tt
    have s2 : setS [0, 1, 2, 3] 11 (op2 (opN (consM (fVar 10) (retM [])) oLen) (fC (.int 1)) oSub) [.im (fms row), .mu LT, .im (wd ws), .mu P, n, W, f, g, v8, v9, .im (wd w), .im (iD p0), v12, .no] = some (.nx, [.im (fms row), .mu LT, .im (wd ws), .mu P, n, W, f, g, v8, v9, .im (wd w), .im (iD (w.length - 1)), v12, .no]) := by
      have ol := wd_len (w := w)
      have e : ((w.length - 1 : Nat) : Int) = (w.length : Int) - 1 := by omega
      simp only [iD] at ol ⊢
      rw [e]
      generalize wd w = WW at ol ⊢
      simp [a_bind, a_ret, a_fVar, a_fC, a_op2, a_opN, a_op1, FN.view, views, frz, a_frM, a_consM, a_tupM, a_lstM, mkT, mkL, a_boolE, evB, a_truE, truM, truSV, a_notM, a_notV, a_andM, a_orM, a_andV, a_orV, a_ifM, a_loM, evI, a_slM, a_setS, store, a_retS, retE, a_setG, a_seqS, a_ifS, retN, a_nxS, a_ite, a_itemsM, itemsOf, SV.dat, SV.asI, SV.asQ, a_enuM, enumM, oAdd, oSub, int1, oLt, oLe, oGt, oGe, List.getElem?_cons_zero, List.getElem?_cons_succ, List.set_cons_zero, List.set_cons_succ, ol]
    rw [seqS_nx s1, seqS_nx (by rw [ifS_t tt]; exact s2)]
  · refine ⟨p0, hlt, fun k => ?_⟩
    rw [decide_eq_false h] at tt
    rw [seqS_nx s1, seqS_nx (by rw [ifS_f tt]; rfl)]
end K89

namespace K89
open PySem FN
open PySem.PyData (strOk)
/-! ### subsets -/
theorem sub_iff {a b : List Str} : sub a b = true ↔ ∀ x ∈ a, x ∈ b := by
  unfold sub
  rw [List.all_eq_true]
  constructor
  · intro h x hx; exact of_decide_eq_true (h x hx)
  · intro h x hx; exact decide_eq_true (h x hx)
theorem sub_refl (a : List Str) : sub a a = true := sub_iff.mpr fun _ h => h
theorem sub_trans {a b c : List Str} (h : sub a b = true) (h2 : sub b c = true) : sub a c = true := sub_iff.mpr fun x hx => sub_iff.mp h2 x (sub_iff.mp h x hx)
theorem sub_false {a b : List Str} (h : sub a b = false) : ∃ x ∈ a, x ∉ b := by
  by_cases q : ∃ x ∈ a, x ∉ b
  · exact q
  · exfalso
    have : sub a b = true := sub_iff.mpr fun x hx => by
      by_cases z : x ∈ b
      · exact z
      · exact absurd ⟨x, hx, z⟩ q
    rw [h] at this; cases this
theorem false_sub {a b : List Str} {x : Str} (h : x ∈ a) (h2 : x ∉ b) : sub a b = false := by
  cases q : sub a b with
  | false => rfl
  | true => exact absurd (sub_iff.mp q x h) h2
theorem len_sub : ∀ {a b : List Str}, a.Nodup → (∀ x ∈ a, x ∈ b) → a.length ≤ b.length
  | [], b, _, _ => Nat.zero_le _
  | x :: a, b, hn, h => by
    have hn := List.nodup_cons.mp hn
    have hx := h x List.mem_cons_self
    have ih := len_sub (a := a) (b := b.erase x) hn.2 fun y hy => by
      refine (List.mem_erase_of_ne fun z => ?_).mpr (h y (List.mem_cons_of_mem _ hy))
      subst z
      exact hn.1 hy
    rw [List.length_erase_of_mem hx] at ih
    have : 0 < b.length := List.length_pos_of_mem hx
    rw [List.length_cons]
    omega
theorem len_strict {a b : List Str} (hn : a.Nodup) (h : sub a b = true) {y : Str} (hy : y ∈ b) (hy2 : y ∉ a) : a.length < b.length := by
  have := len_sub (a := y :: a) (b := b) (List.nodup_cons.mpr ⟨hy2, hn⟩) fun x hx => by
    rcases List.mem_cons.mp hx with rfl | hx
    · exact hy
    · exact sub_iff.mp h x hx
  rw [List.length_cons] at this
  omega
/-! ### the worlds' order -/
theorem worlds_pair {ws : List Str} (h : ws.Nodup) : (worlds ws).Pairwise fun a b => sub b a = false := by
  have go : ∀ (l : List Str) (f : List (List Str)), (f.Pairwise fun a b => sub b a = false) → l.Nodup → (∀ w ∈ f, ∀ x ∈ l, x ∉ w) → ((l.foldl grow f).Pairwise fun a b => sub b a = false) := fun l => by
    induction l with
    | nil => intro f hf _ _; exact hf
    | cons x l ih =>
      intro f hf hl hx
      have hl' := List.nodup_cons.mp hl
      refine ih _ ?_ hl'.2 fun w hw y hy => ?_
      · unfold grow
        rw [List.pairwise_append]
        refine ⟨hf, ?_, fun a ha b hb => ?_⟩
        · rw [List.pairwise_map]
          refine List.Pairwise.imp_of_mem (fun {a b} ha hb hab => ?_) hf
          obtain ⟨y, hy1, hy2⟩ := sub_false hab
          refine false_sub (x := y) (List.mem_append_left _ hy1) fun hm => ?_
          rcases List.mem_append.mp hm with hm | hm
          · exact hy2 hm
          · rw [List.mem_singleton.mp hm] at hy1
            exact hx b hb x List.mem_cons_self hy1
        · obtain ⟨c, hc, rfl⟩ := List.mem_map.mp hb
          exact false_sub (x := x) (by simp) (hx a ha x List.mem_cons_self)
      · unfold grow at hw
        rcases List.mem_append.mp hw with hw | hw
        · exact hx w hw y (List.mem_cons_of_mem _ hy)
        · obtain ⟨c, hc, rfl⟩ := List.mem_map.mp hw
          intro hm
          rcases List.mem_append.mp hm with hm | hm
          · exact hx c hc y (List.mem_cons_of_mem _ hy) hm
          · exact hl'.1 (by rw [← List.mem_singleton.mp hm]; exact hy)
  exact go ws [[]] (List.pairwise_singleton _ _) h fun w hw x _ => by rw [List.mem_singleton.mp hw]; intro z; cases z
theorem worlds_sublist {ws : List Str} : ∀ w ∈ worlds ws, w.Sublist ws := by
  have go : ∀ (l : List Str) (f : List (List Str)) (p : List Str), (∀ w ∈ f, w.Sublist p) → ∀ w ∈ l.foldl grow f, w.Sublist (p ++ l) := fun l => by
    induction l with
    | nil => intro f p h w hw; rw [List.append_nil]; exact h w hw
    | cons x l ih =>
      intro f p hf w hw
      have := ih (grow f x) (p ++ [x]) (fun v hv => by
        unfold grow at hv
        rcases List.mem_append.mp hv with hv | hv
        · exact (hf v hv).trans (List.sublist_append_left _ _)
        · obtain ⟨u, hu, rfl⟩ := List.mem_map.mp hv
          exact (hf u hu).append (List.Sublist.refl _)) w hw
      rw [List.append_assoc] at this
      exact this
  intro w hw
  exact go ws [[]] [] (fun w hw => by rw [List.mem_singleton.mp hw]; exact List.Sublist.refl _) w hw
theorem worlds_nd {ws w : List Str} (h : ws.Nodup) (hw : w ∈ worlds ws) : w.Nodup := (worlds_sublist w hw).nodup h
theorem anti {l : List (List Str)} (hp : l.Pairwise fun a b => sub b a = false) {a b : List Str} (ha : a ∈ l) (hb : b ∈ l) (h1 : sub a b = true) (h2 : sub b a = true) : a = b := by
  obtain ⟨i, hi, rfl⟩ := List.mem_iff_getElem.mp ha
  obtain ⟨j, hj, rfl⟩ := List.mem_iff_getElem.mp hb
  rcases Nat.lt_trichotomy i j with h | h | h
  · have := List.pairwise_iff_getElem.mp hp i j hi hj h
    rw [h2] at this; cases this
  · subst h; rfl
  · have := List.pairwise_iff_getElem.mp hp j i hj hi h
    rw [h1] at this; cases this
theorem sub_len {ws : List Str} (h : ws.Nodup) {a b : List Str} (ha : a ∈ worlds ws) (hb : b ∈ worlds ws) (hs : sub a b = true) : a = b ∨ a.length < b.length := by
  by_cases q : sub b a = true
  · exact .inl (anti (worlds_pair h) ha hb hs q)
  · obtain ⟨y, h1, h2⟩ := sub_false (by simpa using q)
    exact .inr (len_strict (worlds_nd h ha) hs h1 h2)
/-! ### forms -/
theorem on_aterm (v w : List Str) : on (aterm v) w = sub v w := by
  rw [aterm, on, onAll_all, List.all_map]
  rfl
theorem least_below : ∀ (l s : List (List Str)) (v : List Str), v ∈ l → (∃ u ∈ s, sub u v = true) ∨ ∃ u ∈ leastGo s l, sub u v = true
  | x :: l, s, v, h => by
    rw [leastGo]
    by_cases q : (s.any fun v => sub v x) = true
    · rw [if_pos q]
      obtain ⟨u, hu, hs⟩ := List.any_eq_true.mp q
      rcases List.mem_cons.mp h with rfl | h
      · exact .inl ⟨u, hu, hs⟩
      · rcases least_below l (s ++ [x]) v h with ⟨z, hz, h2⟩ | r
        · rcases List.mem_append.mp hz with hz | hz
          · exact .inl ⟨z, hz, h2⟩
          · rw [List.mem_singleton.mp hz] at h2
            exact .inl ⟨u, hu, sub_trans hs h2⟩
        · exact .inr r
    · rw [if_neg q]
      rcases List.mem_cons.mp h with rfl | h
      · exact .inr ⟨v, List.mem_cons_self, sub_refl v⟩
      · rcases least_below l (s ++ [x]) v h with ⟨z, hz, h2⟩ | ⟨u, hu, h2⟩
        · rcases List.mem_append.mp hz with hz | hz
          · exact .inl ⟨z, hz, h2⟩
          · rw [List.mem_singleton.mp hz] at h2
            exact .inr ⟨x, List.mem_cons_self, h2⟩
        · exact .inr ⟨u, List.mem_cons_of_mem _ hu, h2⟩
theorem form_eq (l : List (List Str)) : form l = .grp false ((least l).map aterm) := rfl
theorem on_form (l : List (List Str)) (w : List Str) : on (form l) w = l.any fun v => sub v w := by
  rw [form_eq, on, onAny_any, List.any_map]
  apply Bool.eq_iff_iff.mpr
  rw [List.any_eq_true, List.any_eq_true]
  constructor
  · rintro ⟨v, hv, h⟩
    exact ⟨v, least_sub hv, by rw [← on_aterm]; exact h⟩
  · rintro ⟨v, hv, h⟩
    rcases least_below l [] v hv with ⟨u, hu, _⟩ | ⟨u, hu, hs⟩
    · cases hu
    · exact ⟨u, hu, by show on (aterm u) w = true; rw [on_aterm]; exact sub_trans hs h⟩
theorem minl_go : ∀ (l s : List (List Str)), ((s ++ l).Pairwise fun a b => sub b a = false) → leastGo s l = l.filter fun x => (below (s ++ l) x).isEmpty
  | [], s, _ => rfl
  | x :: l, s, hp => by
    have hp2 : ((s ++ [x]) ++ l).Pairwise fun a b => sub b a = false := by rw [List.append_assoc]; exact hp
    have ih := minl_go l (s ++ [x]) hp2
    have e : s ++ [x] ++ l = s ++ x :: l := by rw [List.append_assoc]; rfl
    rw [e] at ih
    rw [leastGo, ih]
    have hpx := List.pairwise_append.mp hp
    have hxl := List.pairwise_cons.mp hpx.2.1
    have key : (below (s ++ x :: l) x).isEmpty = !(s.any fun v => sub v x) := by
      unfold below
      rw [List.filter_append, List.filter_cons]
      have e1 : (l.filter fun v => !decide (v = x) && sub v x) = [] := List.filter_eq_nil_iff.mpr fun v hv => by
        have := hxl.1 v hv
        rw [this]; simp
      have e2 : (s.filter fun v => !decide (v = x) && sub v x) = s.filter fun v => sub v x := List.filter_congr fun v hv => by
        have := hpx.2.2 v hv x List.mem_cons_self
        have hne : ¬ v = x := fun z => by
          rw [z, sub_refl] at this; cases this
        simp [hne]
      rw [e1, e2]
      simp only [decide_true, Bool.not_true, Bool.false_and, Bool.false_eq_true, if_false, List.append_nil]
      cases q : s.filter fun v => sub v x with
      | nil =>
        have : (s.any fun v => sub v x) = false := List.any_eq_false.mpr fun v hv => List.filter_eq_nil_iff.mp q v hv
        rw [this]; rfl
      | cons a t =>
        have : (s.any fun v => sub v x) = true := List.any_eq_true.mpr (by
          have hm : a ∈ s.filter fun v => sub v x := by rw [q]; exact List.mem_cons_self
          obtain ⟨h1, h2⟩ := List.mem_filter.mp hm
          exact ⟨a, h1, h2⟩)
        rw [this]; rfl
    rw [List.filter_cons, key]
    cases q : s.any fun v => sub v x <;> simp
theorem lform_eq {l : List (List Str)} (hp : l.Pairwise fun a b => sub b a = false) : lform l = form l := by
  rw [form_eq, lform]
  have := minl_go l [] (by simpa using hp)
  rw [List.nil_append] at this
  rw [least, this]
  rfl
end K89

namespace K89
open PySem FN
open PySem.PyData (strOk)
/-! ### level lots -/
structure Lvl (ws : List Str) (k : Nat) (L : List (List Str)) : Prop where
  nd : ws.Nodup
  sub : ∀ v ∈ L, v ∈ worlds ws
  pair : L.Pairwise fun a b => K89.sub b a = false
  hi : ∀ w ∈ worlds ws, k < w.length → w ∈ L
  lo : ∀ w ∈ L, k ≤ w.length
theorem Lvl.any {ws : List Str} {k : Nat} {L : List (List Str)} (h : Lvl ws k L) {w : List Str} (hw : w ∈ worlds ws) : (L.any fun v => K89.sub v w) = decide (w ∈ L) := by
  by_cases q : w ∈ L
  · rw [decide_eq_true q]
    exact List.any_eq_true.mpr ⟨w, q, sub_refl w⟩
  · rw [decide_eq_false q]
    refine List.any_eq_false.mpr fun v hv hs => q ?_
    rcases sub_len h.nd (h.sub v hv) hw hs with rfl | hl
    · exact hv
    · exact h.hi w hw (Nat.lt_of_le_of_lt (h.lo v hv) hl)
theorem Lvl.form {ws : List Str} {k : Nat} {L : List (List Str)} (h : Lvl ws k L) {w : List Str} (hw : w ∈ worlds ws) : on (K89.form L) w = decide (w ∈ L) := by rw [on_form, h.any hw]
theorem filter_pair {ws : List Str} (h : ws.Nodup) (p : List Str → Bool) : ((worlds ws).filter p).Pairwise fun a b => sub b a = false := (worlds_pair h).sublist List.filter_sublist
theorem lvl_lotOf {ws : List Str} (h : ws.Nodup) (m : Mb) (k : Nat) : Lvl ws k (lotOf m ws k) where
  nd := h
  sub := fun v hv => (List.mem_filter.mp hv).1
  pair := filter_pair h _
  hi := fun w hw hk => List.mem_filter.mpr ⟨hw, by
    have : ¬ w.length = k := by omega
    simp [this, hk]⟩
  lo := fun w hw => by
    have := (List.mem_filter.mp hw).2
    by_cases q : w.length = k
    · omega
    · simp only [q, if_false, decide_eq_true_eq] at this
      omega
theorem lvl_lotB {ws : List Str} (h : ws.Nodup) (bits : List Int) (k : Nat) : Lvl ws k (lotB ws bits k) where
  nd := h
  sub := fun v hv => (List.mem_filter.mp hv).1
  pair := filter_pair h _
  hi := fun w hw hk => List.mem_filter.mpr ⟨hw, by simp [inLot, hk]⟩
  lo := fun w hw => by
    have := (List.mem_filter.mp hw).2
    unfold inLot at this
    rw [Bool.or_eq_true, Bool.and_eq_true] at this
    rcases this with h | ⟨h, _⟩
    · have := of_decide_eq_true h; omega
    · have := of_decide_eq_true h; omega
/-- (a) -/
theorem on_slice {ws : List Str} (h : ws.Nodup) (m : Mb) {w : List Str} (hw : w ∈ worlds ws) : on (form (lotOf m ws w.length)) w = on m w := by
  rw [(lvl_lotOf h m w.length).form hw]
  have e : w ∈ lotOf m ws w.length ↔ on m w = true := by
    unfold lotOf
    rw [List.mem_filter]
    simp [hw]
  cases q : on m w with
  | true => exact decide_eq_true (e.mpr q)
  | false => exact decide_eq_false fun z => by rw [e.mp z] at q; cases q
/-- what fits -/
theorem fit_of {ws : List Str} {k : Nat} {L : List (List Str)} {m : Mb} (h : Lvl ws k L) (hm : ∀ w ∈ worlds ws, on m w = decide (w ∈ L)) : fit m ws k = true := by
  unfold fit
  refine List.all_eq_true.mpr fun w hw => ?_
  by_cases q : w.length = k
  · simp [q]
  · rw [hm w hw]
    by_cases q2 : k < w.length
    · simp [q2, h.hi w hw q2]
    · have : w ∉ L := fun z => by have := h.lo w z; omega
      simp [q2, this]
theorem fits_of {ws : List Str} {l : List Mb} (hl : l.length = ws.length + 1) (h : ∀ (k : Nat) (m : Mb), l[k]? = some m → fit m ws k = true) : fits l ws = true := by
  unfold fits
  rw [decide_eq_true hl, Bool.true_and]
  have ea := enumF_all 0 l fun i m => fit m ws i
  simp only [Nat.zero_add] at ea
  rw [ea]
  refine List.all_eq_true.mpr fun i hi => ?_
  cases q : l[i]? with
  | none => rfl
  | some m => exact h i m q
/-! ### grown -/
theorem above_max {ws : List Str} (hn : ws.Nodup) {rest : List (List Str)} (hr : ∀ v ∈ rest, v ∈ worlds ws) : ∀ (n : Nat) (u : List Str), u ∈ rest → ws.length - u.length ≤ n → ∃ v ∈ maxl rest, sub u v = true := fun n => by
  induction n with
  | zero =>
    intro u hu hl
    refine ⟨u, List.mem_filter.mpr ⟨hu, ?_⟩, sub_refl u⟩
    cases q : above rest u with
    | nil => rfl
    | cons a t =>
      have hm : a ∈ above rest u := by rw [q]; exact List.mem_cons_self
      obtain ⟨h1, h2⟩ := List.mem_filter.mp hm
      rw [Bool.and_eq_true] at h2
      rcases sub_len hn (hr u hu) (hr a h1) h2.2 with rfl | h3
      · simp at h2
      · have := worlds_short a (hr a h1)
        omega
  | succ n ih =>
    intro u hu hl
    cases q : above rest u with
    | nil => exact ⟨u, List.mem_filter.mpr ⟨hu, by rw [q]; rfl⟩, sub_refl u⟩
    | cons a t =>
      have hm : a ∈ above rest u := by rw [q]; exact List.mem_cons_self
      obtain ⟨h1, h2⟩ := List.mem_filter.mp hm
      rw [Bool.and_eq_true] at h2
      rcases sub_len hn (hr u hu) (hr a h1) h2.2 with rfl | h3
      · simp at h2
      · obtain ⟨v, hv, hs⟩ := ih a h1 (by omega)
        exact ⟨v, hv, sub_trans h2.2 hs⟩
theorem on_oterm {ws w u : List Str} (hw : ∀ x ∈ w, x ∈ ws) : on (oterm ws u) w = !(sub w u) := by
  rw [oterm, on, onAny_any, List.any_map]
  cases q : sub w u with
  | true =>
    refine List.any_eq_false.mpr fun x hx hon => ?_
    obtain ⟨h1, h2⟩ := List.mem_filter.mp hx
    have hxw : x ∈ w := of_decide_eq_true hon
    have := sub_iff.mp q x hxw
    simp [this] at h2
  | false =>
    obtain ⟨x, h1, h2⟩ := sub_false q
    refine List.any_eq_true.mpr ⟨x, List.mem_filter.mpr ⟨hw x h1, by simp [h2]⟩, ?_⟩
    show decide (x ∈ w) = true
    exact decide_eq_true h1
theorem on_g2 {ws : List Str} {k : Nat} {L : List (List Str)} (h : Lvl ws k L) {w : List Str} (hw : w ∈ worlds ws) : on (g2 L ws) w = decide (w ∈ L) := by
  have hr : ∀ v ∈ restOf ws L, v ∈ worlds ws := fun v hv => (List.mem_filter.mp hv).1
  have hrL : ∀ v ∈ restOf ws L, v ∉ L := fun v hv => by
    have := (List.mem_filter.mp hv).2
    simpa using this
  have hws : ∀ x ∈ w, x ∈ ws := fun x hx => (worlds_sublist w hw).subset hx
  rw [g2, on, onAll_all, List.all_map]
  by_cases q : w ∈ L
  · rw [decide_eq_true q]
    refine List.all_eq_true.mpr fun u hu => ?_
    have hu' := (List.mem_filter.mp hu).1
    show on (oterm ws u) w = true
    rw [on_oterm hws]
    cases z : sub w u with
    | false => rfl
    | true =>
      exfalso
      rcases sub_len h.nd hw (hr u hu') z with rfl | h3
      · exact hrL _ hu' q
      · exact hrL u hu' (h.hi u (hr u hu') (Nat.lt_of_le_of_lt (h.lo w q) h3))
  · rw [decide_eq_false q]
    have hwr : w ∈ restOf ws L := List.mem_filter.mpr ⟨hw, by simp [q]⟩
    obtain ⟨v, hv, hs⟩ := above_max h.nd hr _ w hwr (Nat.le_refl _)
    refine List.all_eq_false.mpr ⟨v, hv, ?_⟩
    show ¬ on (oterm ws v) w = true
    rw [on_oterm hws, hs]
    simp
theorem on_grown {ws : List Str} {k : Nat} {L : List (List Str)} (h : Lvl ws k L) (way : Nat) {w : List Str} (hw : w ∈ worlds ws) : on (grown L ws way) w = decide (w ∈ L) := by
  have e0 : on (lform L) w = decide (w ∈ L) := by rw [lform_eq h.pair]; exact h.form hw
  unfold grown
  split
  · exact e0
  · split
    · rw [g1, on, onAny_any, List.any_map, ← h.any hw, List.any_reverse]
      refine List.any_congr rfl fun v => on_aterm v w
    · split
      · exact on_g2 h hw
      · simp only [g3, on, onAll, onAny, e0]
        simp
/-! ### whole -/
def cnt (w : List Str) (ns : List Str) (j : Nat) : Nat := ((ns.take j).filter fun x => decide (x ∈ w)).length
theorem cnt_succ {w ns : List Str} {j : Nat} (h : j < ns.length) : cnt w ns (j + 1) = cnt w ns j + if ns.getD j "" ∈ w then 1 else 0 := by
  unfold cnt
  rw [take_filter h, List.length_append, List.getD_eq_getElem?_getD, List.getElem?_eq_getElem h]
  show _ = _ + if ns[j] ∈ w then 1 else 0
  by_cases q : ns[j] ∈ w <;> simp [q]
theorem on_atL (w ns : List Str) : ∀ j k : Nat, j ≤ ns.length → on (atL ns j k) w = decide (k ≤ cnt w ns j)
  | j, 0, h => by
    have e : atL ns j 0 = .grp true [] := by cases j <;> rfl
    rw [e, on, onAll]; simp
  | 0, k + 1, h => by
    have e : atL ns 0 (k + 1) = .grp false [] := rfl
    rw [e, on, onAny]
    have : cnt w ns 0 = 0 := by simp [cnt]
    rw [this]; simp
  | j + 1, k + 1, h => by
    have cs := cnt_succ (w := w) (show j < ns.length by omega)
    have i1 := on_atL w ns j (k + 1) (by omega)
    have i2 := on_atL w ns j k (by omega)
    have hc : cnt w ns j ≤ j := by
      unfold cnt
      have := List.length_filter_le (fun x => decide (x ∈ w)) (ns.take j)
      rw [List.length_take] at this
      omega
    by_cases q : k + 1 > j + 1
    · have e : atL ns (j + 1) (k + 1) = .grp false [] := by rw [atL, if_pos q]
      rw [e, on, onAny]
      have : ¬ (k + 1 ≤ cnt w ns (j + 1)) := by rw [cs]; split <;> omega
      simp [this]
    · have e : atL ns (j + 1) (k + 1) = .grp false [atL ns j (k + 1), .grp true [.atom (ns.getD j ""), atL ns j k]] := by rw [atL, if_neg q]
      rw [e, on, onAny, onAny, onAny, on, onAll, onAll, onAll, on, i1, i2, cs]
      by_cases z : ns.getD j "" ∈ w
      · rw [if_pos z, decide_eq_true z]
        simp only [Bool.true_and, Bool.and_true, Bool.or_false]
        by_cases a : k + 1 ≤ cnt w ns j
        · have b : k ≤ cnt w ns j := by omega
          have c : k + 1 ≤ cnt w ns j + 1 := by omega
          simp [a, b, c]
        · by_cases b : k ≤ cnt w ns j
          · have c : k + 1 ≤ cnt w ns j + 1 := by omega
            simp [a, b, c]
          · have c : ¬ k + 1 ≤ cnt w ns j + 1 := by omega
            simp [a, b, c]
      · rw [if_neg z, decide_eq_false z]
        simp
theorem cnt_world {ws w : List Str} (hn : ws.Nodup) (hw : w ∈ worlds ws) : cnt w ws ws.length = w.length := by
  unfold cnt
  rw [List.take_length]
  have hwn := worlds_nd hn hw
  have h1 : (ws.filter fun x => decide (x ∈ w)).length ≤ w.length := len_sub (hn.sublist List.filter_sublist) fun x hx => by simpa using (List.mem_filter.mp hx).2
  have h2 : w.length ≤ (ws.filter fun x => decide (x ∈ w)).length := len_sub hwn fun x hx => List.mem_filter.mpr ⟨(worlds_sublist w hw).subset hx, by simp [hx]⟩
  omega
theorem enumF_any : ∀ (n : Nat) (l : List Mb) (f : Nat → Mb → Bool), ((enumF n l).any fun p => f p.1 p.2) = (List.range l.length).any fun i => match l[i]? with | some m => f (n + i) m | none => false
  | n, [], f => rfl
  | n, m :: l, f => by
    rw [enumF, List.any_cons, enumF_any (n + 1) l f, List.length_cons, List.range_succ_eq_map, List.any_cons, List.any_map]
    congr 1
    refine List.any_congr rfl fun i => ?_
    show _ = match (m :: l)[i + 1]? with | some m => f (n + (i + 1)) m | none => false
    rw [List.getElem?_cons_succ, show n + (i + 1) = n + 1 + i by omega]
theorem on_whole {ws : List Str} (hn : ws.Nodup) {l : List Mb} {Ls : Nat → List (List Str)} (hl : l.length = ws.length + 1) (hL : ∀ k, k ≤ ws.length → Lvl ws k (Ls k)) (hm : ∀ (k : Nat) (m : Mb), l[k]? = some m → ∀ w ∈ worlds ws, on m w = decide (w ∈ Ls k)) {w : List Str} (hw : w ∈ worlds ws) : on (whole l ws) w = decide (w ∈ Ls w.length) := by
  have hwl : w.length ≤ ws.length := worlds_short w hw
  rw [whole, on, onAny_any, List.any_map]
  have e1 : ((enumF 0 l).any fun p => on (uterm ws p) w) = (enumF 0 l).any fun p => (fun k m => on m w && decide (w.length ≤ k)) p.1 p.2 := List.any_congr rfl fun p => by
    rw [uterm, on, onAll, onAll, onAll, on, on_atL w ws ws.length (p.1 + 1) (Nat.le_refl _), cnt_world hn hw]
    by_cases q : w.length ≤ p.1
    · have : ¬ p.1 + 1 ≤ w.length := by omega
      simp [q, this]
    · have : p.1 + 1 ≤ w.length := by omega
      simp [q, this]
  show ((enumF 0 l).any fun p => on (uterm ws p) w) = _
  rw [e1, enumF_any 0 l fun k m => on m w && decide (w.length ≤ k)]
  simp only [Nat.zero_add]
  by_cases q : w ∈ Ls w.length
  · rw [decide_eq_true q]
    have hlt : w.length < l.length := by omega
    refine List.any_eq_true.mpr ⟨w.length, List.mem_range.mpr hlt, ?_⟩
    have := hm w.length l[w.length] (List.getElem?_eq_getElem hlt) w hw
    rw [List.getElem?_eq_getElem hlt]
    simp [this, q]
  · rw [decide_eq_false q]
    refine List.any_eq_false.mpr fun i hi => ?_
    have hi := List.mem_range.mp hi
    rw [List.getElem?_eq_getElem hi]
    have := hm i l[i] (List.getElem?_eq_getElem hi) w hw
    show ¬ (on l[i] w && decide (w.length ≤ i)) = true
    rw [this]
    by_cases z : w.length ≤ i
    · have hwi : w ∉ Ls i := fun y => by
        have := (hL i (by omega)).lo w y
        have e : w.length = i := by omega
        rw [← e] at y
        exact q y
      simp [hwi]
    · simp [z]
theorem lotOf_whole {ws : List Str} {bits : List Int} {m : Mb} {k : Nat} (h : ∀ w ∈ worlds ws, on m w = decide (w ∈ lotB ws bits w.length)) : lotOf m ws k = lotB ws bits k := by
  unfold lotOf lotB
  refine List.filter_congr fun w hw => ?_
  by_cases q : w.length = k
  · rw [if_pos q, h w hw, q]
    unfold inLot lotB
    by_cases z : w ∈ (worlds ws).filter (inLot ws bits k)
    · rw [decide_eq_true z]
      exact (List.mem_filter.mp z).2.symm
    · rw [decide_eq_false z]
      cases y : inLot ws bits k w with
      | false => exact y.symm
      | true => exact absurd (List.mem_filter.mpr ⟨hw, y⟩) z
  · rw [if_neg q]
    simp [inLot, q]
end K89

namespace K89
open PySem FN
open PySem.PyData (strOk)
/-- place = len(world) + 1 + int(picks[4]) % (len(words) - len(world)); if ..: place = len(world) + 1 -/
theorem spoil_place1 {row : List Mb} {ws w : List Str} {LT P : List PyData} {n W f g v8 v9 v11 v12 : SV} {q4 q5 : Nat} (hw : w.length < ws.length) (h4 : oIx (.mu P) (.im (iD 4)) = some (.im (iD q4))) (h5 : oIx (.mu P) (.im (iD 5)) = some (.im (iD q5))) :
    ∃ pl, pl < ws.length + 1 ∧ ∀ k : SS, seqS (setS [0, 1, 2, 3] 11 (op2 (op2 (opN (consM (fVar 10) (retM [])) oLen) (fC (.int 1)) oAdd) (op2 (opN (consM (op2 (fVar 3) (fC (.int 4)) oIx) (retM [])) oInt) (op2 (opN (consM (fVar 2) (retM [])) oLen) (opN (consM (fVar 10) (retM [])) oLen) oSub) oMod) oAdd)) (seqS (ifS (boolE (op2 (op2 (opN (consM (op2 (fVar 3) (fC (.int 5)) oIx) (retM [])) oInt) (fC (.int 4)) oMod) (fC (.int 0)) oGt)) (setS [0, 1, 2, 3] 11 (op2 (opN (consM (fVar 10) (retM [])) oLen) (fC (.int 1)) oAdd)) nxS) k) [.im (fms row), .mu LT, .im (wd ws), .mu P, n, W, f, g, v8, v9, .im (wd w), v11, v12, .no] = k [.im (fms row), .mu LT, .im (wd ws), .mu P, n, W, f, g, v8, v9, .im (wd w), .im (iD pl), v12, .no] := by
  have sb : op2 (opN (consM (fVar 2) (retM [])) oLen) (opN (consM (fVar 10) (retM [])) oLen) oSub [.im (fms row), .mu LT, .im (wd ws), .mu P, n, W, f, g, v8, v9, .im (wd w), v11, v12, .no] = some (.im (iD (ws.length - w.length)), [.im (fms row), .mu LT, .im (wd ws), .mu P, n, W, f, g, v8, v9, .im (wd w), v11, v12, .no]) := by
    have ol := wd_len (w := w)
    have ol2 := wd_len (w := ws)
    have e : ((ws.length - w.length : Nat) : Int) = (ws.length : Int) - w.length := by omega
    simp only [iD] at ol ol2 ⊢
    rw [e]
    generalize wd w = WW at ol ⊢
    generalize wd ws = WS at ol2 ⊢
    simp [a_bind, a_ret, a_fVar, a_fC, a_op2, a_opN, a_op1, FN.view, views, frz, a_frM, a_consM, a_tupM, a_lstM, mkT, mkL, a_boolE, evB, a_truE, truM, truSV, a_notM, a_notV, a_andM, a_orM, a_andV, a_orV, a_ifM, a_loM, evI, a_slM, a_setS, store, a_retS, retE, a_setG, a_seqS, a_ifS, retN, a_nxS, a_ite, a_itemsM, itemsOf, SV.dat, SV.asI, SV.asQ, a_enuM, enumM, oAdd, oSub, int1, oLt, oLe, oGt, oGe, List.getElem?_cons_zero, List.getElem?_cons_succ, List.set_cons_zero, List.set_cons_succ, ol, ol2]
  have md := modE (i := 4) (b := ws.length - w.length) (g := op2 (opN (consM (fVar 2) (retM [])) oLen) (opN (consM (fVar 10) (retM [])) oLen) oSub) (env := [.im (fms row), .mu LT, .im (wd ws), .mu P, n, W, f, g, v8, v9, .im (wd w), v11, v12, .no]) rfl h4 sb (by omega)
  have md : op2 (opN (consM (op2 (fVar 3) (fC (.int 4)) oIx) (retM [])) oInt) (op2 (opN (consM (fVar 2) (retM [])) oLen) (opN (consM (fVar 10) (retM [])) oLen) oSub) oMod [.im (fms row), .mu LT, .im (wd ws), .mu P, n, W, f, g, v8, v9, .im (wd w), v11, v12, .no] = _ := md
  have hlt : q4 % (ws.length - w.length) < ws.length - w.length := Nat.mod_lt _ (by omega)
  generalize q4 % (ws.length - w.length) = p0 at md hlt
  have e1 : ∀ v, op2 (opN (consM (fVar 10) (retM [])) oLen) (fC (.int 1)) oAdd [.im (fms row), .mu LT, .im (wd ws), .mu P, n, W, f, g, v8, v9, .im (wd w), v, v12, .no] = some (.im (iD (w.length + 1)), [.im (fms row), .mu LT, .im (wd ws), .mu P, n, W, f, g, v8, v9, .im (wd w), v, v12, .no]) := fun v => by
    have ol := wd_len (w := w)
    have e : ((w.length + 1 : Nat) : Int) = (w.length : Int) + 1 := by omega
    simp only [iD] at ol ⊢
    rw [e]
    generalize wd w = WW at ol ⊢
    simp [a_bind, a_ret, a_fVar, a_fC, a_op2, a_opN, a_op1, FN.view, views, frz, a_frM, a_consM, a_tupM, a_lstM, mkT, mkL, a_boolE, evB, a_truE, truM, truSV, a_notM, a_notV, a_andM, a_orM, a_andV, a_orV, a_ifM, a_loM, evI, a_slM, a_setS, store, a_retS, retE, a_setG, a_seqS, a_ifS, retN, a_nxS, a_ite, a_itemsM, itemsOf, SV.dat, SV.asI, SV.asQ, a_enuM, enumM, oAdd, oSub, int1, oLt, oLe, oGt, oGe, List.getElem?_cons_zero, List.getElem?_cons_succ, List.set_cons_zero, List.set_cons_succ, ol]
  have s1 : setS [0, 1, 2, 3] 11 (op2 (op2 (opN (consM (fVar 10) (retM [])) oLen) (fC (.int 1)) oAdd) (op2 (opN (consM (op2 (fVar 3) (fC (.int 4)) oIx) (retM [])) oInt) (op2 (opN (consM (fVar 2) (retM [])) oLen) (opN (consM (fVar 10) (retM [])) oLen) oSub) oMod) oAdd) [.im (fms row), .mu LT, .im (wd ws), .mu P, n, W, f, g, v8, v9, .im (wd w), v11, v12, .no] = some (.nx, [.im (fms row), .mu LT, .im (wd ws), .mu P, n, W, f, g, v8, v9, .im (wd w), .im (iD (w.length + 1 + p0)), v12, .no]) := by
    rw [a_setS, a_op2, a_bind, e1 v11]
    dsimp only
    rw [a_bind, md]
    rfl
  have hlt2 : w.length + 1 + p0 < ws.length + 1 := by omega
  generalize w.length + 1 + p0 = p1 at s1 hlt2
  have md5 := modE (i := 5) (b := 4) (g := fC (.int 4)) (env := [.im (fms row), .mu LT, .im (wd ws), .mu P, n, W, f, g, v8, v9, .im (wd w), .im (iD p1), v12, .no]) rfl h5 rfl (by omega)
  have md5 : op2 (opN (consM (op2 (fVar 3) (fC (.int 5)) oIx) (retM [])) oInt) (fC (.int 4)) oMod [.im (fms row), .mu LT, .im (wd ws), .mu P, n, W, f, g, v8, v9, .im (wd w), .im (iD p1), v12, .no] = _ := md5
  have tt : boolE (op2 (op2 (opN (consM (op2 (fVar 3) (fC (.int 5)) oIx) (retM [])) oInt) (fC (.int 4)) oMod) (fC (.int 0)) oGt) [.im (fms row), .mu LT, .im (wd ws), .mu P, n, W, f, g, v8, v9, .im (wd w), .im (iD p1), v12, .no] = some (decide (0 < q5 % 4), [.im (fms row), .mu LT, .im (wd ws), .mu P, n, W, f, g, v8, v9, .im (wd w), .im (iD p1), v12, .no]) := by
    have z : oGt (.im (iD (q5 % 4))) (.im (.int 0)) = some (.im (.bool (decide (0 < q5 % 4)))) := by
      simp only [oGt, int1, SV.asI, iD]
      congr 3
      exact decide_eq_decide.mpr (by omega)
    exact boolE_im (op2_im md5 rfl z)
  by_cases h : 0 < q5 % 4
  · refine ⟨w.length + 1, by omega, fun k => ?_⟩
    rw [decide_eq_true h] at tt
    have s2 : setS [0, 1, 2, 3] 11 (op2 (opN (consM (fVar 10) (retM [])) oLen) (fC (.int 1)) oAdd) [.im (fms row), .mu LT, .im (wd ws), .mu P, n, W, f, g, v8, v9, .im (wd w), .im (iD p1), v12, .no] = some (.nx, [.im (fms row), .mu LT, .im (wd ws), .mu P, n, W, f, g, v8, v9, .im (wd w), .im (iD (w.length + 1)), v12, .no]) := by
      rw [a_setS, e1]
      rfl
    rw [seqS_nx s1, seqS_nx (by rw [ifS_t tt]; exact s2)]
  · refine ⟨p1, hlt2, fun k => ?_⟩
    rw [decide_eq_false h] at tt
    rw [seqS_nx s1, seqS_nx (by rw [ifS_f tt]; rfl)]
/-- the test len(world) > 0 -/
theorem spoil_t3 {row : List Mb} {ws w : List Str} {LT P : List PyData} {n W f g v8 v9 v11 v12 : SV} :
    boolE (op2 (opN (consM (fVar 10) (retM [])) oLen) (fC (.int 0)) oGt) [.im (fms row), .mu LT, .im (wd ws), .mu P, n, W, f, g, v8, v9, .im (wd w), v11, v12, .no] = some (decide (0 < w.length), [.im (fms row), .mu LT, .im (wd ws), .mu P, n, W, f, g, v8, v9, .im (wd w), v11, v12, .no]) := by
  have ol := wd_len (w := w)
  have z : oGt (.im (iD w.length)) (.im (.int 0)) = some (.im (.bool (decide (0 < w.length)))) := by
    simp only [oGt, int1, SV.asI, iD]
    congr 3
    exact decide_eq_decide.mpr (by omega)
  refine boolE_im (op2_im (p := iD w.length) (q := .int 0) (env1 := [.im (fms row), .mu LT, .im (wd ws), .mu P, n, W, f, g, v8, v9, .im (wd w), v11, v12, .no]) ?_ rfl z)
  generalize wd w = WW at ol ⊢
  generalize iD w.length = M at ol ⊢
  simp [a_bind, a_ret, a_fVar, a_fC, a_op2, a_opN, a_op1, FN.view, views, frz, a_frM, a_consM, a_tupM, a_lstM, mkT, mkL, a_boolE, evB, a_truE, truM, truSV, a_notM, a_notV, a_andM, a_orM, a_andV, a_orV, a_ifM, a_loM, evI, a_slM, a_setS, store, a_retS, retE, a_setG, a_seqS, a_ifS, retN, a_nxS, a_ite, a_itemsM, itemsOf, SV.dat, SV.asI, SV.asQ, a_enuM, enumM, oAdd, oSub, int1, oLt, oLe, oGt, oGe, List.getElem?_cons_zero, List.getElem?_cons_succ, List.set_cons_zero, List.set_cons_succ, ol]
theorem spoil_t1 {row : List Mb} {ws w : List Str} {LT P : List PyData} {n W f g v8 v9 v11 v12 : SV} :
    boolE (op2 (opN (consM (fVar 10) (retM [])) oLen) (opN (consM (fVar 2) (retM [])) oLen) oLt) [.im (fms row), .mu LT, .im (wd ws), .mu P, n, W, f, g, v8, v9, .im (wd w), v11, v12, .no] = some (decide (w.length < ws.length), [.im (fms row), .mu LT, .im (wd ws), .mu P, n, W, f, g, v8, v9, .im (wd w), v11, v12, .no]) := by
  have ol := wd_len (w := w)
  have ol2 := wd_len (w := ws)
  have z : oLt (.im (iD w.length)) (.im (iD ws.length)) = some (.im (.bool (decide (w.length < ws.length)))) := by
    simp only [oLt, int1, SV.asI, iD]
    congr 3
    exact decide_eq_decide.mpr (by omega)
  refine boolE_im (op2_im (p := iD w.length) (q := iD ws.length) (env1 := [.im (fms row), .mu LT, .im (wd ws), .mu P, n, W, f, g, v8, v9, .im (wd w), v11, v12, .no]) ?_ ?_ z)
  · generalize wd w = WW at ol ⊢
    generalize iD w.length = M at ol ⊢
    simp [a_bind, a_ret, a_fVar, a_fC, a_op2, a_opN, a_op1, FN.view, views, frz, a_frM, a_consM, a_tupM, a_lstM, mkT, mkL, a_boolE, evB, a_truE, truM, truSV, a_notM, a_notV, a_andM, a_orM, a_andV, a_orV, a_ifM, a_loM, evI, a_slM, a_setS, store, a_retS, retE, a_setG, a_seqS, a_ifS, retN, a_nxS, a_ite, a_itemsM, itemsOf, SV.dat, SV.asI, SV.asQ, a_enuM, enumM, oAdd, oSub, int1, oLt, oLe, oGt, oGe, List.getElem?_cons_zero, List.getElem?_cons_succ, List.set_cons_zero, List.set_cons_succ, ol]
  · generalize wd ws = WS at ol2 ⊢
    generalize iD ws.length = N at ol2 ⊢
    simp [a_bind, a_ret, a_fVar, a_fC, a_op2, a_opN, a_op1, FN.view, views, frz, a_frM, a_consM, a_tupM, a_lstM, mkT, mkL, a_boolE, evB, a_truE, truM, truSV, a_notM, a_notV, a_andM, a_orM, a_andV, a_orV, a_ifM, a_loM, evI, a_slM, a_setS, store, a_retS, retE, a_setG, a_seqS, a_ifS, retN, a_nxS, a_ite, a_itemsM, itemsOf, SV.dat, SV.asI, SV.asQ, a_enuM, enumM, oAdd, oSub, int1, oLt, oLe, oGt, oGe, List.getElem?_cons_zero, List.getElem?_cons_succ, List.set_cons_zero, List.set_cons_succ, ol2]
theorem Rok_cut {row : List Mb} {rs : List (List Mb)} {pl : Nat} {m : Mb} (hrow : Foks row) (hr : Rok (row.length + 1) rs) (hm : Fok m) (hpl : pl < row.length) : Rok (row.length + 1) (rs ++ [row.take pl ++ [m] ++ row.drop (pl + 1)]) :=
  Rok_app hr (Foks_app (Foks_app (Foks_take hrow _) (Foks_one hm)) (Foks_drop hrow _)) (by simp only [List.length_append, List.length_take, List.length_drop, List.length_singleton]; omega)
theorem blkA {row : List Mb} (hrow : Foks row) {ws : List Str} (hw : Nms ws) (hl4 : ws.length ≤ 4) (hn : row.length = ws.length + 1) {bits : List Int} {P : List PyData} {q4 q5 q6 : Nat} (h4 : oIx (.mu P) (.im (iD 4)) = some (.im (iD q4))) (h5 : oIx (.mu P) (.im (iD 5)) = some (.im (iD q5))) (h6 : oIx (.mu P) (.im (iD 6)) = some (.im (iD q6))) {n Wd f g v8 v11 v12 : SV} {rs : List (List Mb)} (hR : Rok (row.length + 1) rs) (hrs : rs.length ≤ 40) {w : List Str} (hwm : w ∈ worlds ws) :
    ∃ (rs1 : List (List Mb)) (u11 u12 : SV), Rok (row.length + 1) rs1 ∧ rs1.length ≤ rs.length + 1 ∧ ifS (boolE (op2 (opN (consM (fVar 10) (retM [])) oLen) (fC (.int 0)) oGt)) (seqS (setS [0, 1, 2, 3] 11 (op2 (opN (consM (op2 (fVar 3) (fC (.int 4)) oIx) (retM [])) oInt) (opN (consM (fVar 10) (retM [])) oLen) oMod)) (seqS (ifS (boolE (op2 (op2 (opN (consM (op2 (fVar 3) (fC (.int 5)) oIx) (retM [])) oInt) (fC (.int 3)) oMod) (fC (.int 0)) oGt)) (setS [0, 1, 2, 3] 11 (op2 (opN (consM (fVar 10) (retM [])) oLen) (fC (.int 1)) oSub)) nxS) (seqS (setS [0, 1, 2, 3] 12 (lcM [13] (itemsM (frM (op2 (fVar 1) (fVar 11) oIx))) (uName [0, 1, 2, 3] 13) f__law_spoilt_3 f__law_spoilt_4)) (appS 9 (frM (op2 (op2 (slM (fVar 0) (retM none) (loM (fVar 11)) oSl) (tupM (consM (frM (callM F__law_grown [] (consM (fVar 12) (consM (fVar 2) (consM (op2 (opN (consM (op2 (fVar 3) (fC (.int 6)) oIx) (retM [])) oInt) (fC (.int 4)) oMod) (retM [])))))) (retM []))) oAdd) (slM (fVar 0) (loM (op2 (fVar 11) (fC (.int 1)) oAdd)) (retM none) oSl) oAdd)))))) nxS [.im (fms row), .mu ((List.range (ws.length + 1)).map fun m => lst (lotB ws bits m)), .im (wd ws), .mu P, n, Wd, f, g, v8, .mu (rws rs), .im (wd w), v11, v12, .no] = some (.nx, [.im (fms row), .mu ((List.range (ws.length + 1)).map fun m => lst (lotB ws bits m)), .im (wd ws), .mu P, n, Wd, f, g, v8, .mu (rws rs1), .im (wd w), u11, u12, .no]) := by
  have hwl : w.length ≤ ws.length := worlds_short w hwm
  have tt := spoil_t3 (row := row) (ws := ws) (w := w) (LT := (List.range (ws.length + 1)).map fun m => lst (lotB ws bits m)) (P := P) (n := n) (W := Wd) (f := f) (g := g) (v8 := v8) (v9 := .mu (rws rs)) (v11 := v11) (v12 := v12)
  by_cases h : 0 < w.length
  · rw [decide_eq_true h] at tt
    obtain ⟨pl, hpl, hk⟩ := spoil_place (row := row) (ws := ws) (LT := (List.range (ws.length + 1)).map fun m => lst (lotB ws bits m)) (n := n) (W := Wd) (f := f) (g := g) (v8 := v8) (v9 := .mu (rws rs)) (v11 := v11) (v12 := v12) h h4 h5
    obtain ⟨Lot, hL, hLl, sl⟩ := spoil_lot3 (row := row) (bits := bits) (P := P) (n := n) (Wd := Wd) (f := f) (g := g) (v8 := v8) (v9 := .mu (rws rs)) (v12 := v12) hw hl4 (pl := pl) (by omega) hwm
    obtain ⟨m, u12, hm, sg⟩ := spoil_grown (row := row) (ws := ws) (PK := P) (rs := rs) (LT := (List.range (ws.length + 1)).map fun m => lst (lotB ws bits m)) (nn := n) (Wd := Wd) (ff := f) (gg := g) (v8 := v8) (v10 := .im (wd w)) (pl := pl) (by omega) hw hl4 hL hLl (by omega) h6
    refine ⟨rs ++ [row.take pl ++ [m] ++ row.drop (pl + 1)], .im (iD pl), u12, Rok_cut hrow hR hm (by omega), by rw [List.length_append]; exact Nat.le_refl _, ?_⟩
    rw [ifS_t tt, hk, seqS_nx sl, sg]
  · rw [decide_eq_false h] at tt
    exact ⟨rs, v11, v12, hR, by omega, by rw [ifS_f tt]; rfl⟩
theorem blkB {row : List Mb} (hrow : Foks row) {ws : List Str} (hw : Nms ws) (hl4 : ws.length ≤ 4) (hn : row.length = ws.length + 1) {bits : List Int} {P : List PyData} {q4 q5 q6 : Nat} (h4 : oIx (.mu P) (.im (iD 4)) = some (.im (iD q4))) (h5 : oIx (.mu P) (.im (iD 5)) = some (.im (iD q5))) (h6 : oIx (.mu P) (.im (iD 6)) = some (.im (iD q6))) {n f g v8 v11 v12 : SV} {rs : List (List Mb)} (hR : Rok (row.length + 1) rs) (hrs : rs.length ≤ 40) {w : List Str} (hwm : w ∈ worlds ws) :
    ∃ (rs1 : List (List Mb)) (u5 u11 u12 : SV), Rok (row.length + 1) rs1 ∧ rs1.length ≤ rs.length + 1 ∧ ifS (boolE (op2 (opN (consM (fVar 10) (retM [])) oLen) (opN (consM (fVar 2) (retM [])) oLen) oLt)) (seqS (setS [0, 1, 2, 3] 11 (op2 (op2 (opN (consM (fVar 10) (retM [])) oLen) (fC (.int 1)) oAdd) (op2 (opN (consM (op2 (fVar 3) (fC (.int 4)) oIx) (retM [])) oInt) (op2 (opN (consM (fVar 2) (retM [])) oLen) (opN (consM (fVar 10) (retM [])) oLen) oSub) oMod) oAdd)) (seqS (ifS (boolE (op2 (op2 (opN (consM (op2 (fVar 3) (fC (.int 5)) oIx) (retM [])) oInt) (fC (.int 4)) oMod) (fC (.int 0)) oGt)) (setS [0, 1, 2, 3] 11 (op2 (opN (consM (fVar 10) (retM [])) oLen) (fC (.int 1)) oAdd)) nxS) (seqS (setS [0, 1, 2, 3] 12 (lcM [13] (itemsM (frM (fVar 5))) (uName [0, 1, 2, 3] 13) f__law_spoilt_1 f__law_spoilt_2)) (appS 9 (frM (op2 (op2 (slM (fVar 0) (retM none) (loM (fVar 11)) oSl) (tupM (consM (frM (callM F__law_grown [] (consM (fVar 12) (consM (fVar 2) (consM (op2 (opN (consM (op2 (fVar 3) (fC (.int 6)) oIx) (retM [])) oInt) (fC (.int 4)) oMod) (retM [])))))) (retM []))) oAdd) (slM (fVar 0) (loM (op2 (fVar 11) (fC (.int 1)) oAdd)) (retM none) oSl) oAdd)))))) nxS [.im (fms row), .mu ((List.range (ws.length + 1)).map fun m => lst (lotB ws bits m)), .im (wd ws), .mu P, n, .mu ((worlds ws).map wd), f, g, v8, .mu (rws rs), .im (wd w), v11, v12, .no] = some (.nx, [.im (fms row), .mu ((List.range (ws.length + 1)).map fun m => lst (lotB ws bits m)), .im (wd ws), .mu P, n, u5, f, g, v8, .mu (rws rs1), .im (wd w), u11, u12, .no]) := by
  have hwl : w.length ≤ ws.length := worlds_short w hwm
  have tt := spoil_t1 (row := row) (ws := ws) (w := w) (LT := (List.range (ws.length + 1)).map fun m => lst (lotB ws bits m)) (P := P) (n := n) (W := .mu ((worlds ws).map wd)) (f := f) (g := g) (v8 := v8) (v9 := .mu (rws rs)) (v11 := v11) (v12 := v12)
  by_cases h : w.length < ws.length
  · rw [decide_eq_true h] at tt
    obtain ⟨pl, hpl, hk⟩ := spoil_place1 (row := row) (ws := ws) (LT := (List.range (ws.length + 1)).map fun m => lst (lotB ws bits m)) (n := n) (W := .mu ((worlds ws).map wd)) (f := f) (g := g) (v8 := v8) (v9 := .mu (rws rs)) (v11 := v11) (v12 := v12) h h4 h5
    obtain ⟨Lot, hL, hLl, sl⟩ := spoil_lot1 (row := row) (bits := bits) (P := P) (n := n) (f := f) (g := g) (v8 := v8) (v9 := .mu (rws rs)) (v12 := v12) hw hl4 (pl := pl) (by omega) hwm
    obtain ⟨m, u12, hm, sg⟩ := spoil_grown (row := row) (ws := ws) (PK := P) (rs := rs) (LT := (List.range (ws.length + 1)).map fun m => lst (lotB ws bits m)) (nn := n) (Wd := .im (lst (worlds ws))) (ff := f) (gg := g) (v8 := v8) (v10 := .im (wd w)) (pl := pl) (by omega) hw hl4 hL hLl (by omega) h6
    refine ⟨rs ++ [row.take pl ++ [m] ++ row.drop (pl + 1)], .im (lst (worlds ws)), .im (iD pl), u12, Rok_cut hrow hR hm (by omega), by rw [List.length_append]; exact Nat.le_refl _, ?_⟩
    rw [ifS_t tt, hk, seqS_nx sl, sg]
  · rw [decide_eq_false h] at tt
    exact ⟨rs, _, v11, v12, hR, by omega, by rw [ifS_f tt]; rfl⟩
theorem outs4 {a b c d : SV} {l : FEnv} {x y z w : SV} : outs [0, 1, 2, 3] (a :: b :: c :: d :: l) [x, y, z, w] = [a, b, c, d] := rfl
theorem law_spoilt {row : List Mb} (hrow : Foks row) {ws : List Str} (hw : Nms ws) (hl4 : ws.length ≤ 4) (hn : row.length = ws.length + 1) {bits : List Int} {PK : List Int} (hP : PK.length = 8) (hP0 : ∀ d ∈ PK, 0 ≤ d) :
    ∃ (rs : List (List Mb)) (svs : List SV), Rok (row.length + 1) rs ∧ rs.length ≤ 5 ∧ svs.length = 4 ∧ F__law_spoilt [.im (fms row), .mu ((List.range (ws.length + 1)).map fun m => lst (lotB ws bits m)), .im (wd ws), .mu (PK.map PyData.int)] = some (.own (rws rs), [.im (fms row), .mu ((List.range (ws.length + 1)).map fun m => lst (lotB ws bits m)), .im (wd ws), .mu (PK.map PyData.int)]) := by
  obtain ⟨f, g, rs, v8, hf, hg, hR, hl, h1⟩ := spoil_first hrow (by omega) (by omega) (ws := ws) hl4 (LT := (List.range (ws.length + 1)).map fun m => lst (lotB ws bits m)) hP hP0
  obtain ⟨q3, h3⟩ := ixI (i := 3) (l := PK) (by omega) hP0
  obtain ⟨q4, h4⟩ := ixI (i := 4) (l := PK) (by omega) hP0
  obtain ⟨q5, h5⟩ := ixI (i := 5) (l := PK) (by omega) hP0
  obtain ⟨q6, h6⟩ := ixI (i := 6) (l := PK) (by omega) hP0
  obtain ⟨q7, h7⟩ := ixI (i := 7) (l := PK) (by omega) hP0
  generalize PK.map PyData.int = P at h1 h3 h4 h5 h6 h7 ⊢
  obtain ⟨w, hwm, sw⟩ := spoil_world (row := row) (ws := ws) (LT := (List.range (ws.length + 1)).map fun m => lst (lotB ws bits m)) (n := .im (iD row.length)) (f := .im (iD f)) (g := .im (iD g)) (v8 := v8) (v9 := .mu (rws rs)) (v10 := .no) (v11 := .no) (v12 := .no) h3
  obtain ⟨rs1, u11, u12, hR1, hl1, sA⟩ := blkA hrow hw hl4 hn (bits := bits) h4 h5 h6 (n := .im (iD row.length)) (Wd := .mu ((worlds ws).map wd)) (f := .im (iD f)) (g := .im (iD g)) (v8 := v8) (v11 := .no) (v12 := .no) hR (by omega) hwm
  obtain ⟨w', hwm', sw'⟩ := spoil_world (row := row) (ws := ws) (LT := (List.range (ws.length + 1)).map fun m => lst (lotB ws bits m)) (n := .im (iD row.length)) (f := .im (iD f)) (g := .im (iD g)) (v8 := v8) (v9 := .mu (rws rs1)) (v10 := .im (wd w)) (v11 := u11) (v12 := u12) h7
  obtain ⟨rs2, u5, t11, t12, hR2, hl2, sB⟩ := blkB hrow hw hl4 hn (bits := bits) h4 h5 h6 (n := .im (iD row.length)) (f := .im (iD f)) (g := .im (iD g)) (v8 := v8) (v11 := u11) (v12 := u12) hR1 (by omega) hwm'
  have hF : f__law_spoilt ([.im (fms row), .mu ((List.range (ws.length + 1)).map fun m => lst (lotB ws bits m)), .im (wd ws), .mu P] ++ List.replicate 10 .no) = some (.rt (.own (rws rs2)), [.im (fms row), .mu ((List.range (ws.length + 1)).map fun m => lst (lotB ws bits m)), .im (wd ws), .mu P, .im (iD row.length), u5, .im (iD f), .im (iD g), v8, .no, .im (wd w'), t11, t12, .no]) := by
    generalize hLT : ((List.range (ws.length + 1)).map fun m => lst (lotB ws bits m)) = LT at h1 sw sA sw' sB ⊢
    generalize hW : (worlds ws).map wd = W at h1 sw sA sw' sB
    rw [f__law_spoilt]
    refine (h1 _).trans ?_
    refine (seqS_nx sw).trans ?_
    refine (seqS_nx sA).trans ?_
    refine (seqS_nx sw').trans ?_
    refine (seqS_nx sB).trans ?_
    rfl
  refine ⟨rs2, [.im (fms row), .mu ((List.range (ws.length + 1)).map fun m => lst (lotB ws bits m)), .im (wd ws), .mu P], hR2, by omega, rfl, ?_⟩
  have := fn_rt (n := 4) (m := 10) (pin := [0, 1, 2, 3]) hF rfl rfl own_ne
  rw [outs4] at this
  exact this
end K89

namespace K89
open PySem FN
open PySem.PyData (strOk)
/-! formulas of the row are well formed -/
theorem Wf_atom {x : Str} (h : Nm x) : Wfm (.atom x) := h
theorem Wf_aterm {w : List Str} (h : Nms w) : Wf (aterm w) := Wfs_of fun m hm => by
  obtain ⟨x, hx, rfl⟩ := List.mem_map.mp hm
  exact h x hx
theorem Wf_lform {l : List (List Str)} (h : Wss l) : Wf (lform l) := Wfs_of fun m hm => by
  obtain ⟨x, hx, rfl⟩ := List.mem_map.mp hm
  exact (Wf_aterm (h x (List.mem_filter.mp hx).1)).m
theorem Wf_grown {lot : List (List Str)} {ws : List Str} (hl : Wss lot) (hw : Nms ws) (way : Nat) : Wf (grown lot ws way) := by
  unfold grown
  split
  · exact Wf_lform hl
  · split
    · refine Wfs_of fun m hm => ?_
      obtain ⟨x, hx, rfl⟩ := List.mem_map.mp hm
      exact (Wf_aterm (hl x (List.mem_reverse.mp hx))).m
    · split
      · refine Wfs_of fun m hm => ?_
        obtain ⟨x, hx, rfl⟩ := List.mem_map.mp hm
        refine (Wfs_of fun m hm => ?_ : Wfs _)
        obtain ⟨y, hy, rfl⟩ := List.mem_map.mp hm
        exact hw y (List.mem_filter.mp hy).1
      · exact ⟨⟨(Wf_lform hl).m, trivial, trivial⟩, trivial, trivial⟩
theorem Wf_atL {ns : List Str} (h : Nms ns) : ∀ j k : Nat, j ≤ ns.length → Wf (atL ns j k)
  | j, 0, _ => by cases j <;> trivial
  | 0, k + 1, _ => trivial
  | j + 1, k + 1, hj => by
    rw [atL]
    split
    · trivial
    · refine ⟨(Wf_atL h j (k + 1) (by omega)).m, ⟨?_, (Wf_atL h j k (by omega)).m, trivial⟩, trivial⟩
      show Nm (ns.getD j "")
      rw [List.getD_eq_getElem?_getD, List.getElem?_eq_getElem (by omega)]
      exact h _ (List.getElem_mem _)
theorem dep_atL (ns : List Str) : ∀ j k : Nat, dep (atL ns j k) ≤ 2 * j + 1
  | j, 0 => by cases j <;> simp [atL, dep, deps]
  | 0, k + 1 => by simp [atL, dep, deps]
  | j + 1, k + 1 => by
    have h1 := dep_atL ns j (k + 1)
    have h2 := dep_atL ns j k
    rw [atL]
    split
    · simp [dep, deps]
    · simp only [dep, deps]
      omega
theorem Wf_whole {l : List Mb} {ws : List Str} (hw : Nms ws) (h : ∀ m ∈ l, Wf m) : Wf (whole l ws) := Wfs_of fun m hm => by
  obtain ⟨p, hp, rfl⟩ := List.mem_map.mp hm
  exact ⟨(h _ (enumF_mem hp)).m, Wf_atL hw _ _ (Nat.le_refl _), trivial⟩
theorem dep_whole {l : List Mb} {ws : List Str} (hl : ws.length ≤ 4) (h : Foks l) : dep (whole l ws) ≤ 32 := by
  refine dep_grp (n := 31) fun m hm => ?_
  obtain ⟨p, hp, rfl⟩ := List.mem_map.mp hm
  refine dep_grp (n := 30) fun m hm => ?_
  rcases List.mem_cons.mp hm with rfl | hm
  · exact (h _ (enumF_mem hp)).2
  · rw [List.mem_singleton.mp hm, dep]
    have := dep_atL ws ws.length (p.1 + 1)
    omega
theorem oNe_enc {m : Mb} (h : Mok m) (hd : dep m ≤ 32) : oNe (.im (enc m)) (.im (enc m)) = some (.im (.bool false)) := by
  simp only [oNe, dat2, SV.dat]
  rw [sh_enc h hd, SeqAt.eqv_refl _ (lay_enc h)]
  rfl
theorem oNe_bool_same {b : Bool} : oNe (.im (.bool b)) (.im (.bool b)) = some (.im (.bool false)) := by rw [oNe_bool]; simp
end K89

namespace K89
open PySem FN
open PySem.PyData (strOk)
section
variable {ws : List Str} {s0 s1 s3 s4 s5 s6 s7 s8 s9 s10 s11 s12 s13 s14 s15 s16 : SV}
theorem menus_facts : (menus.all fun m => decide (m.length = 4) && decide m.Nodup) = true := by decide +kernel
theorem menu_ok {m : List Str} (h : m ∈ menus) (k : Nat) : Nms (m.take k) ∧ (m.take k).Nodup ∧ (m.take k).length ≤ 4 := by
  have := List.all_eq_true.mp menus_facts m h
  rw [Bool.and_eq_true] at this
  have h1 := of_decide_eq_true this.1
  have h2 := of_decide_eq_true this.2
  exact ⟨fun x hx => List.mem_flatten.mpr ⟨m, h, List.mem_of_mem_take hx⟩, h2.sublist (List.take_sublist k m), by rw [List.length_take]; omega⟩
/-- len(words) of a slot -/
theorem lotOf_sub {m : Mb} {k : Nat} : ∀ v ∈ lotOf m ws k, v ∈ worlds ws := fun v hv => (List.mem_filter.mp hv).1
def Nm6 (t : SV) : Prop := t = .no ∨ ∃ d, t = .im d
/-! due -/
theorem due_body (hw : Nms ws) (hl : ws.length ≤ 4) {one : Mb} (hg : Go one 20) {k : Nat} (h3 : LSv s3 (worlds ws)) {pre : List PyData} (hp : pre.length ≤ 100) :
    f_law_10 [s0, s1, .im (wd ws), s3, .im (enc one), .mu pre, .im (iD k), .no, s8, s9, s10, s11, s12, s13, s14, s15, s16] = some (.nx, [s0, s1, .im (wd ws), .im (lst (worlds ws)), .im (enc one), .mu (pre ++ [enc (lform (lotOf one ws k))]), .im (iD k), .no, s8, s9, s10, s11, s12, s13, s14, .im (lst (lotOf one ws k)), s16]) := by
  have hi : itemsM (frM (fVar 3)) [s0, s1, .im (wd ws), s3, .im (enc one), .mu pre, .im (iD k), .no, s8, s9, s10, s11, s12, s13, s14, s15, s16] = some ((worlds ws).map wd, [s0, s1, .im (wd ws), .im (lst (worlds ws)), .im (enc one), .mu pre, .im (iD k), .no, s8, s9, s10, s11, s12, s13, s14, s15, s16]) := by
    rcases h3 with rfl | rfl <;> rfl
  have lc := lcg_map (vs := [7]) (u := uName [0] 7) (test := f_law_8) (elt := f_law_9) wd (fun w => if w.length = k then on one w else decide (k < w.length)) wd hi rfl (sz _ (by have := worlds_le hl; omega)) fun w hwm => by
    have hww := (Nms_worlds hw w hwm).ws
    have c : callM (F__law_on fuel) [] (consM (fVar 4) (consM (fVar 7) (retM []))) [s0, s1, .im (wd ws), .im (lst (worlds ws)), .im (enc one), .mu pre, .im (iD k), .im (wd w), s8, s9, s10, s11, s12, s13, s14, s15, s16] = some (.im (.bool (on one w)), [s0, s1, .im (wd ws), .im (lst (worlds ws)), .im (enc one), .mu pre, .im (iD k), .im (wd w), s8, s9, s10, s11, s12, s13, s14, s15, s16]) := call_im [enc one, wd w] rfl (law_on fuel one w (by rw [fuel_eq]; have := hg.2; omega) hg.1 hww) im_ne
    refine ⟨[s0, s1, .im (wd ws), .im (lst (worlds ws)), .im (enc one), .mu pre, .im (iD k), .im (wd w), s8, s9, s10, s11, s12, s13, s14, s15, s16], rfl, ?_, fun _ => rfl, rfl⟩
    generalize lst (worlds ws) = W at c ⊢
    generalize enc one = O at c ⊢
    by_cases h2 : w.length = k
    · subst h2
      simp [f_law_8, a_bind, a_ret, a_fVar, a_fC, a_op2, a_opN, a_op1, FN.view, views, frz, a_frM, a_consM, a_tupM, a_lstM, mkT, mkL, a_boolE, evB, a_truE, truM, truSV, a_notM, a_notV, a_andM, a_orM, a_andV, a_orV, a_ifM, a_loM, evI, a_slM, a_setS, store, a_retS, retE, a_setG, a_seqS, a_ifS, retN, a_nxS, a_ite, a_itemsM, itemsOf, SV.dat, SV.asI, SV.asQ, a_enuM, enumM, oAdd, oSub, int1, oLt, oLe, oGt, oGe, List.getElem?_cons_zero, List.getElem?_cons_succ, List.set_cons_zero, List.set_cons_succ, oLen, oEq_dec, c]
    · have h2' : ¬ ((w.length : Int) = (k : Int)) := by omega
      by_cases h1 : k < w.length
      · simp [f_law_8, a_bind, a_ret, a_fVar, a_fC, a_op2, a_opN, a_op1, FN.view, views, frz, a_frM, a_consM, a_tupM, a_lstM, mkT, mkL, a_boolE, evB, a_truE, truM, truSV, a_notM, a_notV, a_andM, a_orM, a_andV, a_orV, a_ifM, a_loM, evI, a_slM, a_setS, store, a_retS, retE, a_setG, a_seqS, a_ifS, retN, a_nxS, a_ite, a_itemsM, itemsOf, SV.dat, SV.asI, SV.asQ, a_enuM, enumM, oAdd, oSub, int1, oLt, oLe, oGt, oGe, List.getElem?_cons_zero, List.getElem?_cons_succ, List.set_cons_zero, List.set_cons_succ, oLen, h1, h2, oEq_dec]
      · simp [f_law_8, a_bind, a_ret, a_fVar, a_fC, a_op2, a_opN, a_op1, FN.view, views, frz, a_frM, a_consM, a_tupM, a_lstM, mkT, mkL, a_boolE, evB, a_truE, truM, truSV, a_notM, a_notV, a_andM, a_orM, a_andV, a_orV, a_ifM, a_loM, evI, a_slM, a_setS, store, a_retS, retE, a_setG, a_seqS, a_ifS, retN, a_nxS, a_ite, a_itemsM, itemsOf, SV.dat, SV.asI, SV.asQ, a_enuM, enumM, oAdd, oSub, int1, oLt, oLe, oGt, oGe, List.getElem?_cons_zero, List.getElem?_cons_succ, List.set_cons_zero, List.set_cons_succ, oLen, h1, h2, h2', oEq_dec]
  have s1' : setS [0] 15 (lcM [7] (itemsM (frM (fVar 3))) (uName [0] 7) f_law_8 f_law_9) [s0, s1, .im (wd ws), s3, .im (enc one), .mu pre, .im (iD k), .no, s8, s9, s10, s11, s12, s13, s14, s15, s16] = some (.nx, [s0, s1, .im (wd ws), .im (lst (worlds ws)), .im (enc one), .mu pre, .im (iD k), .no, s8, s9, s10, s11, s12, s13, s14, .mu ((lotOf one ws k).map wd), s16]) := setS_own (by decide) lc
  have cf : callM F__law_form [] (consM (fVar 15) (retM [])) [s0, s1, .im (wd ws), .im (lst (worlds ws)), .im (enc one), .mu pre, .im (iD k), .no, s8, s9, s10, s11, s12, s13, s14, .mu ((lotOf one ws k).map wd), s16] = some (.im (enc (lform (lotOf one ws k))), [s0, s1, .im (wd ws), .im (lst (worlds ws)), .im (enc one), .mu pre, .im (iD k), .no, s8, s9, s10, s11, s12, s13, s14, .im (lst (lotOf one ws k)), s16]) := by
    have hF := law_form (lot := lotOf one ws k) (sv := .mu ((lotOf one ws k).map wd)) (.inr rfl) (fun v hv => (Nms_worlds hw v (lotOf_sub v hv)).ws) (by have := worlds_le hl; have := List.length_filter_le (fun w => if w.length = k then on one w else decide (k < w.length)) (worlds ws); unfold lotOf; omega) (fun v hv => Nat.le_trans (worlds_short v (lotOf_sub v hv)) (by omega))
    generalize (lotOf one ws k) = L at hF ⊢
    exact callM_im (dds := []) (env1 := [s0, s1, .im (wd ws), .im (lst (worlds ws)), .im (enc one), .mu pre, .im (iD k), .no, s8, s9, s10, s11, s12, s13, s14, .mu (L.map wd), s16]) (es := [.slot 15]) rfl rfl (by show List.Nodup [15]; simp) hF im_ne
  rw [f_law_10, seqS_nx s1']
  exact appS_at rfl (frM_im cf) rfl (szl _)
theorem due_loop (hw : Nms ws) (hl : ws.length ≤ 4) {one : Mb} (hg : Go one 20) (h3 : LSv s3 (worlds ws)) (h6 : Nm6 s6) (h15 : Nm6 s15) :
    ∃ t3 t6 t15, LSv t3 (worlds ws) ∧ Nm6 t6 ∧ Nm6 t15 ∧ forS (rng1 (op2 (opN (consM (fVar 2) (retM [])) oLen) (fC (.int 1)) oAdd)) (uName [0] 6) f_law_10 [s0, s1, .im (wd ws), s3, .im (enc one), .mu [], s6, .no, s8, s9, s10, s11, s12, s13, s14, s15, s16] = some (.nx, [s0, s1, .im (wd ws), t3, .im (enc one), .mu ((List.range (ws.length + 1)).map fun k => enc (lform (lotOf one ws k))), t6, .no, s8, s9, s10, s11, s12, s13, s14, t15, s16]) := by
  have hi : rng1 (op2 (opN (consM (fVar 2) (retM [])) oLen) (fC (.int 1)) oAdd) [s0, s1, .im (wd ws), s3, .im (enc one), .mu [], s6, .no, s8, s9, s10, s11, s12, s13, s14, s15, s16] = some ((List.range (ws.length + 1)).map iD, [s0, s1, .im (wd ws), s3, .im (enc one), .mu [], s6, .no, s8, s9, s10, s11, s12, s13, s14, s15, s16]) := rng1_eq (by
    generalize enc one = O
    simp [a_bind, a_ret, a_fVar, a_fC, a_op2, a_opN, a_op1, FN.view, views, frz, a_frM, a_consM, a_tupM, a_lstM, mkT, mkL, a_boolE, evB, a_truE, truM, truSV, a_notM, a_notV, a_andM, a_orM, a_andV, a_orV, a_ifM, a_loM, evI, a_slM, a_setS, store, a_retS, retE, a_setG, a_seqS, a_ifS, retN, a_nxS, a_ite, a_itemsM, itemsOf, SV.dat, SV.asI, SV.asQ, a_enuM, enumM, oAdd, oSub, int1, oLt, oLe, oGt, oGe, List.getElem?_cons_zero, List.getElem?_cons_succ, List.set_cons_zero, List.set_cons_succ, oLen]) (by omega)
  have key := loop_fold (u := uName [0] 6) (body := f_law_10) iD (fun pre env => ∃ t3 t6 t15, LSv t3 (worlds ws) ∧ Nm6 t6 ∧ Nm6 t15 ∧ env = [s0, s1, .im (wd ws), t3, .im (enc one), .mu ((List.range pre.length).map fun k => enc (lform (lotOf one ws k))), t6, .no, s8, s9, s10, s11, s12, s13, s14, t15, s16]) (List.range (ws.length + 1)) [] [s0, s1, .im (wd ws), s3, .im (enc one), .mu [], s6, .no, s8, s9, s10, s11, s12, s13, s14, s15, s16] (fun p d q env e i => by
    obtain ⟨t3, t6, t15, ht, _, _, rfl⟩ := i
    obtain ⟨rfl, hlt⟩ := range_split e
    refine ⟨[s0, s1, .im (wd ws), t3, .im (enc one), .mu ((List.range p.length).map fun k => enc (lform (lotOf one ws k))), .im (iD p.length), .no, s8, s9, s10, s11, s12, s13, s14, t15, s16], [s0, s1, .im (wd ws), .im (lst (worlds ws)), .im (enc one), .mu (((List.range p.length).map fun k => enc (lform (lotOf one ws k))) ++ [enc (lform (lotOf one ws p.length))]), .im (iD p.length), .no, s8, s9, s10, s11, s12, s13, s14, .im (lst (lotOf one ws p.length)), s16], rfl, due_body hw hl hg ht (by rw [List.length_map, List.length_range]; omega), .im (lst (worlds ws)), .im (iD p.length), .im (lst (lotOf one ws p.length)), .inl rfl, .inr ⟨iD p.length, rfl⟩, .inr ⟨lst (lotOf one ws p.length), rfl⟩, ?_⟩
    rw [List.length_append, List.length_singleton, List.range_succ, List.map_append, List.map_singleton]) ⟨_, _, _, h3, h6, h15, rfl⟩
  obtain ⟨env2, h1, t3, t6, t15, ht, ht6, ht15, h2⟩ := key
  subst h2
  rw [List.nil_append, List.length_range] at h1
  exact ⟨t3, t6, t15, ht, ht6, ht15, by rw [forS_eq hi]; exact h1⟩
/-! the slices of one -/
def dueL (ws : List Str) (one : Mb) : List Mb := (List.range (ws.length + 1)).map fun k => form (lotOf one ws k)
theorem dueL_len {one : Mb} : (dueL ws one).length = ws.length + 1 := by rw [dueL, List.length_map, List.length_range]
theorem dueL_get {one : Mb} {k : Nat} (h : k < (dueL ws one).length) : (dueL ws one)[k] = form (lotOf one ws k) := by
  simp [dueL]
theorem lform_lot (hn : ws.Nodup) (one : Mb) (k : Nat) : lform (lotOf one ws k) = form (lotOf one ws k) := lform_eq (lvl_lotOf hn one k).pair
theorem fms_dueL (hn : ws.Nodup) {one : Mb} : (List.range (ws.length + 1)).map (fun k => enc (lform (lotOf one ws k))) = (dueL ws one).map enc := by
  unfold dueL
  rw [List.map_map]
  refine List.map_congr_left fun k _ => ?_
  rw [lform_lot hn]
  rfl
theorem told_body (hw : Nms ws) (hn : ws.Nodup) (hl : ws.length ≤ 4) {one : Mb} (hg : Go one 20) {k : Nat} (hk : k < ws.length + 1) :
    f_law_7 [s0, s1, .im (wd ws), s3, .im (enc one), .im (fms (dueL ws one)), .im (iD k), s7, s8, s9, s10, s11, s12, s13, s14, s15, s16] = some (.nx, [s0, s1, .im (wd ws), s3, .im (enc one), .im (fms (dueL ws one)), .im (iD k), s7, s8, s9, s10, s11, s12, s13, s14, s15, s16]) := by
  have c1 : callM F_slice_of [] (consM (fVar 4) (consM (fVar 2) (consM (fVar 6) (retM [])))) [s0, s1, .im (wd ws), s3, .im (enc one), .im (fms (dueL ws one)), .im (iD k), s7, s8, s9, s10, s11, s12, s13, s14, s15, s16] = some (.im (enc (form (lotOf one ws k))), [s0, s1, .im (wd ws), s3, .im (enc one), .im (fms (dueL ws one)), .im (iD k), s7, s8, s9, s10, s11, s12, s13, s14, s15, s16]) := call_im [enc one, wd ws, iD k] rfl (slice_of (by have := hg.2; omega) hg.1 hw hl) im_ne
  have hk' : k < (dueL ws one).length := by rw [dueL_len]; exact hk
  have ix := ixT (f := enc) hk'
  rw [dueL_get] at ix
  have c2 : op2 (fVar 5) (fVar 6) oIx [s0, s1, .im (wd ws), s3, .im (enc one), .im (fms (dueL ws one)), .im (iD k), s7, s8, s9, s10, s11, s12, s13, s14, s15, s16] = some (.im (enc (form (lotOf one ws k))), [s0, s1, .im (wd ws), s3, .im (enc one), .im (fms (dueL ws one)), .im (iD k), s7, s8, s9, s10, s11, s12, s13, s14, s15, s16]) := op2_im rfl rfl ix
  have hf : Wss (lotOf one ws k) := fun v hv => Nms_worlds hw v (lotOf_sub v hv)
  have wf := Wf_lform hf
  have dp := (lform_ok fun v hv => (hf v hv).ws).2
  have ps := law_positive_form (fuel - 3) (lotOf one ws k)
  have hfu : fuel - 3 + 3 = fuel := by rw [fuel_eq]
  rw [hfu] at ps
  rw [lform_lot hn] at wf dp ps
  generalize form (lotOf one ws k) = D at c1 c2 wf dp ps
  generalize [s0, s1, .im (wd ws), s3, .im (enc one), .im (fms (dueL ws one)), .im (iD k), s7, s8, s9, s10, s11, s12, s13, s14, s15, s16] = env at c1 c2 ⊢
  have c3 : callM F__law_told_formula [] (consM (callM F_slice_of [] (consM (fVar 4) (consM (fVar 2) (consM (fVar 6) (retM []))))) (consM (op2 (fVar 5) (fVar 6) oIx) (retM []))) env = some (.im (.bool true), env) := call_im [enc D, enc D] (by simp [a_consM, a_bind, c1, c2, a_ret]) (told_formula wf (by omega)) im_ne
  have c4 : callM (F__law_positive fuel) [] (consM (op2 (fVar 5) (fVar 6) oIx) (retM [])) env = some (.im (.bool true), env) := call_im [enc D] (by simp [a_consM, a_bind, c2, a_ret]) ps im_ne
  rw [f_law_7]
  refine ifS_nx ?_
  rw [orM_f (notM_eq (truE_im c3))]
  exact notM_eq (truE_im c4)
theorem told_loop (hw : Nms ws) (hn : ws.Nodup) (hl : ws.length ≤ 4) {one : Mb} (hg : Go one 20) (h6 : Nm6 s6) :
    ∃ t6, Nm6 t6 ∧ forS (rng1 (opN (consM (fVar 5) (retM [])) oLen)) (uName [0] 6) f_law_7 [s0, s1, .im (wd ws), s3, .im (enc one), .im (fms (dueL ws one)), s6, s7, s8, s9, s10, s11, s12, s13, s14, s15, s16] = some (.nx, [s0, s1, .im (wd ws), s3, .im (enc one), .im (fms (dueL ws one)), t6, s7, s8, s9, s10, s11, s12, s13, s14, s15, s16]) := by
  have hi : rng1 (opN (consM (fVar 5) (retM [])) oLen) [s0, s1, .im (wd ws), s3, .im (enc one), .im (fms (dueL ws one)), s6, s7, s8, s9, s10, s11, s12, s13, s14, s15, s16] = some ((List.range (ws.length + 1)).map iD, [s0, s1, .im (wd ws), s3, .im (enc one), .im (fms (dueL ws one)), s6, s7, s8, s9, s10, s11, s12, s13, s14, s15, s16]) := rng1_eq (by
    have ol := fms_len (l := dueL ws one)
    rw [dueL_len] at ol
    generalize fms (dueL ws one) = D at ol ⊢
    generalize enc one = O
    generalize ws.length + 1 = N at ol ⊢
    simp [a_bind, a_ret, a_fVar, a_fC, a_op2, a_opN, a_op1, FN.view, views, frz, a_frM, a_consM, a_tupM, a_lstM, mkT, mkL, a_boolE, evB, a_truE, truM, truSV, a_notM, a_notV, a_andM, a_orM, a_andV, a_orV, a_ifM, a_loM, evI, a_slM, a_setS, store, a_retS, retE, a_setG, a_seqS, a_ifS, retN, a_nxS, a_ite, a_itemsM, itemsOf, SV.dat, SV.asI, SV.asQ, a_enuM, enumM, oAdd, oSub, int1, oLt, oLe, oGt, oGe, List.getElem?_cons_zero, List.getElem?_cons_succ, List.set_cons_zero, List.set_cons_succ, ol]) (by omega)
  have key := loop_map (u := uName [0] 6) (body := f_law_7) (ev := .im .none) (I := fun env => ∃ v, Nm6 v ∧ env = [s0, s1, .im (wd ws), s3, .im (enc one), .im (fms (dueL ws one)), v, s7, s8, s9, s10, s11, s12, s13, s14, s15, s16]) (J := fun _ => False) iD (fun _ => true) (List.range (ws.length + 1)) [s0, s1, .im (wd ws), s3, .im (enc one), .im (fms (dueL ws one)), s6, s7, s8, s9, s10, s11, s12, s13, s14, s15, s16] (fun k hx env he => by
    obtain ⟨v, _, rfl⟩ := he
    have hk : k < ws.length + 1 := List.mem_range.mp hx
    exact ⟨[s0, s1, .im (wd ws), s3, .im (enc one), .im (fms (dueL ws one)), .im (iD k), s7, s8, s9, s10, s11, s12, s13, s14, s15, s16], rfl, .inl ⟨rfl, _, told_body hw hn hl hg hk, .im (iD k), .inr ⟨iD k, rfl⟩, rfl⟩⟩) ⟨_, h6, rfl⟩
  rcases key with ⟨_, env2, h2, v, hv, rfl⟩ | ⟨_, _, _, h1⟩
  · exact ⟨v, hv, by rw [forS_eq hi]; exact h2⟩
  · exact h1.elim
end
end K89

namespace K89
open PySem FN
open PySem.PyData (strOk)
section
variable {ws : List Str} {s0 s1 s3 s4 s5 s6 s7 s8 s9 s10 s11 s12 s13 s14 s15 s16 : SV}
/-- are_slices(row, words) is not True -/
theorem are_true {env : FEnv} {a : Nat} {L : List Mb} (ha : env[a]? = some (.im (fms L))) (h2 : env[2]? = some (.im (wd ws))) (hf : Foks L) (hw : Nms ws) (hl : ws.length ≤ 4) (hn : L.length ≤ 100) (ht : fits L ws = true) :
    boolE (op2 (callM F_are_slices [] (consM (fVar a) (consM (fVar 2) (retM [])))) (fC (.bool true)) (oIsB true)) env = some (false, env) := by
  have c := call_im (F := F_are_slices) (dds := []) (f := consM (fVar a) (consM (fVar 2) (retM []))) (env := env) (env1 := env) [fms L, wd ws] (consM2 (fV ha) (fV h2)) (are_slices hf hw hl hn) im_ne
  rw [ht] at c
  exact boolE_im (op2_im c rfl rfl)
theorem fits_dueL (hn : ws.Nodup) {one : Mb} : fits (dueL ws one) ws = true := fits_of dueL_len fun k m h => by
  obtain ⟨hk, e⟩ := List.getElem?_eq_some_iff.mp h
  rw [dueL_get] at e
  subst e
  exact fit_of (lvl_lotOf hn one k) fun w hw => (lvl_lotOf hn one k).form hw
theorem Wss_lotOf (hw : Nms ws) {one : Mb} {k : Nat} : Wss (lotOf one ws k) := fun v hv => Nms_worlds hw v (lotOf_sub v hv)
theorem dueL_ok (hw : Nms ws) (hn : ws.Nodup) {one : Mb} : ∀ m ∈ dueL ws one, Wf m ∧ Mok m ∧ dep m ≤ 3 := fun m hm => by
  obtain ⟨k, hk, rfl⟩ := List.mem_map.mp hm
  have h1 := Wf_lform (Wss_lotOf hw (one := one) (k := k))
  have h2 := lform_ok fun v hv => (Wss_lotOf hw (one := one) (k := k) v hv).ws
  rw [lform_lot hn] at h1 h2
  exact ⟨h1, h2⟩
theorem slices_dueL {one : Mb} (hd : dep one ≤ 40) (hm : Mok one) (hw : Nms ws) (hl : ws.length ≤ 4) : F_slices_of [.im (enc one), .im (wd ws)] = some (.im (fms (dueL ws one)), [.im (enc one), .im (wd ws)]) := by
  rw [slices_of hd hm hw hl, dueL, fms, List.map_map]
  rfl
theorem row_test (hw : Nms ws) (hn : ws.Nodup) (hl : ws.length ≤ 4) {one : Mb} (hg : Go one 20) :
    ifS (orM (notM (truE (callM F__law_told_row [] (consM (callM F_slices_of [] (consM (fVar 4) (consM (fVar 2) (retM [])))) (consM (fVar 5) (retM [])))))) (boolE (op2 (callM F_are_slices [] (consM (fVar 5) (consM (fVar 2) (retM [])))) (fC (.bool true)) (oIsB true)))) (retS [0] (fC (.bool false))) nxS [s0, s1, .im (wd ws), s3, .im (enc one), .im (fms (dueL ws one)), s6, s7, s8, s9, s10, s11, s12, s13, s14, s15, s16] = some (.nx, [s0, s1, .im (wd ws), s3, .im (enc one), .im (fms (dueL ws one)), s6, s7, s8, s9, s10, s11, s12, s13, s14, s15, s16]) := by
  have c1 : callM F_slices_of [] (consM (fVar 4) (consM (fVar 2) (retM []))) [s0, s1, .im (wd ws), s3, .im (enc one), .im (fms (dueL ws one)), s6, s7, s8, s9, s10, s11, s12, s13, s14, s15, s16] = some (.im (fms (dueL ws one)), [s0, s1, .im (wd ws), s3, .im (enc one), .im (fms (dueL ws one)), s6, s7, s8, s9, s10, s11, s12, s13, s14, s15, s16]) := call_im [enc one, wd ws] rfl (slices_dueL (by have := hg.2; omega) hg.1 hw hl) im_ne
  have ok := dueL_ok hw hn (one := one)
  have len := dueL_len (ws := ws) (one := one)
  have ft := fits_dueL hn (one := one)
  have h5 : [s0, s1, .im (wd ws), s3, .im (enc one), .im (fms (dueL ws one)), s6, s7, s8, s9, s10, s11, s12, s13, s14, s15, s16][5]? = some (.im (fms (dueL ws one))) := rfl
  have h2 : [s0, s1, .im (wd ws), s3, .im (enc one), .im (fms (dueL ws one)), s6, s7, s8, s9, s10, s11, s12, s13, s14, s15, s16][2]? = some (.im (wd ws)) := rfl
  generalize dueL ws one = D at c1 ok len ft h5 h2 ⊢
  generalize [s0, s1, .im (wd ws), s3, .im (enc one), .im (fms D), s6, s7, s8, s9, s10, s11, s12, s13, s14, s15, s16] = env at c1 h5 h2 ⊢
  have c2 : callM F__law_told_row [] (consM (callM F_slices_of [] (consM (fVar 4) (consM (fVar 2) (retM [])))) (consM (fVar 5) (retM []))) env = some (.im (.bool true), env) := call_im [fms D, fms D] (consM2 c1 (fV h5)) (told_row (fun m hm => ⟨(ok m hm).1, by have := (ok m hm).2.2; omega⟩) (by omega)) im_ne
  refine ifS_nx ?_
  rw [orM_f (notM_eq (truE_im c2))]
  exact are_true h5 h2 (fun m hm => ⟨(ok m hm).2.1, by have := (ok m hm).2.2; omega⟩) hw hl (by omega) ft
/-- on(m, world) != on(row[len(world)], world) -/
theorem on_body {env : FEnv} {a b : Nat} {m : Mb} {L : List Mb} {w : List Str} (ha : env[a]? = some (.im (enc m))) (hb : env[b]? = some (.im (fms L))) (h7 : env[7]? = some (.im (wd w))) (hm : Mok m) (hd : dep m ≤ 40) (hk : w.length < L.length) (hL : Mok L[w.length]) (hLd : dep L[w.length] ≤ 40) (hw : Ws w) (he : on m w = on L[w.length] w) :
    ifS (boolE (op2 (callM (F__law_on fuel) [] (consM (fVar a) (consM (fVar 7) (retM [])))) (callM (F__law_on fuel) [] (consM (op2 (fVar b) (opN (consM (fVar 7) (retM [])) oLen) oIx) (consM (fVar 7) (retM [])))) oNe)) (retS [0] (fC (.bool false))) nxS env = some (.nx, env) := by
  have c1 : callM (F__law_on fuel) [] (consM (fVar a) (consM (fVar 7) (retM []))) env = some (.im (.bool (on m w)), env) := call_im [enc m, wd w] (consM2 (fV ha) (fV h7)) (law_on fuel m w (by rw [fuel_eq]; omega) hm hw) im_ne
  have ix := ixT (f := enc) hk
  have o1 : opN (consM (fVar 7) (retM [])) oLen env = some (.im (iD w.length), env) := by
    have ol := wd_len (w := w)
    generalize wd w = W at h7 ol
    generalize iD w.length = N at ol ⊢
    simp [a_opN, a_bind, a_consM, a_fVar, h7, a_ret, views, FN.view, ol]
  have c2 : callM (F__law_on fuel) [] (consM (op2 (fVar b) (opN (consM (fVar 7) (retM [])) oLen) oIx) (consM (fVar 7) (retM []))) env = some (.im (.bool (on L[w.length] w)), env) := call_im [enc L[w.length], wd w] (consM2 (op2_im (fV hb) o1 ix) (fV h7)) (law_on fuel _ w (by rw [fuel_eq]; omega) hL hw) im_ne
  rw [← he] at c2
  exact ifS_nx (boolE_im (op2_im c1 c2 oNe_bool_same))
theorem world_loop {body : SS} (h3 : LSv s3 (worlds ws)) (hb : ∀ w ∈ worlds ws, body [s0, s1, .im (wd ws), .im (lst (worlds ws)), s4, s5, s6, .im (wd w), s8, s9, s10, s11, s12, s13, s14, s15, s16] = some (.nx, [s0, s1, .im (wd ws), .im (lst (worlds ws)), s4, s5, s6, .im (wd w), s8, s9, s10, s11, s12, s13, s14, s15, s16])) :
    ∃ t7, forS (itemsM (frM (fVar 3))) (uName [0] 7) body [s0, s1, .im (wd ws), s3, s4, s5, s6, s7, s8, s9, s10, s11, s12, s13, s14, s15, s16] = some (.nx, [s0, s1, .im (wd ws), .im (lst (worlds ws)), s4, s5, s6, t7, s8, s9, s10, s11, s12, s13, s14, s15, s16]) := by
  have hi : itemsM (frM (fVar 3)) [s0, s1, .im (wd ws), s3, s4, s5, s6, s7, s8, s9, s10, s11, s12, s13, s14, s15, s16] = some ((worlds ws).map wd, [s0, s1, .im (wd ws), .im (lst (worlds ws)), s4, s5, s6, s7, s8, s9, s10, s11, s12, s13, s14, s15, s16]) := by rcases h3 with rfl | rfl <;> rfl
  have key := loop_map (u := uName [0] 7) (body := body) (ev := .im .none) (I := fun env => ∃ v, env = [s0, s1, .im (wd ws), .im (lst (worlds ws)), s4, s5, s6, v, s8, s9, s10, s11, s12, s13, s14, s15, s16]) (J := fun _ => False) wd (fun _ => true) (worlds ws) [s0, s1, .im (wd ws), .im (lst (worlds ws)), s4, s5, s6, s7, s8, s9, s10, s11, s12, s13, s14, s15, s16] (fun w hx env he => by
    obtain ⟨v, rfl⟩ := he
    exact ⟨[s0, s1, .im (wd ws), .im (lst (worlds ws)), s4, s5, s6, .im (wd w), s8, s9, s10, s11, s12, s13, s14, s15, s16], rfl, .inl ⟨rfl, _, hb w hx, _, rfl⟩⟩) ⟨_, rfl⟩
  rcases key with ⟨_, env2, h2, v, rfl⟩ | ⟨_, _, _, h1⟩
  · exact ⟨v, by rw [forS_eq hi]; exact h2⟩
  · exact h1.elim
theorem due_on (hw : Nms ws) (hn : ws.Nodup) {one : Mb} (hg : Go one 20) (h3 : LSv s3 (worlds ws)) :
    ∃ t7, forS (itemsM (frM (fVar 3))) (uName [0] 7) f_law_6 [s0, s1, .im (wd ws), s3, .im (enc one), .im (fms (dueL ws one)), s6, s7, s8, s9, s10, s11, s12, s13, s14, s15, s16] = some (.nx, [s0, s1, .im (wd ws), .im (lst (worlds ws)), .im (enc one), .im (fms (dueL ws one)), s6, t7, s8, s9, s10, s11, s12, s13, s14, s15, s16]) :=
  world_loop h3 fun w hwm => by
    have hk : w.length < (dueL ws one).length := by rw [dueL_len]; have := worlds_short w hwm; omega
    have ok := dueL_ok hw hn (one := one) _ (List.getElem_mem hk)
    exact on_body (a := 4) (b := 5) rfl rfl rfl hg.1 (by have := hg.2; omega) hk ok.2.1 (by have := ok.2.2; omega) (Nms_worlds hw w hwm).ws (by rw [dueL_get, on_slice hn one hwm])
/-! the row -/
def wy (ways : List Int) (m : Nat) : Nat := (ways.getD m 0).toNat
theorem wy_ok {ways : List Int} {n : Nat} {s : Int} (h : Dig ways (List.replicate n s)) {m : Nat} (hm : m < n) : ((wy ways m : Nat) : Int) < s ∧ oIx (.mu (ways.map PyData.int)) (.im (iD m)) = some (.im (iD (wy ways m))) := by
  have hl : m < ways.length := by rw [h.1, List.length_replicate]; exact hm
  have e : ways.getD m 0 = ways[m] := by rw [List.getD_eq_getElem?_getD, List.getElem?_eq_getElem hl]; rfl
  have hd := h.2 m ways[m] s (List.getElem?_eq_getElem hl) (by rw [List.getElem?_replicate, if_pos hm])
  have ht : ((ways[m].toNat : Nat) : Int) = ways[m] := Int.toNat_of_nonneg hd.1
  unfold wy
  rw [e]
  refine ⟨by rw [ht]; exact hd.2, ?_⟩
  have := ixM (f := PyData.int) hl
  show _ = some (EV.im (PyData.int ((ways[m].toNat : Nat) : Int)))
  rw [ht]
  exact this
def rowL (ws : List Str) (bits ways : List Int) : List Mb := (List.range (ws.length + 1)).map fun m => grown (lotB ws bits m) ws (wy ways m)
theorem rowL_len {bits ways : List Int} : (rowL ws bits ways).length = ws.length + 1 := by rw [rowL, List.length_map, List.length_range]
theorem rowL_get {bits ways : List Int} {k : Nat} (h : k < (rowL ws bits ways).length) : (rowL ws bits ways)[k] = grown (lotB ws bits k) ws (wy ways k) := by
  simp [rowL]
def LTd (ws : List Str) (bits : List Int) : List PyData := (List.range (ws.length + 1)).map fun m => lst (lotB ws bits m)
theorem Wss_lotB (hw : Nms ws) {bits : List Int} {k : Nat} : Wss (lotB ws bits k) := fun v hv => Nms_worlds hw v (List.mem_filter.mp hv).1
theorem lotB_len (hl : ws.length ≤ 4) {bits : List Int} {k : Nat} : (lotB ws bits k).length ≤ 16 := Nat.le_trans (List.length_filter_le _ _) (worlds_le hl)
theorem lotB_Sm (hl : ws.length ≤ 4) {bits : List Int} {k : Nat} : Sm (lotB ws bits k) := fun v hv => Nat.le_trans (worlds_short v (List.mem_filter.mp hv).1) (by omega)
theorem row_make (hw : Nms ws) (hl : ws.length ≤ 4) {bits ways : List Int} (hy : Dig ways (List.replicate 5 4)) (h6 : Nm6 s6) :
    opN (consM (lcM [6] (rng1 (opN (consM (fVar 10) (retM [])) oLen)) (uName [0] 6) (retM true) f_law_5) (retM [])) oTuple [s0, s1, .im (wd ws), s3, s4, s5, s6, s7, s8, .mu (ways.map PyData.int), .mu (LTd ws bits), s11, s12, s13, s14, s15, s16] = some (.im (fms (rowL ws bits ways)), [s0, s1, .im (wd ws), s3, s4, s5, s6, s7, s8, .mu (ways.map PyData.int), .mu (LTd ws bits), s11, s12, s13, s14, s15, s16]) := by
  have hi : rng1 (opN (consM (fVar 10) (retM [])) oLen) [s0, s1, .im (wd ws), s3, s4, s5, s6, s7, s8, .mu (ways.map PyData.int), .mu (LTd ws bits), s11, s12, s13, s14, s15, s16] = some ((List.range (ws.length + 1)).map iD, [s0, s1, .im (wd ws), s3, s4, s5, s6, s7, s8, .mu (ways.map PyData.int), .mu (LTd ws bits), s11, s12, s13, s14, s15, s16]) := rng1_eq (by
    have ol : oLen [.mu (LTd ws bits)] = some (.im (iD (ws.length + 1))) := by
      show some (EV.im (.int ((LTd ws bits).length : Nat))) = _
      rw [LTd, List.length_map, List.length_range]
    generalize LTd ws bits = LT at ol ⊢
    generalize ways.map PyData.int = WY
    generalize ws.length + 1 = N at ol ⊢
    simp [a_bind, a_ret, a_fVar, a_fC, a_op2, a_opN, a_op1, FN.view, views, frz, a_frM, a_consM, a_tupM, a_lstM, mkT, mkL, a_boolE, evB, a_truE, truM, truSV, a_notM, a_notV, a_andM, a_orM, a_andV, a_orV, a_ifM, a_loM, evI, a_slM, a_setS, store, a_retS, retE, a_setG, a_seqS, a_ifS, retN, a_nxS, a_ite, a_itemsM, itemsOf, SV.dat, SV.asI, SV.asQ, a_enuM, enumM, oAdd, oSub, int1, oLt, oLe, oGt, oGe, List.getElem?_cons_zero, List.getElem?_cons_succ, List.set_cons_zero, List.set_cons_succ, ol]) (by omega)
  have lc := lcm_map (vs := [6]) (u := uName [0] 6) (elt := f_law_5) iD (fun m => enc (grown (lotB ws bits m) ws (wy ways m))) (ds := List.range (ws.length + 1)) hi (by rcases h6 with rfl | ⟨d, rfl⟩ <;> rfl) (sz _ (by rw [List.length_range]; omega)) fun m hm => by
    have hm' : m < ws.length + 1 := List.mem_range.mp hm
    have ix := LT_ix (bits := bits) hm'
    obtain ⟨hq, iy⟩ := wy_ok hy (m := m) (by omega)
    obtain ⟨sv', hF⟩ := law_grown (lot := lotB ws bits m) (ws := ws) (way := wy ways m) (by omega) (.inl rfl) (fun v hv => (Wss_lotB hw v hv).ws) (by have := lotB_len hl (bits := bits) (k := m); omega) (lotB_Sm hl) hw hl
    refine ⟨[s0, s1, .im (wd ws), s3, s4, s5, .im (iD m), s7, s8, .mu (ways.map PyData.int), .mu (LTd ws bits), s11, s12, s13, s14, s15, s16], rfl, ?_, rfl⟩
    have ix : oIx (.mu (LTd ws bits)) (.im (iD m)) = some (.im (lst (lotB ws bits m))) := ix
    generalize LTd ws bits = LT at ix ⊢
    generalize ways.map PyData.int = WY at iy ⊢
    refine frM_im (call_im [lst (lotB ws bits m), wd ws, iD (wy ways m)] ?_ hF im_ne)
    generalize lst (lotB ws bits m) = A at ix ⊢
    generalize iD (wy ways m) = B at iy ⊢
    generalize iD m = K at ix iy ⊢
    simp [a_bind, a_ret, a_fVar, a_fC, a_op2, a_opN, a_op1, FN.view, views, frz, a_frM, a_consM, a_tupM, a_lstM, mkT, mkL, a_boolE, evB, a_truE, truM, truSV, a_notM, a_notV, a_andM, a_orM, a_andV, a_orV, a_ifM, a_loM, evI, a_slM, a_setS, store, a_retS, retE, a_setG, a_seqS, a_ifS, retN, a_nxS, a_ite, a_itemsM, itemsOf, SV.dat, SV.asI, SV.asQ, a_enuM, enumM, oAdd, oSub, int1, oLt, oLe, oGt, oGe, List.getElem?_cons_zero, List.getElem?_cons_succ, List.set_cons_zero, List.set_cons_succ, ix, iy]
  have e : fms (rowL ws bits ways) = .tuple ((List.range (ws.length + 1)).map fun m => enc (grown (lotB ws bits m) ws (wy ways m))) := by
    rw [rowL, fms, List.map_map]
    rfl
  rw [e, a_opN, a_bind, consM1 lc]
  rfl
theorem rowL_ok (hw : Nms ws) {bits ways : List Int} : ∀ m ∈ rowL ws bits ways, Wf m ∧ Fok m := fun m hm => by
  obtain ⟨k, hk, rfl⟩ := List.mem_map.mp hm
  exact ⟨Wf_grown (Wss_lotB hw) hw _, grown_ok (fun v hv => (Wss_lotB hw v hv).ws) hw.ws _⟩
theorem rowL_on (hn : ws.Nodup) {bits ways : List Int} {k : Nat} {m : Mb} (h : (rowL ws bits ways)[k]? = some m) : ∀ w ∈ worlds ws, on m w = decide (w ∈ lotB ws bits k) := fun w hw => by
  obtain ⟨hk, e⟩ := List.getElem?_eq_some_iff.mp h
  rw [rowL_get] at e
  subst e
  exact on_grown (lvl_lotB hn bits k) _ hw
theorem fits_rowL (hn : ws.Nodup) {bits ways : List Int} : fits (rowL ws bits ways) ws = true := fits_of rowL_len fun k m h => fit_of (lvl_lotB hn bits k) (rowL_on hn h)
end
end K89

namespace K89
open PySem FN
open PySem.PyData (strOk)
section
variable {ws : List Str} {s0 s1 s3 s4 s5 s6 s7 s8 s9 s10 s11 s12 s13 s14 s15 s16 : SV}
/-! spoilt rows -/
theorem spoilt_body (hw : Nms ws) (hl : ws.length ≤ 4) {r : List Mb} (hf : Foks r) (hn : r.length ≤ 50) :
    f_law_4 [s0, s1, .im (wd ws), s3, s4, s5, s6, s7, s8, s9, s10, s11, .im (fms r), s13, s14, s15, s16] = some (.nx, [s0, s1, .im (wd ws), s3, s4, s5, s6, s7, s8, s9, s10, s11, .im (fms r), s13, s14, s15, .im (.bool (fits r ws))]) := by
  have c1 : callM F_are_slices [] (consM (fVar 12) (consM (fVar 2) (retM []))) [s0, s1, .im (wd ws), s3, s4, s5, s6, s7, s8, s9, s10, s11, .im (fms r), s13, s14, s15, s16] = some (.im (.bool (fits r ws)), [s0, s1, .im (wd ws), s3, s4, s5, s6, s7, s8, s9, s10, s11, .im (fms r), s13, s14, s15, s16]) := call_im [fms r, wd ws] rfl (are_slices hf hw hl (by omega)) im_ne
  have c2 : callM F__law_row_fits [] (consM (fVar 12) (consM (fVar 2) (retM []))) [s0, s1, .im (wd ws), s3, s4, s5, s6, s7, s8, s9, s10, s11, .im (fms r), s13, s14, s15, .im (.bool (fits r ws))] = some (.im (.bool (fits r ws)), [s0, s1, .im (wd ws), s3, s4, s5, s6, s7, s8, s9, s10, s11, .im (fms r), s13, s14, s15, .im (.bool (fits r ws))]) := call_im [fms r, wd ws] rfl (law_row_fits hf hw hl (by omega)) im_ne
  have st : setS [0] 16 (callM F_are_slices [] (consM (fVar 12) (consM (fVar 2) (retM [])))) [s0, s1, .im (wd ws), s3, s4, s5, s6, s7, s8, s9, s10, s11, .im (fms r), s13, s14, s15, s16] = some (.nx, [s0, s1, .im (wd ws), s3, s4, s5, s6, s7, s8, s9, s10, s11, .im (fms r), s13, s14, s15, .im (.bool (fits r ws))]) := setS_im (by decide) c1
  have o1 : op1 (fVar 16) (oIsi "bool") [s0, s1, .im (wd ws), s3, s4, s5, s6, s7, s8, s9, s10, s11, .im (fms r), s13, s14, s15, .im (.bool (fits r ws))] = some (.im (.bool true), [s0, s1, .im (wd ws), s3, s4, s5, s6, s7, s8, s9, s10, s11, .im (fms r), s13, s14, s15, .im (.bool (fits r ws))]) := by
    have : oIsi "bool" (.im (.bool (fits r ws))) = some (.im (.bool true)) := rfl
    generalize fits r ws = b at this ⊢
    generalize fms r = R
    simp [a_op1, a_bind, a_fVar, FN.view, this]
  rw [f_law_4, seqS_nx st]
  refine ifS_nx ?_
  rw [orM_f (notM_eq (truE_im o1))]
  exact boolE_im (op2_im rfl c2 oNe_bool_same)
theorem spoilt_loop (hw : Nms ws) (hl : ws.length ≤ 4) {bits ways : List Int} {hd : List Int} (hdl : hd.length = 12) (hd0 : ∀ d ∈ hd, 0 ≤ d) :
    ∃ t12 t16, forS (itemsM (frM (callM F__law_spoilt [] (consM (fVar 11) (consM (fVar 10) (consM (fVar 2) (consM (slM (fVar 1) (loM (fC (.int 2))) (loM (fC (.int 10))) oSl) (retM [])))))))) (uName [0] 12) f_law_4 [s0, .mu (hd.map PyData.int), .im (wd ws), s3, s4, s5, s6, s7, s8, s9, .mu (LTd ws bits), .im (fms (rowL ws bits ways)), s12, s13, s14, s15, s16] = some (.nx, [s0, .mu (hd.map PyData.int), .im (wd ws), s3, s4, s5, s6, s7, s8, s9, .mu (LTd ws bits), .im (fms (rowL ws bits ways)), t12, s13, s14, s15, t16]) := by
  have hsl : oSl (.mu (hd.map PyData.int)) (some 2) (some 10) = some (.own (((hd.take 10).drop 2).map PyData.int)) := by
    show some (EV.own (cutG (hd.map PyData.int) (some ((2 : Nat) : Int)) (some ((10 : Nat) : Int)))) = _
    rw [cutG_mid, List.map_drop, List.map_take]
  obtain ⟨rs, svs, hR, hlen, hsv, hF⟩ := law_spoilt (row := rowL ws bits ways) (fun m hm => (rowL_ok hw m hm).2) hw hl rowL_len (bits := bits) (PK := (hd.take 10).drop 2) (by rw [List.length_drop, List.length_take]; omega) (fun d hd' => hd0 d (List.mem_of_mem_take (List.mem_of_mem_drop hd')))
  have hF : F__law_spoilt [.im (fms (rowL ws bits ways)), .mu (LTd ws bits), .im (wd ws), .mu (((hd.take 10).drop 2).map PyData.int)] = some (.own (rws rs), [.im (fms (rowL ws bits ways)), .mu (LTd ws bits), .im (wd ws), .mu (((hd.take 10).drop 2).map PyData.int)]) := hF
  have hrl := rowL_len (ws := ws) (bits := bits) (ways := ways)
  rw [hrl] at hR
  generalize ((hd.take 10).drop 2).map PyData.int = PK at hsl hF
  generalize hd.map PyData.int = HD at hsl ⊢
  generalize LTd ws bits = LT at hF ⊢
  generalize fms (rowL ws bits ways) = R at hF ⊢
  have c : callM F__law_spoilt [] (consM (fVar 11) (consM (fVar 10) (consM (fVar 2) (consM (slM (fVar 1) (loM (fC (.int 2))) (loM (fC (.int 10))) oSl) (retM []))))) [s0, .mu HD, .im (wd ws), s3, s4, s5, s6, s7, s8, s9, .mu LT, .im R, s12, s13, s14, s15, s16] = some (.own (rws rs), [s0, .mu HD, .im (wd ws), s3, s4, s5, s6, s7, s8, s9, .mu LT, .im R, s12, s13, s14, s15, s16]) :=
    callM_im (dds := []) (es := [.im R, .slot 10, .im (wd ws), .own PK]) (env1 := [s0, .mu HD, .im (wd ws), s3, s4, s5, s6, s7, s8, s9, .mu LT, .im R, s12, s13, s14, s15, s16]) (by simp [a_bind, a_ret, a_fVar, a_fC, a_op2, a_opN, a_op1, FN.view, views, frz, a_frM, a_consM, a_tupM, a_lstM, mkT, mkL, a_boolE, evB, a_truE, truM, truSV, a_notM, a_notV, a_andM, a_orM, a_andV, a_orV, a_ifM, a_loM, evI, a_slM, a_setS, store, a_retS, retE, a_setG, a_seqS, a_ifS, retN, a_nxS, a_ite, a_itemsM, itemsOf, SV.dat, SV.asI, SV.asQ, a_enuM, enumM, oAdd, oSub, int1, oLt, oLe, oGt, oGe, List.getElem?_cons_zero, List.getElem?_cons_succ, List.set_cons_zero, List.set_cons_succ, hsl]) rfl (by show List.Nodup [10]; simp) hF own_ne
  have hi : itemsM (frM (callM F__law_spoilt [] (consM (fVar 11) (consM (fVar 10) (consM (fVar 2) (consM (slM (fVar 1) (loM (fC (.int 2))) (loM (fC (.int 10))) oSl) (retM []))))))) [s0, .mu HD, .im (wd ws), s3, s4, s5, s6, s7, s8, s9, .mu LT, .im R, s12, s13, s14, s15, s16] = some (rws rs, [s0, .mu HD, .im (wd ws), s3, s4, s5, s6, s7, s8, s9, .mu LT, .im R, s12, s13, s14, s15, s16]) := by
    rw [a_itemsM, a_bind, a_frM, a_bind, c]
    rfl
  have key := loop_map (u := uName [0] 12) (body := f_law_4) (ev := .im .none) (I := fun env => ∃ v v', env = [s0, .mu HD, .im (wd ws), s3, s4, s5, s6, s7, s8, s9, .mu LT, .im R, v, s13, s14, s15, v']) (J := fun _ => False) (fun r : List Mb => fms r) (fun _ => true) rs [s0, .mu HD, .im (wd ws), s3, s4, s5, s6, s7, s8, s9, .mu LT, .im R, s12, s13, s14, s15, s16] (fun r hx env he => by
    obtain ⟨v, v', rfl⟩ := he
    obtain ⟨h1, h2⟩ := hR r hx
    exact ⟨[s0, .mu HD, .im (wd ws), s3, s4, s5, s6, s7, s8, s9, .mu LT, .im R, .im (fms r), s13, s14, s15, v'], rfl, .inl ⟨rfl, _, spoilt_body hw hl h1 (by omega), _, _, rfl⟩⟩) ⟨_, _, rfl⟩
  rcases key with ⟨_, env2, h2, v, v', rfl⟩ | ⟨_, _, _, h1⟩
  · exact ⟨v, v', by rw [forS_eq hi]; exact h2⟩
  · exact h1.elim
/-! terms -/
theorem enumF_get : ∀ (n : Nat) (l : List Mb) (i : Nat), (enumF n l)[i]? = l[i]?.map fun m => (n + i, m)
  | n, [], i => by simp [enumF]
  | n, m :: l, 0 => by simp [enumF]
  | n, m :: l, i + 1 => by
    rw [enumF, List.getElem?_cons_succ, List.getElem?_cons_succ, enumF_get (n + 1) l i]
    have : n + 1 + i = n + (i + 1) := by omega
    rw [this]
theorem enc_uterm {k : Nat} {m : Mb} : enc (uterm ws (k, m)) = .tuple [.str "all", .tuple [enc m, .tuple [.str "not", enc (atL ws ws.length (k + 1))]]] := rfl
theorem terms_body (hl : ws.length ≤ 4) {R : List Mb} {k : Nat} (hk : k < R.length) (hR : R.length ≤ 10) :
    f_law_3 [s0, s1, .im (wd ws), s3, s4, s5, .im (iD k), s7, s8, s9, s10, .im (fms R), s12, .mu (((enumF 0 R).take k).map fun p => enc (uterm ws p)), s14, s15, s16] = some (.nx, [s0, s1, .im (wd ws), s3, s4, s5, .im (iD k), s7, s8, s9, s10, .im (fms R), s12, .mu (((enumF 0 R).take (k + 1)).map fun p => enc (uterm ws p)), s14, s15, s16]) := by
  have e : (enumF 0 R).take (k + 1) = (enumF 0 R).take k ++ [(k, R[k])] := by
    rw [List.take_succ, enumF_get, List.getElem?_eq_getElem hk]
    simp
  have hlen : ((enumF 0 R).take k).length ≤ 10 := by rw [List.length_take, enumF_length]; omega
  rw [e, List.map_append, List.map_singleton, enc_uterm]
  have hpre : (((enumF 0 R).take k).map fun p => enc (uterm ws p)).length < sizeLine := szl _ (by rw [List.length_map]; omega)
  generalize ((enumF 0 R).take k).map (fun p => enc (uterm ws p)) = P at hpre ⊢
  have ix := ixT (f := enc) hk
  have al := law_at_least ws fuel ws.length (k + 1) (by rw [fuel_eq]; omega) (Nat.le_refl _)
  have c : callM (F__law_at_least fuel) [] (consM (fVar 2) (consM (opN (consM (fVar 2) (retM [])) oLen) (consM (op2 (fVar 6) (fC (.int 1)) oAdd) (retM [])))) [s0, s1, .im (wd ws), s3, s4, s5, .im (iD k), s7, s8, s9, s10, .im (fms R), s12, .mu P, s14, s15, s16] = some (.im (enc (atL ws ws.length (k + 1))), [s0, s1, .im (wd ws), s3, s4, s5, .im (iD k), s7, s8, s9, s10, .im (fms R), s12, .mu P, s14, s15, s16]) :=
    call_im [wd ws, iD ws.length, iD (k + 1)] (by
      have ol := wd_len (w := ws)
      have e1 : iD (k + 1) = .int ((k : Int) + 1) := rfl
      rw [e1]
      generalize wd ws = W at ol ⊢
      generalize iD ws.length = N at ol ⊢
      generalize fms R = R'
      simp [a_bind, a_ret, a_fVar, a_fC, a_op2, a_opN, a_op1, FN.view, views, frz, a_frM, a_consM, a_tupM, a_lstM, mkT, mkL, a_boolE, evB, a_truE, truM, truSV, a_notM, a_notV, a_andM, a_orM, a_andV, a_orV, a_ifM, a_loM, evI, a_slM, a_setS, store, a_retS, retE, a_setG, a_seqS, a_ifS, retN, a_nxS, a_ite, a_itemsM, itemsOf, SV.dat, SV.asI, SV.asQ, a_enuM, enumM, oAdd, oSub, int1, oLt, oLe, oGt, oGe, List.getElem?_cons_zero, List.getElem?_cons_succ, List.set_cons_zero, List.set_cons_succ, ol]) al im_ne
  have ix : oIx (.im (fms R)) (.im (iD k)) = some (.im (enc R[k])) := ix
  generalize enc (atL ws ws.length (k + 1)) = A at c ⊢
  generalize enc R[k] = B at ix ⊢
  have g : ∀ env : FEnv, env[6]? = some (.im (iD k)) → env[11]? = some (.im (fms R)) → callM (F__law_at_least fuel) [] (consM (fVar 2) (consM (opN (consM (fVar 2) (retM [])) oLen) (consM (op2 (fVar 6) (fC (.int 1)) oAdd) (retM [])))) env = some (.im A, env) → frM (tupM (consM (frM (fC (.str "all"))) (consM (frM (tupM (consM (frM (op2 (fVar 11) (fVar 6) oIx)) (consM (frM (tupM (consM (frM (fC (.str "not"))) (consM (frM (callM (F__law_at_least fuel) [] (consM (fVar 2) (consM (opN (consM (fVar 2) (retM [])) oLen) (consM (op2 (fVar 6) (fC (.int 1)) oAdd) (retM [])))))) (retM []))))) (retM []))))) (retM [])))) env = some (.tuple [.str "all", .tuple [B, .tuple [.str "not", A]]], env) := fun env h6 h11 hc => by
    generalize fms R = R' at ix h11
    generalize iD k = K at ix h6
    simp [a_frM, a_tupM, a_consM, a_bind, a_fC, a_op2, a_fVar, h6, h11, FN.view, ix, frz, hc, a_ret, mkT, sz 2]
  rw [f_law_3]
  exact appS_at rfl (g _ rfl rfl c) rfl hpre
theorem terms_loop (hl : ws.length ≤ 4) {R : List Mb} (hR : R.length ≤ 10) :
    ∃ t6, forS (rng1 (opN (consM (fVar 11) (retM [])) oLen)) (uName [0] 6) f_law_3 [s0, s1, .im (wd ws), s3, s4, s5, s6, s7, s8, s9, s10, .im (fms R), s12, .mu [], s14, s15, s16] = some (.nx, [s0, s1, .im (wd ws), s3, s4, s5, t6, s7, s8, s9, s10, .im (fms R), s12, .mu ((enumF 0 R).map fun p => enc (uterm ws p)), s14, s15, s16]) := by
  have hi : rng1 (opN (consM (fVar 11) (retM [])) oLen) [s0, s1, .im (wd ws), s3, s4, s5, s6, s7, s8, s9, s10, .im (fms R), s12, .mu [], s14, s15, s16] = some ((List.range R.length).map iD, [s0, s1, .im (wd ws), s3, s4, s5, s6, s7, s8, s9, s10, .im (fms R), s12, .mu [], s14, s15, s16]) := rng1_eq (by
    have ol := fms_len (l := R)
    generalize fms R = R' at ol ⊢
    generalize R.length = N at ol ⊢
    simp [a_bind, a_ret, a_fVar, a_fC, a_op2, a_opN, a_op1, FN.view, views, frz, a_frM, a_consM, a_tupM, a_lstM, mkT, mkL, a_boolE, evB, a_truE, truM, truSV, a_notM, a_notV, a_andM, a_orM, a_andV, a_orV, a_ifM, a_loM, evI, a_slM, a_setS, store, a_retS, retE, a_setG, a_seqS, a_ifS, retN, a_nxS, a_ite, a_itemsM, itemsOf, SV.dat, SV.asI, SV.asQ, a_enuM, enumM, oAdd, oSub, int1, oLt, oLe, oGt, oGe, List.getElem?_cons_zero, List.getElem?_cons_succ, List.set_cons_zero, List.set_cons_succ, ol]) (by omega)
  have key := loop_fold (u := uName [0] 6) (body := f_law_3) iD (fun pre env => ∃ v, env = [s0, s1, .im (wd ws), s3, s4, s5, v, s7, s8, s9, s10, .im (fms R), s12, .mu (((enumF 0 R).take pre.length).map fun p => enc (uterm ws p)), s14, s15, s16]) (List.range R.length) [] [s0, s1, .im (wd ws), s3, s4, s5, s6, s7, s8, s9, s10, .im (fms R), s12, .mu [], s14, s15, s16] (fun p d q env e i => by
    obtain ⟨v, rfl⟩ := i
    obtain ⟨rfl, hlt⟩ := range_split e
    refine ⟨[s0, s1, .im (wd ws), s3, s4, s5, .im (iD p.length), s7, s8, s9, s10, .im (fms R), s12, .mu (((enumF 0 R).take p.length).map fun p => enc (uterm ws p)), s14, s15, s16], [s0, s1, .im (wd ws), s3, s4, s5, .im (iD p.length), s7, s8, s9, s10, .im (fms R), s12, .mu (((enumF 0 R).take (p.length + 1)).map fun p => enc (uterm ws p)), s14, s15, s16], rfl, terms_body hl hlt hR, .im (iD p.length), ?_⟩
    rw [List.length_append, List.length_singleton]) ⟨_, rfl⟩
  obtain ⟨env2, h1, v, h2⟩ := key
  subst h2
  rw [List.nil_append, List.length_range, List.take_of_length_le (by rw [enumF_length]; exact Nat.le_refl _)] at h1
  exact ⟨v, by rw [forS_eq hi]; exact h1⟩
theorem whole_call {env : FEnv} (hw : Nms ws) (hl : ws.length ≤ 4) {R : List Mb} (hn : R.length ≤ 100) (h2 : env[2]? = some (.im (wd ws))) (h11 : env[11]? = some (.im (fms R))) : callM F_unslice [] (consM (fVar 11) (consM (fVar 2) (retM []))) env = some (.im (enc (whole R ws)), env) :=
  call_im [fms R, wd ws] (consM2 (fV h11) (fV h2)) (unslice hw hl hn) im_ne
theorem whole_test (hw : Nms ws) (hl : ws.length ≤ 4) {R : List Mb} (hn : R.length ≤ 10) (hR : ∀ m ∈ R, Wf m ∧ Fok m) :
    ifS (orM (notM (truE (callM F__law_told_formula [] (consM (fVar 14) (consM (tupM (consM (frM (fC (.str "some"))) (consM (frM (opN (consM (fVar 13) (retM [])) oTuple)) (retM [])))) (retM [])))))) (boolE (op2 (callM F_unslice [] (consM (fVar 11) (consM (fVar 2) (retM [])))) (fVar 14) oNe))) (retS [0] (fC (.bool false))) nxS [s0, s1, .im (wd ws), s3, s4, s5, s6, s7, s8, s9, s10, .im (fms R), s12, .mu ((enumF 0 R).map fun p => enc (uterm ws p)), .im (enc (whole R ws)), s15, s16] = some (.nx, [s0, s1, .im (wd ws), s3, s4, s5, s6, s7, s8, s9, s10, .im (fms R), s12, .mu ((enumF 0 R).map fun p => enc (uterm ws p)), .im (enc (whole R ws)), s15, s16]) := by
  have wf := Wf_whole hw fun m hm => (hR m hm).1
  have dp := dep_whole hl fun m hm => (hR m hm).2
  have ew := enc_whole R ws
  have cw := whole_call (env := [s0, s1, .im (wd ws), s3, s4, s5, s6, s7, s8, s9, s10, .im (fms R), s12, .mu ((enumF 0 R).map fun p => enc (uterm ws p)), .im (enc (whole R ws)), s15, s16]) hw hl (by omega) rfl rfl
  generalize (enumF 0 R).map (fun p => enc (uterm ws p)) = T at ew cw ⊢
  have ct : tupM (consM (frM (fC (.str "some"))) (consM (frM (opN (consM (fVar 13) (retM [])) oTuple)) (retM []))) [s0, s1, .im (wd ws), s3, s4, s5, s6, s7, s8, s9, s10, .im (fms R), s12, .mu T, .im (enc (whole R ws)), s15, s16] = some (.im (enc (whole R ws)), [s0, s1, .im (wd ws), s3, s4, s5, s6, s7, s8, s9, s10, .im (fms R), s12, .mu T, .im (enc (whole R ws)), s15, s16]) := by
    rw [ew]
    generalize fms R = R'
    simp [a_bind, a_ret, a_fVar, a_fC, a_op2, a_opN, a_op1, FN.view, views, frz, a_frM, a_consM, a_tupM, a_lstM, mkT, mkL, a_boolE, evB, a_truE, truM, truSV, a_notM, a_notV, a_andM, a_orM, a_andV, a_orV, a_ifM, a_loM, evI, a_slM, a_setS, store, a_retS, retE, a_setG, a_seqS, a_ifS, retN, a_nxS, a_ite, a_itemsM, itemsOf, SV.dat, SV.asI, SV.asQ, a_enuM, enumM, oAdd, oSub, int1, oLt, oLe, oGt, oGe, List.getElem?_cons_zero, List.getElem?_cons_succ, List.set_cons_zero, List.set_cons_succ, oTuple, sz 2]
  have h14 : [s0, s1, .im (wd ws), s3, s4, s5, s6, s7, s8, s9, s10, .im (fms R), s12, .mu T, .im (enc (whole R ws)), s15, s16][14]? = some (.im (enc (whole R ws))) := rfl
  generalize [s0, s1, .im (wd ws), s3, s4, s5, s6, s7, s8, s9, s10, .im (fms R), s12, .mu T, .im (enc (whole R ws)), s15, s16] = env at ct cw h14 ⊢
  refine ifS_nx ?_
  have c2 : callM F__law_told_formula [] (consM (fVar 14) (consM (tupM (consM (frM (fC (.str "some"))) (consM (frM (opN (consM (fVar 13) (retM [])) oTuple)) (retM [])))) (retM []))) env = some (.im (.bool true), env) := call_im [enc (whole R ws), enc (whole R ws)] (consM2 (fV h14) ct) (told_formula wf dp) im_ne
  rw [orM_f (notM_eq (truE_im c2))]
  exact boolE_im (op2_im cw (fV h14) (oNe_enc wf.ok dp))
theorem whole_on (hw : Nms ws) (hn : ws.Nodup) {bits ways : List Int} : ∀ w ∈ worlds ws, on (whole (rowL ws bits ways) ws) w = decide (w ∈ lotB ws bits w.length) := fun w hwm =>
  on_whole hn rowL_len (Ls := lotB ws bits) (fun k _ => lvl_lotB hn bits k) (fun k m h => rowL_on hn h) hwm
theorem whole_loop (hw : Nms ws) (hn : ws.Nodup) (hl : ws.length ≤ 4) {bits ways : List Int} (h3 : LSv s3 (worlds ws)) :
    ∃ t7, forS (itemsM (frM (fVar 3))) (uName [0] 7) f_law_2 [s0, s1, .im (wd ws), s3, s4, s5, s6, s7, s8, s9, s10, .im (fms (rowL ws bits ways)), s12, s13, .im (enc (whole (rowL ws bits ways) ws)), s15, s16] = some (.nx, [s0, s1, .im (wd ws), .im (lst (worlds ws)), s4, s5, s6, t7, s8, s9, s10, .im (fms (rowL ws bits ways)), s12, s13, .im (enc (whole (rowL ws bits ways) ws)), s15, s16]) :=
  world_loop h3 fun w hwm => by
    have hk : w.length < (rowL ws bits ways).length := by rw [rowL_len]; have := worlds_short w hwm; omega
    have ok := rowL_ok hw (bits := bits) (ways := ways)
    have o1 := ok _ (List.getElem_mem hk)
    have wf := Wf_whole hw fun m hm => (ok m hm).1
    have dp := dep_whole hl fun m hm => (ok m hm).2
    exact on_body (a := 14) (b := 11) rfl rfl rfl wf.ok (by omega) hk o1.2.1 (by have := o1.2.2; omega) (Nms_worlds hw w hwm).ws (by rw [whole_on hw hn w hwm, rowL_on hn (List.getElem?_eq_getElem hk) w hwm])
theorem dueL_whole (hw : Nms ws) (hn : ws.Nodup) {bits ways : List Int} : fms (dueL ws (whole (rowL ws bits ways) ws)) = .tuple ((List.range (ws.length + 1)).map fun m => enc (lform (lotB ws bits m))) := by
  rw [dueL, fms, List.map_map]
  congr 1
  refine List.map_congr_left fun k _ => ?_
  show enc (form (lotOf _ ws k)) = _
  rw [lotOf_whole (whole_on hw hn), lform_eq (lvl_lotB hn bits k).pair]
theorem back_test (hw : Nms ws) (hn : ws.Nodup) (hl : ws.length ≤ 4) {bits ways : List Int} (h15 : Nm6 s15) :
    ifS (notM (truE (callM F__law_told_row [] (consM (callM F_slices_of [] (consM (fVar 14) (consM (fVar 2) (retM [])))) (consM (opN (consM (lcM [15] (itemsM (frM (fVar 10))) (uName [0] 15) (retM true) f_law_1) (retM [])) oTuple) (retM [])))))) (retS [0] (fC (.bool false))) nxS [s0, s1, .im (wd ws), s3, s4, s5, s6, s7, s8, s9, .mu (LTd ws bits), s11, s12, s13, .im (enc (whole (rowL ws bits ways) ws)), s15, s16] = some (.nx, [s0, s1, .im (wd ws), s3, s4, s5, s6, s7, s8, s9, .im (.list (LTd ws bits)), s11, s12, s13, .im (enc (whole (rowL ws bits ways) ws)), s15, s16]) := by
  have ok := rowL_ok hw (bits := bits) (ways := ways)
  have wf := Wf_whole hw fun m hm => (ok m hm).1
  have dp := dep_whole hl fun m hm => (ok m hm).2
  have c1 : callM F_slices_of [] (consM (fVar 14) (consM (fVar 2) (retM []))) [s0, s1, .im (wd ws), s3, s4, s5, s6, s7, s8, s9, .mu (LTd ws bits), s11, s12, s13, .im (enc (whole (rowL ws bits ways) ws)), s15, s16] = some (.im (fms (dueL ws (whole (rowL ws bits ways) ws))), [s0, s1, .im (wd ws), s3, s4, s5, s6, s7, s8, s9, .mu (LTd ws bits), s11, s12, s13, .im (enc (whole (rowL ws bits ways) ws)), s15, s16]) := call_im [enc (whole (rowL ws bits ways) ws), wd ws] rfl (slices_dueL (by omega) wf.ok hw hl) im_ne
  have hi : itemsM (frM (fVar 10)) [s0, s1, .im (wd ws), s3, s4, s5, s6, s7, s8, s9, .mu (LTd ws bits), s11, s12, s13, .im (enc (whole (rowL ws bits ways) ws)), s15, s16] = some ((List.range (ws.length + 1)).map (fun m => lst (lotB ws bits m)), [s0, s1, .im (wd ws), s3, s4, s5, s6, s7, s8, s9, .im (.list (LTd ws bits)), s11, s12, s13, .im (enc (whole (rowL ws bits ways) ws)), s15, s16]) := rfl
  have lc := lcm_map (vs := [15]) (u := uName [0] 15) (elt := f_law_1) (fun m => lst (lotB ws bits m)) (fun m => enc (lform (lotB ws bits m))) (ds := List.range (ws.length + 1)) hi (by rcases h15 with rfl | ⟨d, rfl⟩ <;> rfl) (sz _ (by rw [List.length_range]; omega)) fun m hm => by
    have hF := law_form (lot := lotB ws bits m) (sv := .im (lst (lotB ws bits m))) (.inl rfl) (fun v hv => (Wss_lotB hw v hv).ws) (by have := lotB_len hl (bits := bits) (k := m); omega) (lotB_Sm hl)
    refine ⟨[s0, s1, .im (wd ws), s3, s4, s5, s6, s7, s8, s9, .im (.list (LTd ws bits)), s11, s12, s13, .im (enc (whole (rowL ws bits ways) ws)), .im (lst (lotB ws bits m)), s16], rfl, ?_, rfl⟩
    exact frM_im (call_im [lst (lotB ws bits m)] rfl hF im_ne)
  have e := dueL_whole hw hn (bits := bits) (ways := ways)
  have dok := dueL_ok hw hn (one := whole (rowL ws bits ways) ws)
  have dl := dueL_len (ws := ws) (one := whole (rowL ws bits ways) ws)
  have c2 : opN (consM (lcM [15] (itemsM (frM (fVar 10))) (uName [0] 15) (retM true) f_law_1) (retM [])) oTuple [s0, s1, .im (wd ws), s3, s4, s5, s6, s7, s8, s9, .mu (LTd ws bits), s11, s12, s13, .im (enc (whole (rowL ws bits ways) ws)), s15, s16] = some (.im (fms (dueL ws (whole (rowL ws bits ways) ws))), [s0, s1, .im (wd ws), s3, s4, s5, s6, s7, s8, s9, .im (.list (LTd ws bits)), s11, s12, s13, .im (enc (whole (rowL ws bits ways) ws)), s15, s16]) := by
    rw [e, a_opN, a_bind, consM1 lc]
    rfl
  have c3 := call_im (F := F__law_told_row) (dds := []) [fms (dueL ws (whole (rowL ws bits ways) ws)), fms (dueL ws (whole (rowL ws bits ways) ws))] (consM2 c1 c2) (told_row (fun m hm => ⟨(dok m hm).1, by have := (dok m hm).2.2; omega⟩) (by omega)) im_ne
  exact ifS_nx (notM_eq (truE_im c3))
/-! the end -/
theorem law_end (hw : Nms ws) (hn : ws.Nodup) (hl : ws.length ≤ 4) {one : Mb} (hg : Go one 20) {hd : List Int} (hdl : hd.length = 12) (hd0 : ∀ d ∈ hd, 0 ≤ d) :
    ∃ t6, seqS (setS [0] 6 (op2 (opN (consM (op2 (fVar 1) (fC (.int 10)) oIx) (retM [])) oInt) (opN (consM (fVar 5) (retM [])) oLen) oMod)) (retS [0] (callM F__law_told_formula [] (consM (callM F_slice_of [] (consM (fVar 4) (consM (fVar 2) (consM (fVar 6) (retM []))))) (consM (op2 (fVar 5) (fVar 6) oIx) (retM []))))) [s0, .mu (hd.map PyData.int), .im (wd ws), s3, .im (enc one), .im (fms (dueL ws one)), s6, s7, s8, s9, s10, s11, s12, s13, s14, s15, s16] = some (.rt (.im (.bool true)), [s0, .mu (hd.map PyData.int), .im (wd ws), s3, .im (enc one), .im (fms (dueL ws one)), t6, s7, s8, s9, s10, s11, s12, s13, s14, s15, s16]) := by
  obtain ⟨q, h1⟩ := ixI (i := 10) (l := hd) (by omega) hd0
  generalize hd.map PyData.int = HD at h1 ⊢
  have md := oMod_n (a := q) (b := ws.length + 1) (by omega)
  have hlt : q % (ws.length + 1) < ws.length + 1 := Nat.mod_lt _ (by omega)
  have ol := fms_len (l := dueL ws one)
  rw [dueL_len] at ol
  have s : setS [0] 6 (op2 (opN (consM (op2 (fVar 1) (fC (.int 10)) oIx) (retM [])) oInt) (opN (consM (fVar 5) (retM [])) oLen) oMod) [s0, .mu HD, .im (wd ws), s3, .im (enc one), .im (fms (dueL ws one)), s6, s7, s8, s9, s10, s11, s12, s13, s14, s15, s16] = some (.nx, [s0, .mu HD, .im (wd ws), s3, .im (enc one), .im (fms (dueL ws one)), .im (iD (q % (ws.length + 1))), s7, s8, s9, s10, s11, s12, s13, s14, s15, s16]) := by
    have key : op2 (opN (consM (op2 (fVar 1) (fC (.int 10)) oIx) (retM [])) oInt) (opN (consM (fVar 5) (retM [])) oLen) oMod [s0, .mu HD, .im (wd ws), s3, .im (enc one), .im (fms (dueL ws one)), s6, s7, s8, s9, s10, s11, s12, s13, s14, s15, s16] = some (.im (iD (q % (ws.length + 1))), [s0, .mu HD, .im (wd ws), s3, .im (enc one), .im (fms (dueL ws one)), s6, s7, s8, s9, s10, s11, s12, s13, s14, s15, s16]) := by
      refine op2_im (p := iD q) (q := iD (ws.length + 1)) (env1 := [s0, .mu HD, .im (wd ws), s3, .im (enc one), .im (fms (dueL ws one)), s6, s7, s8, s9, s10, s11, s12, s13, s14, s15, s16]) ?_ ?_ md
      · have h1 : oIx (.mu HD) (.im (.int 10)) = some (.im (iD q)) := h1
        have oi : oInt [.im (iD q)] = some (.im (iD q)) := rfl
        generalize iD q = Q at h1 oi ⊢
        generalize fms (dueL ws one) = D
        simp [a_bind, a_ret, a_fVar, a_fC, a_op2, a_opN, a_op1, FN.view, views, frz, a_frM, a_consM, a_tupM, a_lstM, mkT, mkL, a_boolE, evB, a_truE, truM, truSV, a_notM, a_notV, a_andM, a_orM, a_andV, a_orV, a_ifM, a_loM, evI, a_slM, a_setS, store, a_retS, retE, a_setG, a_seqS, a_ifS, retN, a_nxS, a_ite, a_itemsM, itemsOf, SV.dat, SV.asI, SV.asQ, a_enuM, enumM, oAdd, oSub, int1, oLt, oLe, oGt, oGe, List.getElem?_cons_zero, List.getElem?_cons_succ, List.set_cons_zero, List.set_cons_succ, h1, oi]
      · generalize fms (dueL ws one) = D at ol ⊢
        generalize iD (ws.length + 1) = N at ol ⊢
        simp [a_bind, a_ret, a_fVar, a_fC, a_op2, a_opN, a_op1, FN.view, views, frz, a_frM, a_consM, a_tupM, a_lstM, mkT, mkL, a_boolE, evB, a_truE, truM, truSV, a_notM, a_notV, a_andM, a_orM, a_andV, a_orV, a_ifM, a_loM, evI, a_slM, a_setS, store, a_retS, retE, a_setG, a_seqS, a_ifS, retN, a_nxS, a_ite, a_itemsM, itemsOf, SV.dat, SV.asI, SV.asQ, a_enuM, enumM, oAdd, oSub, int1, oLt, oLe, oGt, oGe, List.getElem?_cons_zero, List.getElem?_cons_succ, List.set_cons_zero, List.set_cons_succ, ol]
    exact setS_im (pin := [0]) (i := 6) (by decide) key
  generalize q % (ws.length + 1) = k at s hlt
  refine ⟨.im (iD k), ?_⟩
  rw [seqS_nx s]
  have c1 : callM F_slice_of [] (consM (fVar 4) (consM (fVar 2) (consM (fVar 6) (retM [])))) [s0, .mu HD, .im (wd ws), s3, .im (enc one), .im (fms (dueL ws one)), .im (iD k), s7, s8, s9, s10, s11, s12, s13, s14, s15, s16] = some (.im (enc (form (lotOf one ws k))), [s0, .mu HD, .im (wd ws), s3, .im (enc one), .im (fms (dueL ws one)), .im (iD k), s7, s8, s9, s10, s11, s12, s13, s14, s15, s16]) := call_im [enc one, wd ws, iD k] rfl (slice_of (by have := hg.2; omega) hg.1 hw hl) im_ne
  have hk' : k < (dueL ws one).length := by rw [dueL_len]; exact hlt
  have ix := ixT (f := enc) hk'
  have dok := dueL_ok hw hn (one := one) _ (List.getElem_mem hk')
  rw [dueL_get] at ix dok
  have c2 : op2 (fVar 5) (fVar 6) oIx [s0, .mu HD, .im (wd ws), s3, .im (enc one), .im (fms (dueL ws one)), .im (iD k), s7, s8, s9, s10, s11, s12, s13, s14, s15, s16] = some (.im (enc (form (lotOf one ws k))), [s0, .mu HD, .im (wd ws), s3, .im (enc one), .im (fms (dueL ws one)), .im (iD k), s7, s8, s9, s10, s11, s12, s13, s14, s15, s16]) := op2_im rfl rfl ix
  have c3 := call_im (F := F__law_told_formula) (dds := []) [enc (form (lotOf one ws k)), enc (form (lotOf one ws k))] (consM2 c1 c2) (told_formula dok.1 (by have := dok.2.2; omega)) im_ne
  rw [a_retS, a_bind, c3]
  rfl
end
end K89

namespace K89
open PySem FN
open PySem.PyData (strOk)
theorem manys_ix (v : Nat) (h : v < 12) : ∃ x : Nat, oIx (.mu [.int 2, .int 3, .int 1, .int 4, .int 3, .int 2, .int 0, .int 3, .int 4, .int 4, .int 3, .int 2]) (.im (iD v)) = some (.im (iD x)) := by
  have e : ([.int 2, .int 3, .int 1, .int 4, .int 3, .int 2, .int 0, .int 3, .int 4, .int 4, .int 3, .int 2] : List PyData) = ([2, 3, 1, 4, 3, 2, 0, 3, 4, 4, 3, 2] : List Nat).map iD := rfl
  rw [e]
  have hl : v < ([2, 3, 1, 4, 3, 2, 0, 3, 4, 4, 3, 2] : List Nat).length := h
  exact ⟨_, ixM (f := iD) hl⟩
theorem math (ns : List Int) (h : ns.length ≤ 63) : ∃ svs, F_law [.im (.list (ns.map PyData.int))] = some (.im (.bool true), svs) := by
  generalize hS : PyData.list (ns.map PyData.int) = S
  suffices hf : ∃ env', f_law ([.im S] ++ List.replicate 16 .no) = some (.rt (.im (.bool true)), env') by
    obtain ⟨env', hf⟩ := hf
    exact ⟨_, fn_rt (n := 1) (m := 16) (pin := [0]) hf rfl rfl im_ne⟩
  show ∃ env', f_law [.im S, .no, .no, .no, .no, .no, .no, .no, .no, .no, .no, .no, .no, .no, .no, .no, .no] = some (.rt (.im (.bool true)), env')
  have hS' : ∀ env : FEnv, env[0]? = some (.im S) → env[0]? = some (.im (.list (ns.map PyData.int))) := fun env h => by rw [hS]; exact h
  -- head
  obtain ⟨hd, dh, c1⟩ := dig_call ns (sizes := [12, 9] ++ List.replicate 10 60) (by decide) (by decide) (j := 0) (by omega) (env := [.im S, .no, .no, .no, .no, .no, .no, .no, .no, .no, .no, .no, .no, .no, .no, .no, .no]) (i := 0) (hS' _ rfl) (g := op2 (lstM (consM (frM (fC (.int 12))) (consM (frM (fC (.int 9))) (retM [])))) (op2 (lstM (consM (frM (fC (.int 60))) (retM []))) (fC (.int 10)) oMul) oAdd) rfl
  have s1 := setS_own (pin := [0]) (i := 1) (by decide) c1
  have hd0 := dh.nonneg
  have hdl : hd.length = 12 := dh.1
  obtain ⟨n0, hn0⟩ := Int.eq_ofNat_of_zero_le (hd0 hd[0] (List.getElem_mem (by omega)))
  have hn0' := (dh.2 0 hd[0] 12 (List.getElem?_eq_getElem (by omega)) rfl).2
  have i0 := ixM (f := PyData.int) (l := hd) (k := 0) (by omega)
  have i1 := ixM (f := PyData.int) (l := hd) (k := 1) (by omega)
  rw [hn0] at i0 hn0'
  obtain ⟨mn, im⟩ := manys_ix n0 (by omega)
  obtain ⟨m, hm, hW⟩ := law_words hd[1] mn
  obtain ⟨hw, hn, hl⟩ := menu_ok hm mn
  generalize m.take mn = ws at hW hw hn hl
  have s1 : setS [0] 1 (callM F__law_digits [] (consM (callM F__law_cell [] (consM (fVar 0) (consM (fC (.int 0)) (retM [])))) (consM (op2 (lstM (consM (frM (fC (.int 12))) (consM (frM (fC (.int 9))) (retM [])))) (op2 (lstM (consM (frM (fC (.int 60))) (retM []))) (fC (.int 10)) oMul) oAdd) (retM [])))) [.im S, .no, .no, .no, .no, .no, .no, .no, .no, .no, .no, .no, .no, .no, .no, .no, .no] = some (.nx, [.im S, .mu (hd.map PyData.int), .no, .no, .no, .no, .no, .no, .no, .no, .no, .no, .no, .no, .no, .no, .no]) := s1
  -- words
  have c2 : callM F__law_words [] (consM (op2 (fVar 1) (fC (.int 1)) oIx) (consM (op2 (lstM (consM (frM (fC (.int 2))) (consM (frM (fC (.int 3))) (consM (frM (fC (.int 1))) (consM (frM (fC (.int 4))) (consM (frM (fC (.int 3))) (consM (frM (fC (.int 2))) (consM (frM (fC (.int 0))) (consM (frM (fC (.int 3))) (consM (frM (fC (.int 4))) (consM (frM (fC (.int 4))) (consM (frM (fC (.int 3))) (consM (frM (fC (.int 2))) (retM [])))))))))))))) (op2 (fVar 1) (fC (.int 0)) oIx) oIx) (retM []))) [.im S, .mu (hd.map PyData.int), .no, .no, .no, .no, .no, .no, .no, .no, .no, .no, .no, .no, .no, .no, .no] = some (.im (wd ws), [.im S, .mu (hd.map PyData.int), .no, .no, .no, .no, .no, .no, .no, .no, .no, .no, .no, .no, .no, .no, .no]) := by
    refine call_im [.int hd[1], iD mn] (consM2 (x := .im (.int hd[1])) (y := .im (iD mn)) (env1 := [.im S, .mu (hd.map PyData.int), .no, .no, .no, .no, .no, .no, .no, .no, .no, .no, .no, .no, .no, .no, .no]) ?_ ?_) hW im_ne
    · have i1 : oIx (.mu (hd.map PyData.int)) (.im (.int 1)) = some (.im (.int hd[1])) := i1
      generalize hd.map PyData.int = HD at i1 ⊢
      generalize hd[1] = d1 at i1 ⊢
      simp [a_bind, a_ret, a_fVar, a_fC, a_op2, a_opN, a_op1, FN.view, views, frz, a_frM, a_consM, a_tupM, a_lstM, mkT, mkL, a_boolE, evB, a_truE, truM, truSV, a_notM, a_notV, a_andM, a_orM, a_andV, a_orV, a_ifM, a_loM, evI, a_slM, a_setS, store, a_retS, retE, a_setG, a_seqS, a_ifS, retN, a_nxS, a_ite, a_itemsM, itemsOf, SV.dat, SV.asI, SV.asQ, a_enuM, enumM, oAdd, oSub, int1, oLt, oLe, oGt, oGe, List.getElem?_cons_zero, List.getElem?_cons_succ, List.set_cons_zero, List.set_cons_succ, i1]
    · have i0 : oIx (.mu (hd.map PyData.int)) (.im (.int 0)) = some (.im (iD n0)) := i0
      generalize hd.map PyData.int = HD at i0 ⊢
      generalize iD n0 = N0 at i0 im
      generalize iD mn = MN at im ⊢
      simp [a_bind, a_ret, a_fVar, a_fC, a_op2, a_opN, a_op1, FN.view, views, frz, a_frM, a_consM, a_tupM, a_lstM, mkT, mkL, a_boolE, evB, a_truE, truM, truSV, a_notM, a_notV, a_andM, a_orM, a_andV, a_orV, a_ifM, a_loM, evI, a_slM, a_setS, store, a_retS, retE, a_setG, a_seqS, a_ifS, retN, a_nxS, a_ite, a_itemsM, itemsOf, SV.dat, SV.asI, SV.asQ, a_enuM, enumM, oAdd, oSub, int1, oLt, oLe, oGt, oGe, List.getElem?_cons_zero, List.getElem?_cons_succ, List.set_cons_zero, List.set_cons_succ, i0, im, sz 12]
  have s2 := setS_im (pin := [0]) (i := 2) (by decide) c2
  -- worlds
  have c3 : callM F__law_all [] (consM (fVar 2) (retM [])) [.im S, .mu (hd.map PyData.int), .im (wd ws), .no, .no, .no, .no, .no, .no, .no, .no, .no, .no, .no, .no, .no, .no] = some (.own ((worlds ws).map wd), [.im S, .mu (hd.map PyData.int), .im (wd ws), .no, .no, .no, .no, .no, .no, .no, .no, .no, .no, .no, .no, .no, .no]) := call_im [wd ws] rfl (law_all (by omega)) own_ne
  have s3 := setS_own (pin := [0]) (i := 3) (by decide) c3
  -- one
  obtain ⟨one, svs, hg, hO⟩ := law_one ns hw hl
  rw [hS] at hO
  have c4 : callM F__law_one [] (consM (fVar 0) (consM (fVar 2) (retM []))) [.im S, .mu (hd.map PyData.int), .im (wd ws), .mu ((worlds ws).map wd), .no, .no, .no, .no, .no, .no, .no, .no, .no, .no, .no, .no, .no] = some (.im (enc one), [.im S, .mu (hd.map PyData.int), .im (wd ws), .mu ((worlds ws).map wd), .no, .no, .no, .no, .no, .no, .no, .no, .no, .no, .no, .no, .no]) := call_im [S, wd ws] rfl hO im_ne
  have s4 := setS_im (pin := [0]) (i := 4) (by decide) c4
  -- due
  have s5 : setS [0] 5 (lstM (retM [])) [.im S, .mu (hd.map PyData.int), .im (wd ws), .mu ((worlds ws).map wd), .im (enc one), .no, .no, .no, .no, .no, .no, .no, .no, .no, .no, .no, .no] = some (.nx, [.im S, .mu (hd.map PyData.int), .im (wd ws), .mu ((worlds ws).map wd), .im (enc one), .mu [], .no, .no, .no, .no, .no, .no, .no, .no, .no, .no, .no]) := setS_own (pin := [0]) (i := 5) (by decide) (rfl : lstM (retM []) [.im S, .mu (hd.map PyData.int), .im (wd ws), .mu ((worlds ws).map wd), .im (enc one), .no, .no, .no, .no, .no, .no, .no, .no, .no, .no, .no, .no] = some (.own [], [.im S, .mu (hd.map PyData.int), .im (wd ws), .mu ((worlds ws).map wd), .im (enc one), .no, .no, .no, .no, .no, .no, .no, .no, .no, .no, .no, .no]))
  obtain ⟨t3, t6, t15, ht3, ht6, ht15, s6⟩ := due_loop (s0 := .im S) (s1 := .mu (hd.map PyData.int)) (s3 := .mu ((worlds ws).map wd)) (s6 := .no) (s8 := .no) (s9 := .no) (s10 := .no) (s11 := .no) (s12 := .no) (s13 := .no) (s14 := .no) (s15 := .no) (s16 := .no) hw hl hg (.inr rfl) (.inl rfl) (.inl rfl)
  rw [fms_dueL hn] at s6
  have s7 : setS [0] 5 (opN (consM (fVar 5) (retM [])) oTuple) [.im S, .mu (hd.map PyData.int), .im (wd ws), t3, .im (enc one), .mu ((dueL ws one).map enc), t6, .no, .no, .no, .no, .no, .no, .no, .no, t15, .no] = some (.nx, [.im S, .mu (hd.map PyData.int), .im (wd ws), t3, .im (enc one), .im (fms (dueL ws one)), t6, .no, .no, .no, .no, .no, .no, .no, .no, t15, .no]) := setS_im (pin := [0]) (i := 5) (by decide) (rfl : opN (consM (fVar 5) (retM [])) oTuple [.im S, .mu (hd.map PyData.int), .im (wd ws), t3, .im (enc one), .mu ((dueL ws one).map enc), t6, .no, .no, .no, .no, .no, .no, .no, .no, t15, .no] = some (.im (fms (dueL ws one)), [.im S, .mu (hd.map PyData.int), .im (wd ws), t3, .im (enc one), .mu ((dueL ws one).map enc), t6, .no, .no, .no, .no, .no, .no, .no, .no, t15, .no]))
  obtain ⟨u6, hu6, s8⟩ := told_loop (s0 := .im S) (s1 := .mu (hd.map PyData.int)) (s3 := t3) (s6 := t6) (s7 := .no) (s8 := .no) (s9 := .no) (s10 := .no) (s11 := .no) (s12 := .no) (s13 := .no) (s14 := .no) (s15 := t15) (s16 := .no) hw hn hl hg ht6
  have s9 := row_test (s0 := .im S) (s1 := .mu (hd.map PyData.int)) (s3 := t3) (s6 := u6) (s7 := .no) (s8 := .no) (s9 := .no) (s10 := .no) (s11 := .no) (s12 := .no) (s13 := .no) (s14 := .no) (s15 := t15) (s16 := .no) hw hn hl hg
  obtain ⟨t7, s10⟩ := due_on (s0 := .im S) (s1 := .mu (hd.map PyData.int)) (s3 := t3) (s6 := u6) (s7 := .no) (s8 := .no) (s9 := .no) (s10 := .no) (s11 := .no) (s12 := .no) (s13 := .no) (s14 := .no) (s15 := t15) (s16 := .no) hw hn hg ht3
  -- bits, ways, lots
  obtain ⟨bits, db, cb⟩ := dig_call ns (sizes := List.replicate 16 2) (by decide) (by decide) (j := 3) (by omega) (env := [.im S, .mu (hd.map PyData.int), .im (wd ws), .im (lst (worlds ws)), .im (enc one), .im (fms (dueL ws one)), u6, t7, .no, .no, .no, .no, .no, .no, .no, t15, .no]) (i := 0) (hS' _ rfl) (mul2 _)
  have s11 := setS_own (pin := [0]) (i := 8) (by decide) cb
  obtain ⟨ways, dw, cw⟩ := dig_call ns (sizes := List.replicate 5 4) (by decide) (by decide) (j := 4) (by omega) (env := [.im S, .mu (hd.map PyData.int), .im (wd ws), .im (lst (worlds ws)), .im (enc one), .im (fms (dueL ws one)), u6, t7, .mu (bits.map PyData.int), .no, .no, .no, .no, .no, .no, t15, .no]) (i := 0) (hS' _ rfl) (g := op2 (lstM (consM (frM (fC (.int 4))) (retM []))) (fC (.int 5)) oMul) rfl
  have s12 := setS_own (pin := [0]) (i := 9) (by decide) cw
  have cl : callM F__law_lots [] (consM (fVar 2) (consM (fVar 8) (retM []))) [.im S, .mu (hd.map PyData.int), .im (wd ws), .im (lst (worlds ws)), .im (enc one), .im (fms (dueL ws one)), u6, t7, .mu (bits.map PyData.int), .mu (ways.map PyData.int), .no, .no, .no, .no, .no, t15, .no] = some (.own (LTd ws bits), [.im S, .mu (hd.map PyData.int), .im (wd ws), .im (lst (worlds ws)), .im (enc one), .im (fms (dueL ws one)), u6, t7, .mu (bits.map PyData.int), .mu (ways.map PyData.int), .no, .no, .no, .no, .no, t15, .no]) := by
    have hF := law_lots hw hn hl (bits := bits) (by rw [db.1]; rfl)
    generalize bits.map PyData.int = B at hF ⊢
    exact callM_im (dds := []) (env1 := [.im S, .mu (hd.map PyData.int), .im (wd ws), .im (lst (worlds ws)), .im (enc one), .im (fms (dueL ws one)), u6, t7, .mu B, .mu (ways.map PyData.int), .no, .no, .no, .no, .no, t15, .no]) (es := [.im (wd ws), .slot 8]) rfl rfl (by show List.Nodup [8]; simp) hF own_ne
  have s13 := setS_own (pin := [0]) (i := 10) (by decide) cl
  -- row
  have cr := row_make (s0 := .im S) (s1 := .mu (hd.map PyData.int)) (s3 := .im (lst (worlds ws))) (s4 := .im (enc one)) (s5 := .im (fms (dueL ws one))) (s6 := u6) (s7 := t7) (s8 := .mu (bits.map PyData.int)) (s11 := .no) (s12 := .no) (s13 := .no) (s14 := .no) (s15 := t15) (s16 := .no) hw hl (bits := bits) dw hu6
  have s14 := setS_im (pin := [0]) (i := 11) (by decide) cr
  have rok := rowL_ok hw (bits := bits) (ways := ways)
  have rlen := rowL_len (ws := ws) (bits := bits) (ways := ways)
  have s15 := ifS_nx (f := retS [0] (fC (.bool false))) (are_true (env := [.im S, .mu (hd.map PyData.int), .im (wd ws), .im (lst (worlds ws)), .im (enc one), .im (fms (dueL ws one)), u6, t7, .mu (bits.map PyData.int), .mu (ways.map PyData.int), .mu (LTd ws bits), .im (fms (rowL ws bits ways)), .no, .no, .no, t15, .no]) (a := 11) rfl rfl (fun m hm => (rok m hm).2) hw hl (by omega) (fits_rowL hn))
  -- spoilt rows
  obtain ⟨t12, t16, s16⟩ := spoilt_loop (s0 := .im S) (s3 := .im (lst (worlds ws))) (s4 := .im (enc one)) (s5 := .im (fms (dueL ws one))) (s6 := u6) (s7 := t7) (s8 := .mu (bits.map PyData.int)) (s9 := .mu (ways.map PyData.int)) (s12 := .no) (s13 := .no) (s14 := .no) (s15 := t15) (s16 := .no) hw hl (bits := bits) (ways := ways) hdl hd0
  have s17 : setS [0] 13 (lstM (retM [])) [.im S, .mu (hd.map PyData.int), .im (wd ws), .im (lst (worlds ws)), .im (enc one), .im (fms (dueL ws one)), u6, t7, .mu (bits.map PyData.int), .mu (ways.map PyData.int), .mu (LTd ws bits), .im (fms (rowL ws bits ways)), t12, .no, .no, t15, t16] = some (.nx, [.im S, .mu (hd.map PyData.int), .im (wd ws), .im (lst (worlds ws)), .im (enc one), .im (fms (dueL ws one)), u6, t7, .mu (bits.map PyData.int), .mu (ways.map PyData.int), .mu (LTd ws bits), .im (fms (rowL ws bits ways)), t12, .mu [], .no, t15, t16]) := setS_own (pin := [0]) (i := 13) (by decide) (rfl : lstM (retM []) [.im S, .mu (hd.map PyData.int), .im (wd ws), .im (lst (worlds ws)), .im (enc one), .im (fms (dueL ws one)), u6, t7, .mu (bits.map PyData.int), .mu (ways.map PyData.int), .mu (LTd ws bits), .im (fms (rowL ws bits ways)), t12, .no, .no, t15, t16] = some (.own [], [.im S, .mu (hd.map PyData.int), .im (wd ws), .im (lst (worlds ws)), .im (enc one), .im (fms (dueL ws one)), u6, t7, .mu (bits.map PyData.int), .mu (ways.map PyData.int), .mu (LTd ws bits), .im (fms (rowL ws bits ways)), t12, .no, .no, t15, t16]))
  obtain ⟨w6, s18⟩ := terms_loop (s0 := .im S) (s1 := .mu (hd.map PyData.int)) (s3 := .im (lst (worlds ws))) (s4 := .im (enc one)) (s5 := .im (fms (dueL ws one))) (s6 := u6) (s7 := t7) (s8 := .mu (bits.map PyData.int)) (s9 := .mu (ways.map PyData.int)) (s10 := .mu (LTd ws bits)) (s12 := t12) (s14 := .no) (s15 := t15) (s16 := t16) hl (R := rowL ws bits ways) (by omega)
  have s19 := setS_im (pin := [0]) (i := 14) (by decide) (whole_call (env := [.im S, .mu (hd.map PyData.int), .im (wd ws), .im (lst (worlds ws)), .im (enc one), .im (fms (dueL ws one)), w6, t7, .mu (bits.map PyData.int), .mu (ways.map PyData.int), .mu (LTd ws bits), .im (fms (rowL ws bits ways)), t12, .mu ((enumF 0 (rowL ws bits ways)).map fun p => enc (uterm ws p)), .no, t15, t16]) hw hl (R := rowL ws bits ways) (by omega) rfl rfl)
  have s20 := whole_test (s0 := .im S) (s1 := .mu (hd.map PyData.int)) (s3 := .im (lst (worlds ws))) (s4 := .im (enc one)) (s5 := .im (fms (dueL ws one))) (s6 := w6) (s7 := t7) (s8 := .mu (bits.map PyData.int)) (s9 := .mu (ways.map PyData.int)) (s10 := .mu (LTd ws bits)) (s12 := t12) (s15 := t15) (s16 := t16) hw hl (R := rowL ws bits ways) (by omega) rok
  obtain ⟨x7, s21⟩ := whole_loop (s0 := .im S) (s1 := .mu (hd.map PyData.int)) (s3 := .im (lst (worlds ws))) (s4 := .im (enc one)) (s5 := .im (fms (dueL ws one))) (s6 := w6) (s7 := t7) (s8 := .mu (bits.map PyData.int)) (s9 := .mu (ways.map PyData.int)) (s10 := .mu (LTd ws bits)) (s12 := t12) (s13 := .mu ((enumF 0 (rowL ws bits ways)).map fun p => enc (uterm ws p))) (s15 := t15) (s16 := t16) hw hn hl (bits := bits) (ways := ways) (.inl rfl)
  have s22 := back_test (s0 := .im S) (s1 := .mu (hd.map PyData.int)) (s3 := .im (lst (worlds ws))) (s4 := .im (enc one)) (s5 := .im (fms (dueL ws one))) (s6 := w6) (s7 := x7) (s8 := .mu (bits.map PyData.int)) (s9 := .mu (ways.map PyData.int)) (s11 := .im (fms (rowL ws bits ways))) (s12 := t12) (s13 := .mu ((enumF 0 (rowL ws bits ways)).map fun p => enc (uterm ws p))) (s15 := t15) (s16 := t16) hw hn hl (bits := bits) (ways := ways) ht15
  obtain ⟨y6, s23⟩ := law_end (s0 := .im S) (s3 := .im (lst (worlds ws))) (s6 := w6) (s7 := x7) (s8 := .mu (bits.map PyData.int)) (s9 := .mu (ways.map PyData.int)) (s10 := .im (.list (LTd ws bits))) (s11 := .im (fms (rowL ws bits ways))) (s12 := t12) (s13 := .mu ((enumF 0 (rowL ws bits ways)).map fun p => enc (uterm ws p))) (s14 := .im (enc (whole (rowL ws bits ways) ws))) (s15 := t15) (s16 := t16) hw hn hl hg hdl hd0
  refine ⟨[.im S, .mu (hd.map PyData.int), .im (wd ws), .im (lst (worlds ws)), .im (enc one), .im (fms (dueL ws one)), y6, x7, .mu (bits.map PyData.int), .mu (ways.map PyData.int), .im (.list (LTd ws bits)), .im (fms (rowL ws bits ways)), t12, .mu ((enumF 0 (rowL ws bits ways)).map fun p => enc (uterm ws p)), .im (enc (whole (rowL ws bits ways) ws)), t15, t16], ?_⟩
  rw [f_law]
  refine (seqS_nx s1).trans ?_
  refine (seqS_nx s2).trans ?_
  refine (seqS_nx s3).trans ?_
  refine (seqS_nx s4).trans ?_
  refine (seqS_nx s5).trans ?_
  refine (seqS_nx s6).trans ?_
  refine (seqS_nx s7).trans ?_
  refine (seqS_nx s8).trans ?_
  refine (seqS_nx s9).trans ?_
  refine (seqS_nx s10).trans ?_
  refine (seqS_nx s11).trans ?_
  refine (seqS_nx s12).trans ?_
  refine (seqS_nx s13).trans ?_
  refine (seqS_nx s14).trans ?_
  refine (seqS_nx s15).trans ?_
  refine (seqS_nx s16).trans ?_
  refine (seqS_nx s17).trans ?_
  refine (seqS_nx s18).trans ?_
  refine (seqS_nx s19).trans ?_
  refine (seqS_nx s20).trans ?_
  refine (seqS_nx s21).trans ?_
  refine (seqS_nx s22).trans ?_
  exact s23
end K89


/-! The head and the end (printed) -/
namespace K89
open PySem PySem.Spec PyProof.Rows L2 FN GX GxR
def d_is_name : He.DefD := ⟨("is_name", none), "is_name", "is_name", defArgs s_is_name, defBody s_is_name, defScope s_is_name, [], []⟩
def d_make_atom : He.DefD := ⟨("make_atom", none), "make_atom", "make_atom", defArgs s_make_atom, defBody s_make_atom, defScope s_make_atom, [], []⟩
def d_at_least : He.DefD := ⟨("at_least", none), "at_least", "at_least", defArgs s_at_least, defBody s_at_least, defScope s_at_least, [], []⟩
def d_is_on : He.DefD := ⟨("is_on", none), "is_on", "is_on", defArgs s_is_on, defBody s_is_on, defScope s_is_on, [], []⟩
def d_is_below : He.DefD := ⟨("is_below", none), "is_below", "is_below", defArgs s_is_below, defBody s_is_below, defScope s_is_below, [], []⟩
def d_all_worlds : He.DefD := ⟨("all_worlds", none), "all_worlds", "all_worlds", defArgs s_all_worlds, defBody s_all_worlds, defScope s_all_worlds, [], []⟩
def d_signature_of : He.DefD := ⟨("signature_of", none), "signature_of", "signature_of", defArgs s_signature_of, defBody s_signature_of, defScope s_signature_of, [], []⟩
def d_least_of : He.DefD := ⟨("least_of", none), "least_of", "least_of", defArgs s_least_of, defBody s_least_of, defScope s_least_of, [], []⟩
def d_world_term : He.DefD := ⟨("world_term", none), "world_term", "world_term", defArgs s_world_term, defBody s_world_term, defScope s_world_term, [], []⟩
def d_form_of : He.DefD := ⟨("form_of", none), "form_of", "form_of", defArgs s_form_of, defBody s_form_of, defScope s_form_of, [.adr (He.dflAt ("form_of", none) 0)], []⟩
def d_slice_is_on : He.DefD := ⟨("slice_is_on", none), "slice_is_on", "slice_is_on", defArgs s_slice_is_on, defBody s_slice_is_on, defScope s_slice_is_on, [], []⟩
def d_slice_of : He.DefD := ⟨("slice_of", none), "slice_of", "slice_of", defArgs s_slice_of, defBody s_slice_of, defScope s_slice_of, [], []⟩
def d_slices_of : He.DefD := ⟨("slices_of", none), "slices_of", "slices_of", defArgs s_slices_of, defBody s_slices_of, defScope s_slices_of, [], []⟩
def d_can_be_slice : He.DefD := ⟨("can_be_slice", none), "can_be_slice", "can_be_slice", defArgs s_can_be_slice, defBody s_can_be_slice, defScope s_can_be_slice, [], []⟩
def d_are_slices : He.DefD := ⟨("are_slices", none), "are_slices", "are_slices", defArgs s_are_slices, defBody s_are_slices, defScope s_are_slices, [], []⟩
def d_unslice : He.DefD := ⟨("unslice", none), "unslice", "unslice", defArgs s_unslice, defBody s_unslice, defScope s_unslice, [], []⟩
def d__law_cell : He.DefD := ⟨("_law_cell", none), "_law_cell", "_law_cell", defArgs s__law_cell, defBody s__law_cell, defScope s__law_cell, [], []⟩
def d__law_digits : He.DefD := ⟨("_law_digits", none), "_law_digits", "_law_digits", defArgs s__law_digits, defBody s__law_digits, defScope s__law_digits, [], []⟩
def d__law_take : He.DefD := ⟨("_law_take", none), "_law_take", "_law_take", defArgs s__law_take, defBody s__law_take, defScope s__law_take, [], []⟩
def d__law_words : He.DefD := ⟨("_law_words", none), "_law_words", "_law_words", defArgs s__law_words, defBody s__law_words, defScope s__law_words, [], []⟩
def d__law_all : He.DefD := ⟨("_law_all", none), "_law_all", "_law_all", defArgs s__law_all, defBody s__law_all, defScope s__law_all, [], []⟩
def d__law_below : He.DefD := ⟨("_law_below", none), "_law_below", "_law_below", defArgs s__law_below, defBody s__law_below, defScope s__law_below, [], []⟩
def d__law_on : He.DefD := ⟨("_law_on", none), "_law_on", "_law_on", defArgs s__law_on, defBody s__law_on, defScope s__law_on, [], []⟩
def d__law_is_name : He.DefD := ⟨("_law_is_name", none), "_law_is_name", "_law_is_name", defArgs s__law_is_name, defBody s__law_is_name, defScope s__law_is_name, [], []⟩
def d__law_is_formula : He.DefD := ⟨("_law_is_formula", none), "_law_is_formula", "_law_is_formula", defArgs s__law_is_formula, defBody s__law_is_formula, defScope s__law_is_formula, [], []⟩
def d__law_positive : He.DefD := ⟨("_law_positive", none), "_law_positive", "_law_positive", defArgs s__law_positive, defBody s__law_positive, defScope s__law_positive, [], []⟩
def d__law_formula : He.DefD := ⟨("_law_formula", none), "_law_formula", "_law_formula", defArgs s__law_formula, defBody s__law_formula, defScope s__law_formula, [], []⟩
def d__law_tower : He.DefD := ⟨("_law_tower", none), "_law_tower", "_law_tower", defArgs s__law_tower, defBody s__law_tower, defScope s__law_tower, [], []⟩
def d__law_exactly : He.DefD := ⟨("_law_exactly", none), "_law_exactly", "_law_exactly", defArgs s__law_exactly, defBody s__law_exactly, defScope s__law_exactly, [], []⟩
def d__law_form : He.DefD := ⟨("_law_form", none), "_law_form", "_law_form", defArgs s__law_form, defBody s__law_form, defScope s__law_form, [], []⟩
def d__law_by_bits : He.DefD := ⟨("_law_by_bits", none), "_law_by_bits", "_law_by_bits", defArgs s__law_by_bits, defBody s__law_by_bits, defScope s__law_by_bits, [], []⟩
def d__law_grown : He.DefD := ⟨("_law_grown", none), "_law_grown", "_law_grown", defArgs s__law_grown, defBody s__law_grown, defScope s__law_grown, [], []⟩
def d__law_fit : He.DefD := ⟨("_law_fit", none), "_law_fit", "_law_fit", defArgs s__law_fit, defBody s__law_fit, defScope s__law_fit, [], []⟩
def d__law_row_fits : He.DefD := ⟨("_law_row_fits", none), "_law_row_fits", "_law_row_fits", defArgs s__law_row_fits, defBody s__law_row_fits, defScope s__law_row_fits, [], []⟩
def d__law_at_least : He.DefD := ⟨("_law_at_least", none), "_law_at_least", "_law_at_least", defArgs s__law_at_least, defBody s__law_at_least, defScope s__law_at_least, [], []⟩
def d__law_told_formula : He.DefD := ⟨("_law_told_formula", none), "_law_told_formula", "_law_told_formula", defArgs s__law_told_formula, defBody s__law_told_formula, defScope s__law_told_formula, [], []⟩
def d__law_told_row : He.DefD := ⟨("_law_told_row", none), "_law_told_row", "_law_told_row", defArgs s__law_told_row, defBody s__law_told_row, defScope s__law_told_row, [], []⟩
def d__law_lots : He.DefD := ⟨("_law_lots", none), "_law_lots", "_law_lots", defArgs s__law_lots, defBody s__law_lots, defScope s__law_lots, [], []⟩
def d__law_spoilt : He.DefD := ⟨("_law_spoilt", none), "_law_spoilt", "_law_spoilt", defArgs s__law_spoilt, defBody s__law_spoilt, defScope s__law_spoilt, [], []⟩
def d__law_one : He.DefD := ⟨("_law_one", none), "_law_one", "_law_one", defArgs s__law_one, defBody s__law_one, defScope s__law_one, [], []⟩
def d_law : He.DefD := ⟨("law", none), "law", "law", defArgs s_law, defBody s_law, defScope s_law, [], []⟩
def fn : List He.DefD := (([d_is_name, d_make_atom, d_at_least, d_is_on, d_is_below, d_all_worlds, d_signature_of, d_least_of, d_world_term, d_form_of, d_slice_is_on, d_slice_of, d_slices_of, d_can_be_slice, d_are_slices, d_unslice, d__law_cell, d__law_digits, d__law_take, d__law_words, d__law_all, d__law_below, d__law_on, d__law_is_name, d__law_is_formula, d__law_positive, d__law_formula, d__law_tower, d__law_exactly, d__law_form] : List He.DefD)) ++ (([d__law_by_bits, d__law_grown, d__law_fit, d__law_row_fits, d__law_at_least, d__law_told_formula, d__law_told_row, d__law_lots, d__law_spoilt, d__law_one, d_law] : List He.DefD))
def fa : List He.Fa := (([.glo "is_name", .glo "make_atom", .glo "at_least", .glo "is_on", .glo "is_below", .glo "all_worlds", .glo "signature_of", .glo "least_of", .glo "world_term", .glo "form_of", .glo "slice_is_on", .glo "slice_of", .glo "slices_of", .glo "can_be_slice", .glo "are_slices", .glo "unslice", .glo "_law_cell", .glo "_law_digits", .glo "_law_take", .glo "_law_words", .glo "_law_all", .glo "_law_below", .glo "_law_on", .glo "_law_is_name", .glo "_law_is_formula", .glo "_law_positive", .glo "_law_formula", .glo "_law_tower", .glo "_law_exactly", .glo "_law_form"] : List He.Fa)) ++ (([.glo "_law_by_bits", .glo "_law_grown", .glo "_law_fit", .glo "_law_row_fits", .glo "_law_at_least", .glo "_law_told_formula", .glo "_law_told_row", .glo "_law_lots", .glo "_law_spoilt", .glo "_law_one", .glo "law", .free "all", .free "any", .free "bool", .free "enumerate", .free "int", .free "isinstance", .free "len", .free "list", .free "min", .free "range", .free "str", .free "tuple"] : List He.Fa))
def names : List Str := ((["NevernotError", "BadName", "SURE", "NEVER", "RESERVED", "LETTERS", "NAME_CHARACTERS", "is_name", "make_atom", "at_least", "is_on", "is_below", "all_worlds", "signature_of", "least_of", "world_term", "form_of", "slice_is_on", "slice_of", "slices_of", "can_be_slice", "are_slices", "unslice", "_law_cell", "_law_digits", "_law_take", "_law_words", "_law_all", "_law_below", "_law_on"] : List Str)) ++ ((["_law_is_name", "_law_is_formula", "_law_positive", "_law_formula", "_law_tower", "_law_exactly", "_law_form", "_law_by_bits", "_law_grown", "_law_fit", "_law_row_fits", "_law_at_least", "_law_told_formula", "_law_told_row", "_law_lots", "_law_spoilt", "_law_one"] : List Str))
def tf : List He.Defn := [("is_name", none), ("is_on", none), ("is_below", none)]
def ex (K : PySem.W.Frag) : Bool := (conB K ("LETTERS", c_LETTERS) && conB K ("NAME_CHARACTERS", c_NAME_CHARACTERS) && conB K ("NEVER", c_NEVER) && conB K ("RESERVED", c_RESERVED) && conB K ("SURE", c_SURE) && repB K (.tuple []) (.ref (He.dflAt ("form_of", none) 0 K)) && true)
abbrev R : PySem.W.OpenRow := PySem.W.OpenLaw.row PySem.Challenge.rw_nevernot_k89_slices_there_and_back
abbrev hk : PySem.W.Hook := He.hookX 4 fa fn [] tf ex
def ob (s : PySem.W.SharedT) : He.AlX := He.obsX 4 fa fn [] tf ex (HandSHeadRun.getT s)
theorem ob_eq (s : PySem.W.SharedT) : ob s = hk.obs s.abs := He.obsX_eq (HandSHeadRun.getT_eq s)
theorem run (w : World) : HandSHeadRun.RunEq R (PySem.W.view R.prog [54]) hk ob 5000 names w := by
  intro os
  kernel_rfl
theorem tx {w : World} {K : PySem.W.Frag} {h base : Heap} {mg : Str → Option Value} (X : K.In h) (G : h.Ns mainGlobals mg) (c : He.SaysX fa fn [] tf ex w h K)
    (TB : ∀ p ∈ tf.map (He.cT K), GxR.TabB base mg p.1 p.2) : TX K mg base ((tf.map (He.cT K)).map (·.2)) := by
  have D : He.SaysD fa fn K := c.t.d
  have fact : ∀ f : He.Fa, f ∈ fa → f.ok K = true := fun f hf => D.facts hf
  have defs : ∀ d : He.DefD, d ∈ fn → ∃ fd, FunD K d.name d.qual d.params d.body d.scope (d.dvs K) (d.kws K) (He.fAd K d.at_) fd := fun d hd => D.defs hd
  have e := c.more
  unfold ex at e
  simp only [Bool.and_eq_true, Bool.and_true] at e
  exact ⟨(He.free_ok X G (fact (.free "all") (List.mem_of_getElem? (i := 41) rfl))),
    (He.free_ok X G (fact (.free "any") (List.mem_of_getElem? (i := 42) rfl))),
    (He.free_ok X G (fact (.free "bool") (List.mem_of_getElem? (i := 43) rfl))),
    (He.free_ok X G (fact (.free "enumerate") (List.mem_of_getElem? (i := 44) rfl))),
    (He.free_ok X G (fact (.free "int") (List.mem_of_getElem? (i := 45) rfl))),
    (He.free_ok X G (fact (.free "isinstance") (List.mem_of_getElem? (i := 46) rfl))),
    (He.free_ok X G (fact (.free "len") (List.mem_of_getElem? (i := 47) rfl))),
    (He.free_ok X G (fact (.free "list") (List.mem_of_getElem? (i := 48) rfl))),
    (He.free_ok X G (fact (.free "min") (List.mem_of_getElem? (i := 49) rfl))),
    (He.free_ok X G (fact (.free "range") (List.mem_of_getElem? (i := 50) rfl))),
    (He.free_ok X G (fact (.free "str") (List.mem_of_getElem? (i := 51) rfl))),
    (He.free_ok X G (fact (.free "tuple") (List.mem_of_getElem? (i := 52) rfl))),
    (con_ok X G (p := ("LETTERS", c_LETTERS)) (e.1.1.1.1.1)),
    (con_ok X G (p := ("NAME_CHARACTERS", c_NAME_CHARACTERS)) (e.1.1.1.1.2)),
    (con_ok X G (p := ("NEVER", c_NEVER)) (e.1.1.1.2)),
    (con_ok X G (p := ("RESERVED", c_RESERVED)) (e.1.1.2)),
    (con_ok X G (p := ("SURE", c_SURE)) (e.1.2)),
    (defs d_is_name (List.mem_of_getElem? (i := 0) rfl)),
    (He.glo_ok X G (fact (.glo "is_name") (List.mem_of_getElem? (i := 0) rfl))),
    (defs d_make_atom (List.mem_of_getElem? (i := 1) rfl)),
    (He.glo_ok X G (fact (.glo "make_atom") (List.mem_of_getElem? (i := 1) rfl))),
    (defs d_at_least (List.mem_of_getElem? (i := 2) rfl)),
    (He.glo_ok X G (fact (.glo "at_least") (List.mem_of_getElem? (i := 2) rfl))),
    (defs d_is_on (List.mem_of_getElem? (i := 3) rfl)),
    (He.glo_ok X G (fact (.glo "is_on") (List.mem_of_getElem? (i := 3) rfl))),
    (defs d_is_below (List.mem_of_getElem? (i := 4) rfl)),
    (He.glo_ok X G (fact (.glo "is_below") (List.mem_of_getElem? (i := 4) rfl))),
    (defs d_all_worlds (List.mem_of_getElem? (i := 5) rfl)),
    (He.glo_ok X G (fact (.glo "all_worlds") (List.mem_of_getElem? (i := 5) rfl))),
    (defs d_signature_of (List.mem_of_getElem? (i := 6) rfl)),
    (He.glo_ok X G (fact (.glo "signature_of") (List.mem_of_getElem? (i := 6) rfl))),
    (defs d_least_of (List.mem_of_getElem? (i := 7) rfl)),
    (He.glo_ok X G (fact (.glo "least_of") (List.mem_of_getElem? (i := 7) rfl))),
    (defs d_world_term (List.mem_of_getElem? (i := 8) rfl)),
    (He.glo_ok X G (fact (.glo "world_term") (List.mem_of_getElem? (i := 8) rfl))),
    (defs d_form_of (List.mem_of_getElem? (i := 9) rfl)),
    (He.glo_ok X G (fact (.glo "form_of") (List.mem_of_getElem? (i := 9) rfl))),
    (repB_ref (e.2)),
    (defs d_slice_is_on (List.mem_of_getElem? (i := 10) rfl)),
    (He.glo_ok X G (fact (.glo "slice_is_on") (List.mem_of_getElem? (i := 10) rfl))),
    (defs d_slice_of (List.mem_of_getElem? (i := 11) rfl)),
    (He.glo_ok X G (fact (.glo "slice_of") (List.mem_of_getElem? (i := 11) rfl))),
    (defs d_slices_of (List.mem_of_getElem? (i := 12) rfl)),
    (He.glo_ok X G (fact (.glo "slices_of") (List.mem_of_getElem? (i := 12) rfl))),
    (defs d_can_be_slice (List.mem_of_getElem? (i := 13) rfl)),
    (He.glo_ok X G (fact (.glo "can_be_slice") (List.mem_of_getElem? (i := 13) rfl))),
    (defs d_are_slices (List.mem_of_getElem? (i := 14) rfl)),
    (He.glo_ok X G (fact (.glo "are_slices") (List.mem_of_getElem? (i := 14) rfl))),
    (defs d_unslice (List.mem_of_getElem? (i := 15) rfl)),
    (He.glo_ok X G (fact (.glo "unslice") (List.mem_of_getElem? (i := 15) rfl))),
    (defs d__law_cell (List.mem_of_getElem? (i := 16) rfl)),
    (He.glo_ok X G (fact (.glo "_law_cell") (List.mem_of_getElem? (i := 16) rfl))),
    (defs d__law_digits (List.mem_of_getElem? (i := 17) rfl)),
    (He.glo_ok X G (fact (.glo "_law_digits") (List.mem_of_getElem? (i := 17) rfl))),
    (defs d__law_take (List.mem_of_getElem? (i := 18) rfl)),
    (He.glo_ok X G (fact (.glo "_law_take") (List.mem_of_getElem? (i := 18) rfl))),
    (defs d__law_words (List.mem_of_getElem? (i := 19) rfl)),
    (He.glo_ok X G (fact (.glo "_law_words") (List.mem_of_getElem? (i := 19) rfl))),
    (defs d__law_all (List.mem_of_getElem? (i := 20) rfl)),
    (He.glo_ok X G (fact (.glo "_law_all") (List.mem_of_getElem? (i := 20) rfl))),
    (defs d__law_below (List.mem_of_getElem? (i := 21) rfl)),
    (He.glo_ok X G (fact (.glo "_law_below") (List.mem_of_getElem? (i := 21) rfl))),
    (defs d__law_on (List.mem_of_getElem? (i := 22) rfl)),
    (He.glo_ok X G (fact (.glo "_law_on") (List.mem_of_getElem? (i := 22) rfl))),
    (defs d__law_is_name (List.mem_of_getElem? (i := 23) rfl)),
    (He.glo_ok X G (fact (.glo "_law_is_name") (List.mem_of_getElem? (i := 23) rfl))),
    (defs d__law_is_formula (List.mem_of_getElem? (i := 24) rfl)),
    (He.glo_ok X G (fact (.glo "_law_is_formula") (List.mem_of_getElem? (i := 24) rfl))),
    (defs d__law_positive (List.mem_of_getElem? (i := 25) rfl)),
    (He.glo_ok X G (fact (.glo "_law_positive") (List.mem_of_getElem? (i := 25) rfl))),
    (defs d__law_formula (List.mem_of_getElem? (i := 26) rfl)),
    (He.glo_ok X G (fact (.glo "_law_formula") (List.mem_of_getElem? (i := 26) rfl))),
    (defs d__law_tower (List.mem_of_getElem? (i := 27) rfl)),
    (He.glo_ok X G (fact (.glo "_law_tower") (List.mem_of_getElem? (i := 27) rfl))),
    (defs d__law_exactly (List.mem_of_getElem? (i := 28) rfl)),
    (He.glo_ok X G (fact (.glo "_law_exactly") (List.mem_of_getElem? (i := 28) rfl))),
    (defs d__law_form (List.mem_of_getElem? (i := 29) rfl)),
    (He.glo_ok X G (fact (.glo "_law_form") (List.mem_of_getElem? (i := 29) rfl))),
    (defs d__law_by_bits (List.mem_of_getElem? (i := 30) rfl)),
    (He.glo_ok X G (fact (.glo "_law_by_bits") (List.mem_of_getElem? (i := 30) rfl))),
    (defs d__law_grown (List.mem_of_getElem? (i := 31) rfl)),
    (He.glo_ok X G (fact (.glo "_law_grown") (List.mem_of_getElem? (i := 31) rfl))),
    (defs d__law_fit (List.mem_of_getElem? (i := 32) rfl)),
    (He.glo_ok X G (fact (.glo "_law_fit") (List.mem_of_getElem? (i := 32) rfl))),
    (defs d__law_row_fits (List.mem_of_getElem? (i := 33) rfl)),
    (He.glo_ok X G (fact (.glo "_law_row_fits") (List.mem_of_getElem? (i := 33) rfl))),
    (defs d__law_at_least (List.mem_of_getElem? (i := 34) rfl)),
    (He.glo_ok X G (fact (.glo "_law_at_least") (List.mem_of_getElem? (i := 34) rfl))),
    (defs d__law_told_formula (List.mem_of_getElem? (i := 35) rfl)),
    (He.glo_ok X G (fact (.glo "_law_told_formula") (List.mem_of_getElem? (i := 35) rfl))),
    (defs d__law_told_row (List.mem_of_getElem? (i := 36) rfl)),
    (He.glo_ok X G (fact (.glo "_law_told_row") (List.mem_of_getElem? (i := 36) rfl))),
    (defs d__law_lots (List.mem_of_getElem? (i := 37) rfl)),
    (He.glo_ok X G (fact (.glo "_law_lots") (List.mem_of_getElem? (i := 37) rfl))),
    (defs d__law_spoilt (List.mem_of_getElem? (i := 38) rfl)),
    (He.glo_ok X G (fact (.glo "_law_spoilt") (List.mem_of_getElem? (i := 38) rfl))),
    (defs d__law_one (List.mem_of_getElem? (i := 39) rfl)),
    (He.glo_ok X G (fact (.glo "_law_one") (List.mem_of_getElem? (i := 39) rfl))),
    (defs d_law (List.mem_of_getElem? (i := 40) rfl)),
    (He.glo_ok X G (fact (.glo "law") (List.mem_of_getElem? (i := 40) rfl))),
    (TB _ (List.mem_of_getElem? (i := 0) rfl)),
    (List.mem_of_getElem? (i := 0) rfl),
    (TB _ (List.mem_of_getElem? (i := 1) rfl)),
    (List.mem_of_getElem? (i := 1) rfl),
    (TB _ (List.mem_of_getElem? (i := 2) rfl)),
    (List.mem_of_getElem? (i := 2) rfl)⟩
theorem facts {w : World} {K : PySem.W.Frag} {h : Heap} {mg : Str → Option Value} {f : Addr} (X : K.In h) (G : h.Ns mainGlobals mg) (hfa : mg ("law" : Str) = some (.ref f)) (c : He.SaysX fa fn [] tf ex w h K) :
    LamX.LawAtS PySem.Challenge.rw_nevernot_k89_slices_there_and_back w K CX0 89 63 "script" mg f h := by
  have D : He.SaysD fa fn K := c.t.d
  obtain ⟨fd, F⟩ := D.defs (d := d_law) (List.mem_of_getElem? (i := 40) rfl)
  have e := hfa.symm.trans (He.glo_ok X G (D.facts (f := .glo "law") (List.mem_of_getElem? (i := 40) rfl)))
  cases e
  have b := FunD.bindsA (ps := ["script"]) F fun _ _ _ _ _ _ us hl => match us, hl with | [_], _ => rfl
  have mem : ∀ {q : Addr × Addr}, q ∈ tf.map (He.cT K) → ∃ p ∈ tf, He.cT K p = q := fun {q} hq => List.mem_map.mp hq
  refine ⟨fd, tf.map (He.cT K), spF K ((tf.map (He.cT K)).map (·.2)) 1 F_law, fun q hq => ?_, fun q hq => ?_, fun q hq => ?_, fun s u => b s [u] rfl, fun H a ns hl _ hT hS => ?_, fun base KB GB TB => ?_⟩
  · obtain ⟨p, hp, rfl⟩ := mem hq
    exact c.empty p hp
  · obtain ⟨p, hp, rfl⟩ := mem hq
    exact c.out p hp
  · obtain ⟨p, hp, rfl⟩ := mem hq
    exact PySem.W.codeHd_of_K X (c.hd p hp)
  · refine law_sp (fun P hP => ?_) hS (math ns hl)
    obtain ⟨q, hq, rfl⟩ := List.mem_map.mp hP
    exact hT q hq
  · obtain ⟨fd2, F2, FO⟩ := fn_law (P := (PySem.Challenge.rw_nevernot_k89_slices_there_and_back).prog) (w := w) (tx X G c fun p hp => ⟨(TB p hp).code, (TB p hp).bm, (TB p hp).gP⟩)
    obtain ⟨_, _, _, _, _, _, _, _, _, _, rfl, lk, _⟩ := F.ex
    obtain ⟨_, _, _, _, _, _, _, _, _, _, rfl, lk2, _⟩ := F2.ex
    have e := (show K.lookup (He.fAd K ("law", none)) = _ from lk).symm.trans lk2
    cases e
    exact FO
end K89
open PySem PySem.W PySem.Calls PyProof.Rows
theorem PySem.Challenge.cw_nevernot_k89_slices_there_and_back_holds : PySem.Challenge.rw_nevernot_k89_slices_there_and_back.Holds := by
  w_on; o_law
  refine HandSHeadRun.head_any (r := OpenLaw.row PySem.Challenge.rw_nevernot_k89_slices_there_and_back) (q := view (OpenLaw.row PySem.Challenge.rw_nevernot_k89_slices_there_and_back).prog [54]) (H := K89.hk) (ob := K89.ob) (M := 5000) (loose := K89.names) (d := HandSHeadRun.topDef (OpenLaw.row PySem.Challenge.rw_nevernot_k89_slices_there_and_back).prog 54) (kwd := []) K89.ob_eq
    (by kernel_rfl) (fun s => by kernel_rfl) K89.run (by kernel_rfl) (by kernel_rfl) (by kernel_rfl) (by rfl) (by first | assumption | decide +kernel) (by decide +kernel) ⟨rfl, rfl, rfl, rfl, rfl, by decide +kernel⟩ ?hw ?hc
  case hw => w_witness2
  case hc =>
    refine LamX.walk_ofTsE (l := PySem.Challenge.rw_nevernot_k89_slices_there_and_back) (n := 63) (k := 89) (x := "script") (CX := fun _ => L2.CX0) rfl (by decide) (by kernel_rfl) ⟨rfl, by decide, by decide⟩ ?F (fun _ _ _ _ _ z => z)
    intro w mg fa h Y G hmg0
    obtain ⟨K, KX, c⟩ := Y
    have hmg : mg ("law" : PySem.Str) = some (.ref fa) := by
      have e : (HandSHeadRun.topDef (OpenLaw.row PySem.Challenge.rw_nevernot_k89_slices_there_and_back).prog 54).name = ("law" : PySem.Str) := by kernel_rfl
      rw [← e]
      exact hmg0
    exact ⟨K, KX, K89.facts KX G hmg c⟩

