import PyProof.Rows.All
import PySem.Challenge.RW_kindhall_k34_whole_pleas_or_excuses
import HandS.ForMost
import HandS.AnyAll
import HandS.GenList
import PyProof.P3In
import KE.SortData
import HandS.TupAny
import HandS.Style
import HandS.Deep
import HandS.IsInst
import HandS.Conv
import HandS.List
import HandS.TupSets
import HandS.SetFor
import HandS.Strs
import KE.GoesEnum
import HandS.Zip
import HandS.Flow
import HandS.Exc
import HandS.Words
import HandS.HeadHook4
import HandS.EndTab
import HandS.Head2
set_option Elab.async false
set_option linter.all false
set_option maxRecDepth 100000
set_option maxHeartbeats 4000000
/-! all and any over a generator expression: the turn's test is any expression of the layer. -/
namespace Gx
open PySem PySem.Spec PyProof.Rows L2 GxR GenW

/-- inside the generator -/
abbrev CxGen (X : Cx) (s : Shared) (H : Hp) (cenv : Env) (fp : List Addr) (go : Addr × Obj) : Cx :=
  { X with A := X.A.in1.in1.deeper cenv, s_0 := s, H_0 := H, env := cenv, outer := X.stack, stack := cenv :: X.stack, ex := fp, fn := fun _ => false, pn := [go], xe := fun _ _ => False }

theorem over_gen {A : Around} {e : Expr} {gs : List Comprehension} {sc : Scope} {pos : Pos} {it acc : Value} {env : Env} : A.over (.compLoop (.GeneratorExp e gs sc pos) 0 it acc env) [] = A.deeper env := rfl
theorem over_genS {A : Around} {e : Expr} {gs : List Comprehension} {sc : Scope} {pos : Pos} {it acc : Value} {env : Env} : A.over (.compStart (.GeneratorExp e gs sc pos) 0 it acc env) [] = A.deeper env := rfl

section
variable {X : Cx} {pins : List (Addr × Obj)} {σ : L2.St} {H : Hp} {s : Shared}

/-- the generator's frame has been made -/
theorem gen_start {scope : Scope} {own : List (Str × Nat)} {fp : List Addr} {code itv : Value} {h' : Heap} {go : Obj} {gs : GenState} {tk : Nat}
    (I : Inv X pins σ H s) (ok : BlkOk X.N X.env.scope scope own) (hN : X.N.Nodup) (hcell : ∀ y ∈ scope.names, y.2 ≠ .cell)
    (hfp : ∀ b ∈ fp, FpOk X pins H b ∧ b < s.heap.objs.size) (hgs : gs.bare = true) (hgd : ∀ v, go.data ≠ .cell v)
    (hn' : h'.Ns s.heap.objs.size (fun y => if y = (".0" : Str) then some itv else none)) (hs' : Heap.SameBut s.heap.objs.size (s.heap.push { cls := .type "frame", data := .dict #[] }) h')
    (hgo : (h'.push go).get? h'.objs.size = some go) :
    Inv (CxGen X s H (genEnv scope (cloFrom X.env.cells scope.names []) s.heap.objs.size code builtinsNs X.env) fp (h'.objs.size, go)) [] (wipe σ (own.map (·.2))) H
      { s with gens := s.gens.push gs, toks := tk, heap := h'.push go } := by
  have hfree : ∀ y ∈ scope.names, y.2 = .free → ∃ c, X.env.cells.lookup y.1 = some c := fun y hy e => by
    rcases ok.free y hy e with k | k
    · exact I.ok.has _ (.inl k)
    · exact I.ok.has _ (.inr k)
  have hsz : h'.objs.size = s.heap.objs.size + 1 := by rw [hs'.1, Heap.size_push]
  have kp0 : ∀ b o, s.heap.get? b = some o → h'.get? b = some o := fun b o e => (hs'.2 b (Nat.ne_of_lt (Heap.lt_size e))).trans (Heap.get?_push_of_some _ e)
  have kp : ∀ b o, s.heap.get? b = some o → (h'.push go).get? b = some o := fun b o e => Heap.get?_push_of_some _ (kp0 b o e)
  generalize hcenv : genEnv scope (cloFrom X.env.cells scope.names []) s.heap.objs.size code builtinsNs X.env = cenv
  have hL : cenv.locals = s.heap.objs.size := by rw [← hcenv]; rfl
  have hcl : cenv.cells = cloFrom X.env.cells scope.names [] := by rw [← hcenv]; rfl
  have hsc : cenv.scope = scope := by rw [← hcenv]; rfl
  have cm : ∀ {y c}, cenv.cells.lookup y = some c → X.env.cells.lookup y = some c ∧ c < s.heap.objs.size ∧ scope.names.lookup y = some .free := fun {y c} e => by
    rw [hcl] at e
    rcases cloFrom_mem (PySem.mem_of_lookup e) with hm | ⟨h1, rfl⟩
    · cases hm
    · obtain ⟨c, hc⟩ := hfree _ h1 rfl
      rw [hc]
      obtain ⟨w, z⟩ := I.cell _ _ hc
      exact ⟨rfl, z.lt, ok.uniq _ h1⟩
  have look : ∀ {y}, scope.names.lookup y = some .free → ∃ c, cenv.cells.lookup y = some c ∧ X.env.cells.lookup y = some c := fun {y} hl => by
    have hy : (y, NameKind.free) ∈ scope.names := PySem.mem_of_lookup hl
    obtain ⟨c', e'⟩ := mem_lookup (cloFrom_has (cells := X.env.cells) (acc := []) hy)
    rw [← hcl] at e'
    exact ⟨c', e', (cm e').1⟩
  have okB : (CxGen X s H cenv fp (h'.objs.size, go)).Ok := by
    refine ⟨I.ok.mod, by show cenv.scope.kind = _; rw [hsc]; exact ok.kind, by show cenv.globals = _; rw [← hcenv]; exact I.ok.glob, by show cenv.builtins = _; rw [← hcenv]; rfl, by show s.heap.objs.size ≤ cenv.locals; rw [hL]; exact Nat.le_refl _,
      fun y z c e1 e2 => I.ok.inj y z c (cm e1).1 (cm e2).1, fun y hy => ?_, fun y c z e => absurd z (by simp), I.ok.hd, ?_, .inr ⟨rfl, ?_⟩, fun b hb => ⟨?_, fun y c e z => ?_⟩, I.bs, Nat.le_trans I.ok.bsz I.sz, fun b o e hb => ?_, fun b hb z => ?_, I.stack, I.stkFree⟩
    · rcases hy with hy | hy
      · have hy' : scope.names.lookup y = some .cell := by rw [← hsc]; exact hy
        exact absurd rfl (hcell _ (PySem.mem_of_lookup hy'))
      · have hy' : scope.names.lookup y = some .free := by rw [← hsc]; exact hy
        obtain ⟨c, h1, _⟩ := look hy'
        exact ⟨c, h1⟩
    · show (X.A.in1.in1.deeper cenv).frames = some (cenv :: X.stack)
      show X.A.frames.map (cenv :: ·) = some (cenv :: X.stack)
      rw [I.ok.frames]; rfl
    · show cenv.frame = some cenv.locals
      rw [← hcenv]; rfl
    · show b ≠ cenv.locals
      rw [hL]; exact Nat.ne_of_lt (hfp b hb).2
    · exact (hfp b hb).1.2.2.2.2.1 y c (cm e).1 z
    · rcases (hfp b hb).1.2.2.2.1 with z | z
      · exact I.ok.noex b o e z
      · exact absurd (Nat.lt_of_lt_of_le (Heap.lt_size e) (Nat.le_trans I.ok.bsz z)) (Nat.lt_irrefl _)
    · rcases List.mem_cons.mp (I.stkSub b z) with z | z
      · exact (hfp b hb).1.2.1 z
      · exact (hfp b hb).1.2.2.1 z
  refine ⟨okB, rfl, I.bare.push hgs, Un.kept kp, ⟨fun y => if y = (".0" : Str) then some itv else none, ?_, fun i y av e1 e2 e3 => ?_⟩, fun y c e => ?_, ?_, fun y c e => ?_, fun p hp => ?_, I.hok.kept kp, by rw [wipe_length]; exact I.len⟩
  · show Heap.Ns _ cenv.locals _
    rw [hL]
    exact hn'.push _
  · obtain ⟨e2, hne⟩ := wipe_some e2
    have hfr : scope.names.lookup y = some .free ∧ cenv.kindOf y = some .free := by
      have key : ∀ k, scope.names.lookup y = some k → k = .local ∨ k = .cell ∨ k = .free → scope.names.lookup y = some .free ∧ cenv.kindOf y = some .free := fun k hk hk' => by
        have no : ¬ (k = .local ∨ k = .cell) := fun hh => by
          rcases ok.own _ (PySem.mem_of_lookup hk) hh with e' | e'
          · obtain ⟨p, hp, hpy⟩ := List.mem_map.mp e'
            have e3 := ok.ix p hp
            have : p.1 = y := hpy
            rw [this] at e3
            exact hne (List.mem_map.mpr ⟨p, hp, nodup_ix hN e3 e1⟩)
          · exact e' (List.mem_of_getElem? e1)
        rcases hk' with rfl | rfl | rfl
        · exact absurd (.inl rfl) no
        · exact absurd (.inr rfl) no
        · exact ⟨hk, by show cenv.scope.names.lookup y = _; rw [hsc]; exact hk⟩
      have e3 : Vis cenv.scope y := e3
      rw [hsc] at e3
      rcases e3 with e3 | e3 | e3
      · exact key _ e3 (.inl rfl)
      · exact key _ e3 (.inr (.inl rfl))
      · exact key _ e3 (.inr (.inr rfl))
    obtain ⟨m, hn, hl⟩ := I.loc
    have hvis : Vis X.env.scope y := (ok.free _ (PySem.mem_of_lookup hfr.1) rfl).elim (fun k => .inr (.inl k)) (fun k => .inr (.inr k))
    obtain ⟨w, r, q⟩ := hl i y av e1 e2 hvis
    refine ⟨w, r, .inr ⟨.inr hfr.2, ?_⟩⟩
    obtain ⟨c, h1, h2⟩ := look hfr.1
    rcases q with ⟨k, _⟩ | ⟨_, c', e', z⟩
    · have k : X.env.scope.names.lookup y = some .local := k
      rcases ok.free _ (PySem.mem_of_lookup hfr.1) rfl with k' | k' <;> rw [show X.env.scope.names.lookup y = _ from k'] at k <;> cases k
    · rw [h2] at e'; cases e'
      exact ⟨c, h1, z.keeps kp⟩
  · have e : cenv.cells.lookup y = some c := e
    obtain ⟨w, z⟩ := I.cell y c (cm e).1
    exact ⟨w, z.keeps kp⟩
  · show H cenv.locals = none
    rw [hL]; exact I.hok.fresh (Nat.le_refl _)
  · have e : cenv.cells.lookup y = some c := e
    exact I.freeC y c (cm e).1
  · have e : p = (h'.objs.size, go) := by simpa using hp
    subst e
    refine ⟨hgo, I.hok.fresh (by rw [hsz]; exact Nat.le_succ _), ?_, ?_, hgd⟩
    · show h'.objs.size ≠ cenv.locals
      rw [hL, hsz]; exact Nat.succ_ne_self _
    · exact fun z => by
        rcases List.mem_cons.mp (I.stkSub _ z) with z | z
        · have := I.lt; rw [← z, hsz] at this; exact absurd (Nat.lt_of_succ_lt this) (Nat.lt_irrefl _)
        · exact I.nofs (a := h'.objs.size) (by rw [hsz]; exact Nat.le_succ _) z

/-- only the table of generators moved -/
theorem inv_gens {s' : Shared} (I : Inv X pins σ H s) (hh : s'.heap = s.heap) (ho : s'.os = s.os) (hg : AllBare s'.gens) : Inv X pins σ H s' :=
  I.call' (ch := []) ho (by rw [hh]; exact Un.refl) (by rw [hh]; exact I.hok) hg (fun b z => absurd z (by simp))
end

/-! ### the turns of the generator -/
/-- a turn of any | all: b0 is the answer that goes on -/
def tTurn (b0 : Bool) (J : It) (g : TG) (tt : TT) (te : TE) (σ0 : L2.St) (vs : List Nat) (W : Nat → Nat → Hp → Prop) (Qt Qs : Hp → Prop) : Prop :=
  ∀ i m H, W i m H → (J.stop i H ∧ Qt H) ∨ (J.go i H ∧ ∃ Nx : Hp → Prop, (∀ H', Nx H' → ∃ m', m' < m ∧ W (i + 1) m' H') ∧
    ∀ x H', J.yld i H x H' → g x σ0 H' fun σ2 H2 => wipe σ2 vs = σ0 ∧ tt σ2 H2 fun b H3 => if b = true then te σ2 H3 fun y H4 => ∃ c, y = .bl c ∧ (if c = b0 then Nx H4 else Qs H4) else Nx H3)

section
variable {P : Program} {w : World} {K : PySem.W.Frag}
/-- the protocol: a bool is handed out; where it is b0, the generator may be woken -/
def GYx (X' : Cx) (σ0 : L2.St) (b0 : Bool) (Qs : Hp → Prop) : Protocol := fun n s₀ v s kap =>
  ∃ c H' σ', v = .bool c ∧ Inv X' [] σ' H' s ∧ (c ≠ b0 → Qs H') ∧ (c = b0 → ∀ s'', s''.heap = s.heap → s''.os = s.os → AllBare s''.gens → kap (.send .none) s'')
def GRx (X' : Cx) (Qt : Hp → Prop) : GenEnd := fun n s₀ r s => r = .ok .next ∧ ∃ H' σ', Inv X' [] σ' H' s ∧ Qt H'

theorem seg_gx {X : Cx} {s3 : Shared} {H3 : Hp} {cenv : Env} {fp : List Addr} {gob : Addr × Obj} {elt tg iter : Expr} {ifs : List Expr} {scope : Scope} {pos : Pos} {it : Addr} {tn : Nat → Heap → Prop} {J : It} {g : TG} {tt : TT} {te : TE} {σ : L2.St} {vs : List Nat}
    {W : Nat → Nat → Hp → Prop} {Qt Qs : Hp → Prop} {b0 : Bool} (hc : X.calm = true) (T : Turn X.prog X.w X.K tg J fp it tn)
    (hco : cenv.scope.isCoroutine = false)
    (pg : PG (CxGen X s3 H3 cenv fp gob) tg g) (pt : PTs (CxGen X s3 H3 cenv fp gob) ifs tt) (pe : PE (CxGen X s3 H3 cenv fp gob) elt te)
    (turn : tTurn b0 J g tt te (wipe σ vs) vs W Qt Qs) (hfpgo : gob.1 ∉ fp) :
    ∀ (m n i : Nat) (s₀ s5 : Shared) (H5 : Hp), m < n → Inv (CxGen X s3 H3 cenv fp gob) [] (wipe σ vs) H5 s5 → tn i s5.heap → (∀ b ∈ fp, H5 b = none) → W i m H5 →
      Seg (model X.prog X.w) X.A.in1.in1 (GRx (CxGen X s3 H3 cenv fp gob) Qt) (GYx (CxGen X s3 H3 cenv fp gob) (wipe σ vs) b0 Qs) n s₀
        (.compLoop (.GeneratorExp elt [⟨tg, iter, ifs, 0⟩] scope pos) 0 (.ref it) .none cenv)
        ((model X.prog X.w).den (.compLoop (.GeneratorExp elt [⟨tg, iter, ifs, 0⟩] scope pos) 0 (.ref it) .none cenv)) [] s5 := by
  have stat : ∀ {σ' : L2.St} {H' : Hp} {s' : Shared}, Inv (CxGen X s3 H3 cenv fp gob) [] σ' H' s' → (∀ b ∈ fp, H' b = none) → ∀ b ∈ fp, FpOk (CxGen X s3 H3 cenv fp gob) [] H' b := fun {σ' H' s'} I' hn b hb =>
    ⟨hn b hb, (I'.ok.exf b hb).1, I'.ok.exfs b hb, .inl hb, fun x c e => (I'.ok.exf b hb).2 x c e, fun p hp => by
      have e : p = gob := by simpa using hp
      subst e
      exact fun z => hfpgo (z ▸ hb)⟩
  intro m
  induction m using Nat.strongRecOn with
  | ind m ih =>
    intro n i s₀ s5 H5 hmn I5 st5 n5 w5
    show Seg _ X.A.in1.in1 _ _ _ s₀ _ ((compTurn (.GeneratorExp elt [⟨tg, iter, ifs, 0⟩] scope pos) 0 (.ref it) .none cenv).onRaise (leaving cenv)) [] s5
    rw [compTurn_gen, Sem.onRaise_eq_wrap]
    refine seg_bind_wrap (wpAny_standAt ?_)
    rcases turn i m H5 w5 with ⟨stop, qq⟩ | ⟨go, Nx, hNx, step⟩
    · refine seg_bind_wrap (thnF (T.done (CxGen X s3 H3 cenv fp gob) rfl rfl rfl hc i [] s5 _ H5 (fun _ _ => False) I5 (stat I5 n5) st5 stop) fun r s6 ⟨hr, I6⟩ => ?_)
      subst hr
      exact seg_end (.ok .next) ⟨rfl, H5, _, I6, qq⟩
    · refine seg_bind_wrap (thnF (T.item (CxGen X s3 H3 cenv fp gob) rfl rfl rfl hc i [] s5 _ H5 (fun _ _ => False) I5 (stat I5 n5) st5 go) fun r s6 ⟨u, hr, h6⟩ => ?_)
      subst hr
      refine seg_bind_wrap (thnF h6 fun _ s7 ⟨x, H7, I7, r7, y7, st7, n7⟩ => ?_)
      have I7' := I7.pinned (stat I7 n7) (T.obj _ _ st7)
      refine seg_bind_wrap (thnF (pg.run _ s7 _ H7 x u _ I7' r7 (step x H7 y7)) fun _ s8 ⟨σ8, H8, I8, hw8, q8⟩ => ?_)
      refine seg_bind_wrap (thnF (pt.run _ s8 σ8 H8 _ I8 q8) fun b s9 ⟨H9, I9, q9⟩ => ?_)
      -- the turn's end
      have fin : ∀ {s' : Shared} {H' : Hp}, Inv (CxGen X s3 H3 cenv fp gob) ([] ++ pinsAt fp s7.heap) σ8 H' s' → Nx H' → ∃ m', m' < m ∧ Inv (CxGen X s3 H3 cenv fp gob) [] (wipe σ vs) H' s' ∧ tn (i + 1) s'.heap ∧ (∀ b ∈ fp, H' b = none) ∧ W (i + 1) m' H' := fun {s' H'} I' nx => by
        obtain ⟨m', hm, w'⟩ := hNx H' nx
        have pin' : ∀ b ∈ fp, ∀ o, s7.heap.get? b = some o → s'.heap.get? b = some o ∧ H' b = none := fun b hb o e =>
          let z := I'.pin (b, o) (List.mem_append_right _ (List.mem_append_right _ (mem_pinsAt hb e)))
          ⟨z.1, z.2.1⟩
        have hl : (wipe σ vs).length = σ8.length := by rw [← hw8, wipe_length]
        refine ⟨m', hm, (I'.unpinned (pins := [])).weak hl (fun j v e => ?_), T.keep _ _ _ st7 fun b hb o e => (pin' b hb o e).1, fun b hb => ?_, w'⟩
        · rw [← hw8] at e
          exact (wipe_some e).1
        · obtain ⟨o, e, _⟩ := T.obj _ _ st7 b hb
          exact (pin' b hb o e).2
      cases b with
      | false =>
        simp only [Bool.false_eq_true, if_false] at q9 ⊢
        obtain ⟨m', hm, I', st', n', w'⟩ := fin I9 q9
        exact seg_again rfl (ih m' hm n (i + 1) s₀ s9 H9 (by omega) I' st' n' w')
      | true =>
        simp only [if_true] at q9 ⊢
        have hy : ∀ v, yieldOut cenv v = yieldValue v := fun v => by simp only [yieldOut, hco, Bool.false_eq_true, if_false]
        simp only [hy]
        rw [Sem.bind_eq_wrap', Sem.bind_eq_wrap', Sem.wrap_wrap, Sem.wrap_wrap]
        refine seg_wrap (thnF (pe.run _ s9 σ8 H9 _ I9 q9) fun z s10 ⟨yv, H10, I10, r10, c, hyc, q10⟩ => ?_)
        subst hyc
        have ez : z = Value.bool c := r10
        subst ez
        by_cases hcb : c = b0
        · rw [if_pos hcb] at q10
          obtain ⟨m', hm, I', st', n', w'⟩ := fin I10 q10
          obtain ⟨n, rfl⟩ : ∃ k, n = k + 1 := ⟨n - 1, by omega⟩
          refine seg_at (seg_yield rfl rfl rfl ⟨c, H10, _, rfl, I', fun h => absurd hcb h, fun _ s'' hh ho hg => ?_⟩)
          have I'' := inv_gens I' hh ho hg
          exact seg_again rfl (ih m' hm n (i + 1) s'' s'' H10 (by omega) I'' (by rw [hh]; exact st') n' w')
        · rw [if_neg hcb] at q10
          obtain ⟨n, rfl⟩ : ∃ k, n = k + 1 := ⟨n - 1, by omega⟩
          exact seg_at (seg_yield rfl rfl rfl ⟨c, H10, _, rfl, I10.unpinned (pins := []), fun _ => q10, fun h => absurd h hcb⟩)

theorem seg_gxStart {X : Cx} {s3 : Shared} {H3 : Hp} {cenv : Env} {fp : List Addr} {gob : Addr × Obj} {elt tg iter : Expr} {ifs : List Expr} {scope : Scope} {pos : Pos} {it : Addr} {tn : Nat → Heap → Prop} {J : It} {g : TG} {tt : TT} {te : TE} {σ : L2.St} {vs : List Nat}
    {W : Nat → Nat → Hp → Prop} {Qt Qs : Hp → Prop} {b0 : Bool} (hc : X.calm = true) (T : Turn X.prog X.w X.K tg J fp it tn)
    (hco : cenv.scope.isCoroutine = false)
    (pg : PG (CxGen X s3 H3 cenv fp gob) tg g) (pt : PTs (CxGen X s3 H3 cenv fp gob) ifs tt) (pe : PE (CxGen X s3 H3 cenv fp gob) elt te)
    (turn : tTurn b0 J g tt te (wipe σ vs) vs W Qt Qs) (hfpgo : gob.1 ∉ fp) (m : Nat) (s₀ s5 : Shared) (H5 : Hp) (I5 : Inv (CxGen X s3 H3 cenv fp gob) [] (wipe σ vs) H5 s5) (st5 : tn 0 s5.heap) (n5 : ∀ b ∈ fp, H5 b = none) (w5 : W 0 m H5) :
      Seg (model X.prog X.w) X.A.in1.in1 (GRx (CxGen X s3 H3 cenv fp gob) Qt) (GYx (CxGen X s3 H3 cenv fp gob) (wipe σ vs) b0 Qs) (m + 1) s₀
        (.compStart (.GeneratorExp elt [⟨tg, iter, ifs, 0⟩] scope pos) 0 (.ref it) .none cenv)
        ((model X.prog X.w).den (.compStart (.GeneratorExp elt [⟨tg, iter, ifs, 0⟩] scope pos) 0 (.ref it) .none cenv)) [] s5 := by
  have loop := seg_gx (iter := iter) (scope := scope) (pos := pos) hc T hco pg pt pe turn hfpgo m (m + 1) 0 s₀ s5 H5 (Nat.lt_succ_self _) I5 st5 n5 w5
  show Seg _ X.A.in1.in1 _ _ _ s₀ _ ((compStart (.GeneratorExp elt [⟨tg, iter, ifs, 0⟩] scope pos) 0 (.ref it) .none cenv).onRaise (leaving cenv)) [] s5
  unfold compStart
  rw [Sem.onRaise_eq_wrap]
  show Seg _ X.A.in1.in1 _ _ _ s₀ _ ((ask >>= _).wrap _ _ _ _) [] s5
  refine seg_bind_wrap (wpAny_askSetting ?_)
  split
  · exact seg_again rfl loop
  · first
      | exact seg_bind_wrap (wpAny_rule (seg_bind_wrap (wpAny_standAt (seg_bind_wrap (T.self _ 0 s5 _ _ st5 (seg_again rfl loop))))))
      | (refine seg_bind_wrap (wpAny_rule ?_); show Seg _ X.A.in1.in1 _ _ _ s₀ _ ((standAt iter.pos >>= _).wrap _ _ _ _) [] s5; exact seg_bind_wrap (wpAny_standAt (seg_bind_wrap (T.self _ 0 s5 _ _ st5 (seg_again rfl loop)))))
end

/-- all: the consumer's loop -/
theorem drain_all {X : Cx} {s3 : Shared} {H3 : Hp} {cenv : Env} {fp : List Addr} {a : Addr} {go : Obj} {g : Nat} {σ0 : L2.St} {Qt Qs : Hp → Prop} {R : Result → Shared → Prop}
    (hh : X.A.handled = none) (hd : X.A.depth < recursionLimit) (hgen : ∀ h : Heap, h.get? a = some go → h.IsGen a g)
    (hT : ∀ H' σ' s', Inv (CxGen X s3 H3 cenv fp (a, go)) [] σ' H' s' → Qt H' → R (.ok (.ret (.bool true))) s')
    (hS : ∀ H' σ' s', Inv (CxGen X s3 H3 cenv fp (a, go)) [] σ' H' s' → Qs H' → R (.ok (.ret (.bool (!true)))) s') :
    ∀ (n : Nat) (s : Shared), s.heap.IsGen a g → s.heap.NoLimit →
      (∃ gs, s.gens[g]? = some gs ∧ gs.Goes (model X.prog X.w) X.A.in1.in1 (GRx (CxGen X s3 H3 cenv fp (a, go)) Qt) (GYx (CxGen X s3 H3 cenv fp (a, go)) σ0 true Qs) n (.send .none) (s.setGen g .running)) →
      codeAny (model X.prog X.w) X.A (.builtin "all.loop" ⟨[.ref a], []⟩) R s := by
  intro n
  induction n with
  | zero =>
    intro s hg hl ⟨gs, hgs, hgo⟩
    refine codeAny_builtin F.entry_all_loop ?_
    rw [Around.under_plainId F.plain_all_loop _]
    show wpAny _ X.A.in1 (pyNext (.ref a) >>= _) _ _ s
    refine wpAny_bind (wpAny_pyNext_genexpQ (A := X.A.in1) (P := fun _ _ s => ∃ H' σ', Inv (CxGen X s3 H3 cenv fp (a, go)) [] σ' H' s ∧ Qt H') hh hl hd hg hgs hgo (fun v s₁ gs' hb hv => ?_) (fun s₁ hp h' hk => ?_))
    · obtain ⟨c, H', σ', rfl, I', hq, hk⟩ := hv
      refine wpAny_bind (wpAny_holding (wpAny_truthy_bool ?_))
      refine wpAny_bind (wpAny_letGo ?_)
      cases hc : c with
      | true => exact (hk hc s₁ rfl rfl I'.bare).elim
      | false =>
        have hq' := hq (by rw [hc]; decide)
        simp only [if_true, Bool.false_eq_true, if_false]
        refine wpAny_bind (wpAny_rule (wpAny_pure ?_))
        exact hS H' σ' _ (inv_gens I' rfl rfl (allBare_setGen I'.bare hb)) hq'
    · obtain ⟨H', σ', I', hq⟩ := hp
      refine wpAny_bind (wpAny_rule (wpAny_pure ?_))
      exact hT H' σ' _ (I'.call' (ch := []) rfl (Un.kept hk) (I'.hok.kept hk) (allBare_setGen I'.bare rfl) (fun b z => absurd z (by simp))) hq
  | succ n ih =>
    intro s hg hl ⟨gs, hgs, hgo⟩
    have hgl : g < s.gens.size := (Array.getElem?_eq_some_iff.mp hgs).1
    refine codeAny_builtin F.entry_all_loop ?_
    rw [Around.under_plainId F.plain_all_loop _]
    show wpAny _ X.A.in1 (pyNext (.ref a) >>= _) _ _ s
    refine wpAny_bind (wpAny_gsz (n := g + 1) hgl (wpAny_pyNext_genexpQ (A := X.A.in1) (P := fun _ _ s => ∃ H' σ', Inv (CxGen X s3 H3 cenv fp (a, go)) [] σ' H' s ∧ Qt H') hh hl hd hg hgs hgo (fun v s₁ gs' hb hv => ?_) (fun s₁ hp h' hk => ?_)))
    · intro hsz
      obtain ⟨c, H', σ', rfl, I', hq, hk⟩ := hv
      refine wpAny_bind (wpAny_holding (wpAny_truthy_bool ?_))
      refine wpAny_bind (wpAny_letGo ?_)
      have hsz1 : g < s₁.gens.size := by
        have q : (s₁.setGen g gs').gens.size = s₁.gens.size := setGen_size _ _ _
        have hsz' : g + 1 ≤ (s₁.setGen g gs').gens.size := hsz
        omega
      have hpin := (I'.pin (a, go) (List.mem_append_left _ (List.mem_singleton.mpr rfl))).1
      cases hc : c with
      | true =>
        simp only [if_true, Bool.false_eq_true, if_false]
        refine wpAny_pure ⟨plainId_quiet F.plain_all_loop _, ih (s₁.setGen g gs') (hgen _ hpin) I'.nolimit ⟨gs', setGen_at hsz1, ?_⟩⟩
        exact hk hc _ rfl rfl (allBare_setGen (s := s₁.setGen g gs') (allBare_setGen I'.bare hb) rfl)
      | false =>
        have hq' := hq (by rw [hc]; decide)
        simp only [if_true, Bool.false_eq_true, if_false]
        refine wpAny_bind (wpAny_rule (wpAny_pure ?_))
        exact hS H' σ' _ (inv_gens I' rfl rfl (allBare_setGen I'.bare hb)) hq'
    · intro hsz
      obtain ⟨H', σ', I', hq⟩ := hp
      refine wpAny_bind (wpAny_rule (wpAny_pure ?_))
      exact hT H' σ' _ (I'.call' (ch := []) rfl (Un.kept hk) (I'.hok.kept hk) (allBare_setGen I'.bare rfl) (fun b z => absurd z (by simp))) hq

/-- any: the consumer's loop -/
theorem drain_any {X : Cx} {s3 : Shared} {H3 : Hp} {cenv : Env} {fp : List Addr} {a : Addr} {go : Obj} {g : Nat} {σ0 : L2.St} {Qt Qs : Hp → Prop} {R : Result → Shared → Prop}
    (hh : X.A.handled = none) (hd : X.A.depth < recursionLimit) (hgen : ∀ h : Heap, h.get? a = some go → h.IsGen a g)
    (hT : ∀ H' σ' s', Inv (CxGen X s3 H3 cenv fp (a, go)) [] σ' H' s' → Qt H' → R (.ok (.ret (.bool false))) s')
    (hS : ∀ H' σ' s', Inv (CxGen X s3 H3 cenv fp (a, go)) [] σ' H' s' → Qs H' → R (.ok (.ret (.bool (!false)))) s') :
    ∀ (n : Nat) (s : Shared), s.heap.IsGen a g → s.heap.NoLimit →
      (∃ gs, s.gens[g]? = some gs ∧ gs.Goes (model X.prog X.w) X.A.in1.in1 (GRx (CxGen X s3 H3 cenv fp (a, go)) Qt) (GYx (CxGen X s3 H3 cenv fp (a, go)) σ0 false Qs) n (.send .none) (s.setGen g .running)) →
      codeAny (model X.prog X.w) X.A (.builtin "any.loop" ⟨[.ref a], []⟩) R s := by
  intro n
  induction n with
  | zero =>
    intro s hg hl ⟨gs, hgs, hgo⟩
    refine codeAny_builtin F.entry_any_loop ?_
    rw [Around.under_plainId F.plain_any_loop _]
    show wpAny _ X.A.in1 (pyNext (.ref a) >>= _) _ _ s
    refine wpAny_bind (wpAny_pyNext_genexpQ (A := X.A.in1) (P := fun _ _ s => ∃ H' σ', Inv (CxGen X s3 H3 cenv fp (a, go)) [] σ' H' s ∧ Qt H') hh hl hd hg hgs hgo (fun v s₁ gs' hb hv => ?_) (fun s₁ hp h' hk => ?_))
    · obtain ⟨c, H', σ', rfl, I', hq, hk⟩ := hv
      refine wpAny_bind (wpAny_holding (wpAny_truthy_bool ?_))
      refine wpAny_bind (wpAny_letGo ?_)
      cases hc : c with
      | false => exact (hk hc s₁ rfl rfl I'.bare).elim
      | true =>
        have hq' := hq (by rw [hc]; decide)
        simp only [if_true, Bool.false_eq_true, if_false]
        refine wpAny_bind (wpAny_rule (wpAny_pure ?_))
        exact hS H' σ' _ (inv_gens I' rfl rfl (allBare_setGen I'.bare hb)) hq'
    · obtain ⟨H', σ', I', hq⟩ := hp
      refine wpAny_bind (wpAny_rule (wpAny_pure ?_))
      exact hT H' σ' _ (I'.call' (ch := []) rfl (Un.kept hk) (I'.hok.kept hk) (allBare_setGen I'.bare rfl) (fun b z => absurd z (by simp))) hq
  | succ n ih =>
    intro s hg hl ⟨gs, hgs, hgo⟩
    have hgl : g < s.gens.size := (Array.getElem?_eq_some_iff.mp hgs).1
    refine codeAny_builtin F.entry_any_loop ?_
    rw [Around.under_plainId F.plain_any_loop _]
    show wpAny _ X.A.in1 (pyNext (.ref a) >>= _) _ _ s
    refine wpAny_bind (wpAny_gsz (n := g + 1) hgl (wpAny_pyNext_genexpQ (A := X.A.in1) (P := fun _ _ s => ∃ H' σ', Inv (CxGen X s3 H3 cenv fp (a, go)) [] σ' H' s ∧ Qt H') hh hl hd hg hgs hgo (fun v s₁ gs' hb hv => ?_) (fun s₁ hp h' hk => ?_)))
    · intro hsz
      obtain ⟨c, H', σ', rfl, I', hq, hk⟩ := hv
      refine wpAny_bind (wpAny_holding (wpAny_truthy_bool ?_))
      refine wpAny_bind (wpAny_letGo ?_)
      have hsz1 : g < s₁.gens.size := by
        have q : (s₁.setGen g gs').gens.size = s₁.gens.size := setGen_size _ _ _
        have hsz' : g + 1 ≤ (s₁.setGen g gs').gens.size := hsz
        omega
      have hpin := (I'.pin (a, go) (List.mem_append_left _ (List.mem_singleton.mpr rfl))).1
      cases hc : c with
      | false =>
        simp only [if_true, Bool.false_eq_true, if_false]
        refine wpAny_pure ⟨plainId_quiet F.plain_any_loop _, ih (s₁.setGen g gs') (hgen _ hpin) I'.nolimit ⟨gs', setGen_at hsz1, ?_⟩⟩
        exact hk hc _ rfl rfl (allBare_setGen (s := s₁.setGen g gs') (allBare_setGen I'.bare hb) rfl)
      | true =>
        have hq' := hq (by rw [hc]; decide)
        simp only [if_true, Bool.false_eq_true, if_false]
        refine wpAny_bind (wpAny_rule (wpAny_pure ?_))
        exact hS H' σ' _ (inv_gens I' rfl rfl (allBare_setGen I'.bare hb)) hq'
    · intro hsz
      obtain ⟨H', σ', I', hq⟩ := hp
      refine wpAny_bind (wpAny_rule (wpAny_pure ?_))
      exact hT H' σ' _ (I'.call' (ch := []) rfl (Un.kept hk) (I'.hok.kept hk) (allBare_setGen I'.bare rfl) (fun b z => absurd z (by simp))) hq


/-! ### the rule -/
/-- any | all of a generator expression; P: the table of the running def's code object -/
def tGen (b0 : Bool) (P : Addr) (wi : TI) (g : TG) (tt : TT) (te : TE) (vs : List Nat) : TE := fun σ H Q => wi σ H fun J H1 => TabG H1 P ∧ ∀ H2, Tabbed P H1 H2 →
  ∃ W : Nat → Nat → Hp → Prop, (∃ m, W 0 m H2) ∧ tTurn b0 J g tt te (wipe σ vs) vs W (Q (.bl b0)) (Q (.bl (!b0)))

/-- what the generator's scope must be -/
structure GenOk (N : List Str) (sc scope : Scope) (own : List (Str × Nat)) : Prop where
  blk : BlkOk N sc scope own
  co : scope.isCoroutine = false
  cell : ∀ y ∈ scope.names, y.2 ≠ .cell
  dot : scope.names.lookup (".0" : Str) = some NameKind.local

section
variable {X : Cx} {pins : List (Addr × Obj)} {σ : L2.St} {H : Hp} {s : Shared}

theorem gen_made {c P : Addr} {elt tg iter : Expr} {ifs : List Expr} {scope : Scope} {own : List (Str × Nat)} {gpos : Pos} {wi : TI} {g : TG} {tt : TT} {te : TE} {k : Nat} {b0 : Bool} {Q : VK} {Q' : Value → Shared → Prop}
    (hr : Room k X.A) (hc : X.calm = true) (hN : X.N.Nodup) (TB : TabB X.base X.mg c P) (hcode : X.env.code = .ref c) (S : GenOk X.N X.env.scope scope own) (hi : PI X tg iter wi)
    (pg : ∀ (s : Shared) (H : Hp) (C : Addr) (code : Value) (fp : List Addr) (go : Addr × Obj), PG (CxGen X s H (genEnv scope (cloFrom X.env.cells scope.names []) C code builtinsNs X.env) fp go) tg g)
    (pt : ∀ (s : Shared) (H : Hp) (C : Addr) (code : Value) (fp : List Addr) (go : Addr × Obj), PTs (CxGen X s H (genEnv scope (cloFrom X.env.cells scope.names []) C code builtinsNs X.env) fp go) ifs tt)
    (pe : ∀ (s : Shared) (H : Hp) (C : Addr) (code : Value) (fp : List Addr) (go : Addr × Obj), PE (CxGen X s H (genEnv scope (cloFrom X.env.cells scope.names []) C code builtinsNs X.env) fp go) elt te)
    (hs : ∀ v, genFold iter X.env v = pure v) (I : Inv X pins σ H s) (h : tGen b0 P wi g tt te (own.map (·.2)) σ H Q)
    (hQ : ∀ (s3 : Shared) (H3 : Hp) (cenv : Env) (fp : List Addr) (a : Addr) (go : Obj) (gn : Nat) (m : Nat) (s5 : Shared),
      (∀ h : Heap, h.get? a = some go → h.IsGen a gn) → s5.heap.IsGen a gn → s5.heap.NoLimit →
      (∀ (H' : Hp) (σ' : L2.St) (s' : Shared), Inv (CxGen X s3 H3 cenv fp (a, go)) [] σ' H' s' → Inv X pins σ H' s') →
      (∃ gs, s5.gens[gn]? = some gs ∧ gs.Goes (model X.prog X.w) X.A.in1.in1 (GRx (CxGen X s3 H3 cenv fp (a, go)) (Q (.bl b0))) (GYx (CxGen X s3 H3 cenv fp (a, go)) (wipe σ (own.map (·.2))) b0 (Q (.bl (!b0)))) (m + 1) (.send .none) (s5.setGen gn .running)) →
      Q' (.ref a) s5) :
    wpAny (model X.prog X.w) X.A (eval (.GeneratorExp elt [⟨tg, iter, ifs, 0⟩] scope gpos) X.env) Q' X.xe s := by
  have hfree : ∀ y ∈ scope.names, y.2 = .free → ∃ c, X.env.cells.lookup y.1 = some c := fun y hy e => by
    rcases S.blk.free y hy e with k | k
    · exact I.ok.has _ (.inl k)
    · exact I.ok.has _ (.inr k)
  refine wpAny_GeneratorExp_make S.co (closure_ok hfree) S.cell S.dot S.blk.kind (by have := hr.dp; omega) ?_ hs
  refine thn (hi.run pins s σ H _ I h) fun xv s1 hx => thn hx fun itv s2 h2 => ?_
  obtain ⟨it, fp, tn, J, H2, rfl, I2, T, st2, f2, ⟨ps, hP, ht⟩, hW⟩ := h2
  have hPs : s2.heap.get? P = some { cls := .none, data := .fields ps } := I2.hok P _ hP
  have hPlt : P < s2.heap.objs.size := Heap.lt_size hPs
  have cd : PySem.W.CodeHd s2.heap c P := TB.code.keeps fun b u e => I2.bk b u e
  have nfP : ∀ b ∈ fp, b ≠ P := fun b hb z => by
    have := (f2 b hb).1
    rw [z, hP] at this; cases this
  have cont : ∀ (code : Value) (h3 : Heap) (tk : Nat) (ps' : Array Value), Heap.ExtBut P s2.heap h3 → s2.heap.objs.size ≤ h3.objs.size → h3.get? P = some { cls := .none, data := .fields ps' } → (∃ more, ps' = ps ++ more) → TriplesOk ps'.toList →
      wpAny (model X.prog X.w) X.A (builtinsFor X.env.globals X.env.builtins) (fun bi s₄ => ∀ h', h'.Ns s₄.heap.objs.size (fun y => if y = (".0" : Str) then some (Value.ref it) else none) → Heap.SameBut s₄.heap.objs.size (s₄.heap.push { cls := .type "frame", data := .dict #[] }) h' →
          Q' (.ref h'.objs.size) { s₄ with
            gens := s₄.gens.push (.fresh (.compStart (.GeneratorExp elt [⟨tg, iter, ifs, 0⟩] scope gpos) 0 (.ref it) .none (genEnv scope (cloFrom X.env.cells scope.names []) s₄.heap.objs.size code bi X.env))),
            toks := s₄.toks + 1 + 1 + 1,
            heap := h'.push { cls := .type "generator", data := .fields #[.int s₄.gens.size 0, .str "<genexpr>" (s₄.toks + 1), .str (X.env.qual ++ "<genexpr>") (s₄.toks + 1 + 1)] } }) X.xe { s2 with heap := h3, toks := tk } := by
    intro code h3 tk ps' hx3 hsz hP3 ⟨more, hmore⟩ ht3
    subst hmore
    obtain ⟨bm, ob, e1, e2, e3, e4, e5, e6, e7, e8⟩ := TB.bm
    have I3 : Inv X pins σ (upd H2 P (.tbl (ps ++ more))) { s2 with heap := h3, toks := tk } :=
      inv_tab (g' := s2.gens) (d' := s2.drawn) (t' := tk) I2 hP (fun b o hb e => hx3 b o hb e) hP3 I2.bare
    refine wpAny_builtinsFor (m := X.mg) (by rw [I.ok.glob]; exact I3.mod.glob.keeps I3.bk) e1 e2 (I3.bk _ _ e5) e6 e7 e8 ?_
    intro h' hn' hs'
    have hszh : h'.objs.size = h3.objs.size + 1 := by rw [hs'.1, Heap.size_push]
    generalize hgo : ({ cls := .type "generator", data := .fields #[.int s2.gens.size 0, .str "<genexpr>" (tk + 1), .str (X.env.qual ++ "<genexpr>") (tk + 1 + 1)] } : Obj) = go
    have hgen : ∀ h : Heap, h.get? h'.objs.size = some go → h.IsGen h'.objs.size s2.gens.size := fun h e => ⟨go, _, _, e, by rw [← hgo], by rw [← hgo], by rw [← hgo]⟩
    have hgot : (h'.push go).get? h'.objs.size = some go := by rw [← hgo]; exact Heap.get?_push_size _ rfl
    have f3 : ∀ b ∈ fp, FpOk X pins (upd H2 P (.tbl (ps ++ more))) b ∧ b < h3.objs.size := fun b hb => by
      obtain ⟨o, e, _⟩ := T.obj _ _ st2 b hb
      refine ⟨⟨by rw [upd_ne (nfP b hb)]; exact (f2 b hb).1, (f2 b hb).2⟩, Nat.lt_of_lt_of_le (Heap.lt_size e) hsz⟩
    have st3 : tn 0 h3 := T.keep _ _ _ st2 fun b hb o e => hx3 b o (nfP b hb) e
    have J5 := gen_start (code := code) (go := go) (gs := .fresh (.compStart (.GeneratorExp elt [⟨tg, iter, ifs, 0⟩] scope gpos) 0 (.ref it) .none (genEnv scope (cloFrom X.env.cells scope.names []) h3.objs.size code builtinsNs X.env))) (tk := tk + 1 + 1 + 1) I3 S.blk hN S.cell f3 rfl (fun v e => by rw [← hgo] at e; cases e) hn' hs' hgot
    obtain ⟨W, ⟨m, w0⟩, turn⟩ := hW (upd H2 P (.tbl (ps ++ more))) ⟨⟨_, upd_same, ht3⟩, fun b hb => upd_ne hb⟩
    have st5 : tn 0 (h'.push go) := T.keep _ _ _ st3 fun b _ o e => Heap.get?_push_of_some _ ((hs'.2 b (Nat.ne_of_lt (Heap.lt_size e))).trans (Heap.get?_push_of_some _ e))
    have hfpgo : h'.objs.size ∉ fp := fun z => by
      have := (f3 _ z).2
      rw [hszh] at this
      exact absurd (Nat.lt_of_succ_lt this) (Nat.lt_irrefl _)
    refine hQ { s2 with heap := h3, toks := tk } (upd H2 P (.tbl (ps ++ more))) (genEnv scope (cloFrom X.env.cells scope.names []) h3.objs.size code builtinsNs X.env) fp h'.objs.size go s2.gens.size m _ hgen (hgen _ hgot) J5.nolimit (fun H' σ' s' I' => ?_) ⟨_, Array.getElem?_push_size .., rfl, ?_⟩
    · exact I3.call' (ch := fp) I'.os I'.base I'.hok I'.bare fun b hb => ⟨(f3 b hb).1.2.2.2.1, (f3 b hb).1.2.1, (f3 b hb).1.2.2.2.2.1, (f3 b hb).1.2.2.2.2.2⟩
    · refine seg_gxStart hc T S.co (pg _ _ _ _ _ _) (pt _ _ _ _ _ _) (pe _ _ _ _ _ _) turn hfpgo m _ _ (upd H2 P (.tbl (ps ++ more))) ?_ st5 (fun b hb => (f3 b hb).1.1) w0
      exact inv_gens J5 rfl rfl (allBare_setGen J5.bare rfl)
  refine ⟨I2.nolimit, ?_⟩
  cases hf : codeAmong gpos ps.toList with
  | none =>
    refine wpAny_genexprCodeX hcode (cd.code hPs ht) (cd.tab hPs) hf fun c' h' tk hx hge hlt hco' _ htab' _ => ?_
    obtain ⟨o1, vs, f1, tf, fl, tg, inF, tx, tt, op, _, _, _, _, _, _, _, _, _, htr, _⟩ := hco'
    exact cont _ h' tk _ hx (Nat.le_trans hge (Nat.le_of_lt hlt)) htab'.2 ⟨_, rfl⟩ htr
  | some cv =>
    refine wpAny_genexprCode_hit hcode (cd.code hPs ht) hf ?_
    exact cont cv s2.heap s2.toks ps (Heap.ExtBut.refl _ _) (Nat.le_refl _) hPs ⟨#[], by simp⟩ ht
end

theorem pe_allG {c P : Addr} {elt tg iter : Expr} {ifs : List Expr} {scope : Scope} {own : List (Str × Nat)} {p pos gpos : Pos} {wi : TI} {g : TG} {tt : TT} {te : TE} {k : Nat} {X : Cx}
    (hr : Room k X.A) (hc : X.calm = true) (hN : X.N.Nodup) (hgl : Gl X "all") (hm : X.mg "all" = none) (TB : TabB X.base X.mg c P) (hcode : X.env.code = .ref c) (S : GenOk X.N X.env.scope scope own) (hi : PI X tg iter wi)
    (pg : ∀ (s : Shared) (H : Hp) (C : Addr) (code : Value) (fp : List Addr) (go : Addr × Obj), PG (CxGen X s H (genEnv scope (cloFrom X.env.cells scope.names []) C code builtinsNs X.env) fp go) tg g)
    (pt : ∀ (s : Shared) (H : Hp) (C : Addr) (code : Value) (fp : List Addr) (go : Addr × Obj), PTs (CxGen X s H (genEnv scope (cloFrom X.env.cells scope.names []) C code builtinsNs X.env) fp go) ifs tt)
    (pe : ∀ (s : Shared) (H : Hp) (C : Addr) (code : Value) (fp : List Addr) (go : Addr × Obj), PE (CxGen X s H (genEnv scope (cloFrom X.env.cells scope.names []) C code builtinsNs X.env) fp go) elt te)
    (hs : ∀ v, genFold iter X.env v = pure v)
    (he : starEach [.GeneratorExp elt [⟨tg, iter, ifs, 0⟩] scope gpos] X.env = (false, eval (.GeneratorExp elt [⟨tg, iter, ifs, 0⟩] scope gpos) X.env) :: starEach [] X.env := by rfl) :
    PE X (.Call (.Name "all" p) [.GeneratorExp elt [⟨tg, iter, ifs, 0⟩] scope gpos] [] pos) (tGen true P wi g tt te (own.map (·.2))) := by
  refine ⟨fun pins s σ H Q I h => ?_⟩
  refine wpAny_Call_Name_kw (ld_blt I hgl hm (by kernel_rfl : bootBuiltins "all" = some (.builtin "all")) ?_)
  refine PyProof.Rows.callWith_builtin1 ?_ he (by rfl)
  rw [he]
  show wpAny _ _ (spliced ((false, eval (.GeneratorExp elt [⟨tg, iter, ifs, 0⟩] scope gpos) X.env) :: backTo pos (starEach [] X.env))) _ _ s
  refine Calls.spliced_cons (gen_made hr hc hN TB hcode S hi pg pt pe hs I h fun s3 H3 cenv fp a go gn m s5 hgen hg hl back gs => ?_)
  refine Calls.spliced_nil ?_
  refine call_function_tree F.kind_all F.plain_all F.entry_all (F.args_all1 _) ?_
  unfold Builtin.«all»
  refine wpAny_bind (m := oneArg "all" _) (wpAny_pure ?_)
  refine wpAny_bind (wpAny_pyIter_gen hg ?_)
  refine wpAny_pure ⟨plainId_quiet F.plain_all_loop _, drain_all hr.hd (by have := hr.dp; omega) hgen (fun H' σ' s' I' q => ?_) (fun H' σ' s' I' q => ?_) (m + 1) s5 hg hl gs⟩
  · exact ⟨.bl true, H', back _ _ _ I', rfl, q⟩
  · exact ⟨.bl (!true), H', back _ _ _ I', rfl, q⟩


theorem pe_anyG {c P : Addr} {elt tg iter : Expr} {ifs : List Expr} {scope : Scope} {own : List (Str × Nat)} {p pos gpos : Pos} {wi : TI} {g : TG} {tt : TT} {te : TE} {k : Nat} {X : Cx}
    (hr : Room k X.A) (hc : X.calm = true) (hN : X.N.Nodup) (hgl : Gl X "any") (hm : X.mg "any" = none) (TB : TabB X.base X.mg c P) (hcode : X.env.code = .ref c) (S : GenOk X.N X.env.scope scope own) (hi : PI X tg iter wi)
    (pg : ∀ (s : Shared) (H : Hp) (C : Addr) (code : Value) (fp : List Addr) (go : Addr × Obj), PG (CxGen X s H (genEnv scope (cloFrom X.env.cells scope.names []) C code builtinsNs X.env) fp go) tg g)
    (pt : ∀ (s : Shared) (H : Hp) (C : Addr) (code : Value) (fp : List Addr) (go : Addr × Obj), PTs (CxGen X s H (genEnv scope (cloFrom X.env.cells scope.names []) C code builtinsNs X.env) fp go) ifs tt)
    (pe : ∀ (s : Shared) (H : Hp) (C : Addr) (code : Value) (fp : List Addr) (go : Addr × Obj), PE (CxGen X s H (genEnv scope (cloFrom X.env.cells scope.names []) C code builtinsNs X.env) fp go) elt te)
    (hs : ∀ v, genFold iter X.env v = pure v)
    (he : starEach [.GeneratorExp elt [⟨tg, iter, ifs, 0⟩] scope gpos] X.env = (false, eval (.GeneratorExp elt [⟨tg, iter, ifs, 0⟩] scope gpos) X.env) :: starEach [] X.env := by rfl) :
    PE X (.Call (.Name "any" p) [.GeneratorExp elt [⟨tg, iter, ifs, 0⟩] scope gpos] [] pos) (tGen false P wi g tt te (own.map (·.2))) := by
  refine ⟨fun pins s σ H Q I h => ?_⟩
  refine wpAny_Call_Name_kw (ld_blt I hgl hm (by kernel_rfl : bootBuiltins "any" = some (.builtin "any")) ?_)
  refine PyProof.Rows.callWith_builtin1 ?_ he (by rfl)
  rw [he]
  show wpAny _ _ (spliced ((false, eval (.GeneratorExp elt [⟨tg, iter, ifs, 0⟩] scope gpos) X.env) :: backTo pos (starEach [] X.env))) _ _ s
  refine Calls.spliced_cons (gen_made hr hc hN TB hcode S hi pg pt pe hs I h fun s3 H3 cenv fp a go gn m s5 hgen hg hl back gs => ?_)
  refine Calls.spliced_nil ?_
  refine call_function_tree F.kind_any F.plain_any F.entry_any (F.args_any1 _) ?_
  unfold Builtin.«any»
  refine wpAny_bind (m := oneArg "any" _) (wpAny_pure ?_)
  refine wpAny_bind (wpAny_pyIter_gen hg ?_)
  refine wpAny_pure ⟨plainId_quiet F.plain_any_loop _, drain_any hr.hd (by have := hr.dp; omega) hgen (fun H' σ' s' I' q => ?_) (fun H' σ' s' I' q => ?_) (m + 1) s5 hg hl gs⟩
  · exact ⟨.bl false, H', back _ _ _ I', rfl, q⟩
  · exact ⟨.bl (!false), H', back _ _ _ I', rfl, q⟩

end Gx

/-! The core language: what a def of the text computes, over plain data. -/
noncomputable section
namespace Ce
open PySem

/-- a slot of a def: not stored; a value that nobody changes; a list or dict that only this slot holds -/
inductive Sl where
  | un | fz (d : PyData) | ow (d : PyData)
abbrev Rho := List Sl

inductive Bop where
  | add | sub | mul | mod | fdiv | pow | shl
inductive Cop where
  | eq | ne | lt | le | gt | ge | isin | notin
inductive B1 where
  | len | abs | int | str
inductive Bi where
  | tuple | list | sorted | sum | max | min | all | any
inductive B2 where
  | max | min
inductive Tyn where
  | int | bool | str | tuple
mutual
inductive Tg where
  | nm (i : Nat) | tp (ts : Tgs)
inductive Tgs where
  | nil | cons (t : Tg) (ts : Tgs)
end
mutual
inductive Ex where
  | var (i : Nat)
  | int (n : Int) | str (s : Str) | bool (b : Bool) | non
  | tup (es : Exs) | lst (es : Exs)
  | bin (op : Bop) (a b : Ex) | neg (a : Ex)
  | not (a : Ex) | and (a b : Ex) | or (a b : Ex)
  | cmp (op : Cop) (a b : Ex) | ch2 (op op' : Cop) (a b c : Ex)
  | isn (a : Ex) | nisn (a : Ex)
  | ife (c a b : Ex)
  | sub (a i : Ex) | sl (a : Ex) (lo hi : Exo) | rev (a : Ex)
  | call (f : Nat) (es : Exs)
  | b1 (b : B1) (a : Ex) | bi (b : Bi) (a : Ex) | conv (l : Bool) (i : It) | b2 (b : B2) (a c : Ex)
  | isi (T : Tyn) (a : Ex)
  | lc (e : Ex) (t : Tg) (i : It) (ifs : Exo)
  | gen (b0 : Bool) (e : Ex) (t : Tg) (i : It) (ifs : Exo)
  | st (l : Bool) (a : Ex)
inductive Exs where
  | nil | cons (e : Ex) (es : Exs)
inductive Exo where
  | no | yes (e : Ex)
inductive It where
  | ex (e : Ex) | rng1 (a : Ex) | rng2 (a b : Ex) | enum (i : Ex)
end

/-! ### operations on data -/
def LIM : Nat := 16777216
/-- where p; never decided by running -/
noncomputable def gd {α : Type} (p : Prop) (x : Option α) : Option α := @ite (Option α) p (Classical.propDecidable p) x none
theorem gd_pos {α : Type} {p : Prop} {x : Option α} (h : p) : gd p x = x := if_pos h
theorem gd_some {α : Type} {p : Prop} {x : Option α} {y : α} : gd p x = some y ↔ p ∧ x = some y := by
  unfold gd
  by_cases h : p
  · rw [if_pos h]; exact ⟨fun e => ⟨h, e⟩, fun e => e.2⟩
  · rw [if_neg h]
    refine ⟨fun e => ?_, fun e => absurd e.1 h⟩
    cases e
@[simp] theorem gd_true {α : Type} (x : Option α) : gd True x = x := gd_pos trivial
@[simp] theorem gd_false {α : Type} (x : Option α) : gd False x = none := if_neg id
@[simp] theorem gd_none {α : Type} (p : Prop) : gd p (none : Option α) = none := by
  unfold gd
  split <;> rfl
def isN : PyData → Bool
  | .none => true
  | _ => false
def truthy : PyData → Option Bool
  | .none => some false
  | .bool b => some b
  | .int i => some (i != 0)
  | .str s => gd (s.length ≤ LIM) (some ((s.length : Int) != 0))
  | .list xs => some (!xs.isEmpty)
  | .tuple xs => some (!xs.isEmpty)
  | .dict kvs => some (!kvs.isEmpty)
def binop : Bop → PyData → PyData → Option PyData
  | .add, .int i, .int j => some (.int (i + j))
  | .add, .str s, .str t => gd (s.length + t.length ≤ LIM) (some (.str (s ++ t)))
  | .add, .tuple xs, .tuple ys => gd (xs.length + ys.length ≤ LIM) (some (.tuple (xs ++ ys)))
  | .add, .list xs, .list ys => gd (xs.length + ys.length ≤ LIM) (some (.list (xs ++ ys)))
  | .sub, .int i, .int j => some (.int (i - j))
  | .mul, .int i, .int j => gd ((-(2 ^ 64) < i ∧ i < 2 ^ 64) ∨ (-(2 ^ 64) < j ∧ j < 2 ^ 64)) (some (.int (i * j)))
  | .mod, .int i, .int j => gd (0 < j) (some (.int (i % j)))
  | .fdiv, .int i, .int j => gd (0 < j ∧ j < 1073741824) (some (.int (i / j)))
  | .pow, .int i, .int j => gd (0 ≤ j ∧ j ≤ 1000000 ∧ i.natAbs < 2 ^ 64) (some (.int (i ^ j.toNat)))
  | .shl, .int i, .int j => gd (0 ≤ j ∧ j ≤ 1000000 ∧ i.natAbs < 2 ^ 64) (some (.int (i * 2 ^ j.toNat)))
  | _, _, _ => none
@[simp] def pk : Nat → PyData → Bool
  | _, .none => true
  | _, .bool _ => true
  | _, .int _ => true
  | _, .str s => PyData.strOk s
  | k + 1, .list xs => xs.all (pk k)
  | k + 1, .tuple xs => xs.all (pk k)
  | _, _ => false
theorem pk_all {k : Nat} (ih : ∀ d : PyData, pk k d = true → d.canLay0 = true ∧ d.depth ≤ k) : ∀ xs : List PyData, xs.all (pk k) = true → PyData.canLayAll0 xs = true ∧ PyData.depthAll xs ≤ k
  | [], _ => ⟨rfl, Nat.zero_le _⟩
  | x :: xs, h => by
    rw [List.all_cons, Bool.and_eq_true] at h
    obtain ⟨h1, h2⟩ := ih x h.1
    obtain ⟨h3, h4⟩ := pk_all ih xs h.2
    refine ⟨by rw [PyData.canLayAll0, h1, h3]; rfl, ?_⟩
    rw [PyData.depthAll]
    omega
theorem pk_ok : ∀ (k : Nat) (d : PyData), pk k d = true → d.canLay0 = true ∧ d.depth ≤ k
  | k, .none, _ => ⟨rfl, Nat.zero_le _⟩
  | k, .bool _, _ => ⟨rfl, Nat.zero_le _⟩
  | k, .int _, _ => ⟨rfl, Nat.zero_le _⟩
  | k, .str s, h => ⟨by simpa [PyData.canLay0] using h, Nat.zero_le _⟩
  | 0, .list xs, h => by simp at h
  | 0, .tuple xs, h => by simp at h
  | 0, .dict xs, h => by simp at h
  | k + 1, .dict xs, h => by simp at h
  | k + 1, .list xs, h => by
    obtain ⟨h1, h2⟩ := pk_all (pk_ok k) xs (by simpa using h)
    exact ⟨by simpa [PyData.canLay0] using h1, by rw [PyData.depth]; omega⟩
  | k + 1, .tuple xs, h => by
    obtain ⟨h1, h2⟩ := pk_all (pk_ok k) xs (by simpa using h)
    exact ⟨by simpa [PyData.canLay0] using h1, by rw [PyData.depth]; omega⟩
theorem pk_shaped {d : PyData} (h : pk 16 d = true) : SeqAt.shaped d = true := by
  obtain ⟨h1, h2⟩ := pk_ok 16 d h
  have h' : (d.canLay0 && decide (d.depth ≤ 64)) = true := by
    rw [h1, Bool.true_and, decide_eq_true_eq]
    omega
  exact h'
@[simp] def isData : PyData → PyData → Bool := fun x y => pk 16 x && pk 16 y
def cmpop : Cop → PyData → PyData → Option Bool
  | .eq, x, y => if isData x y then some (PyData.eqv x y) else none
  | .ne, x, y => if isData x y then some (!PyData.eqv x y) else none
  | .lt, .int i, .int j => some (decide (i < j))
  | .le, .int i, .int j => some (decide (i ≤ j))
  | .gt, .int i, .int j => some (decide (j < i))
  | .ge, .int i, .int j => some (decide (j ≤ i))
  | .lt, .tuple xs, .tuple ys => if isData (.tuple xs) (.tuple ys) && PySem.W.alike (.tuple xs) (.tuple ys) then some (PySem.W.dataLt (.tuple xs) (.tuple ys)) else none
  | .isin, x, .tuple ys => if isData x (.tuple ys) then some (ys.any fun y => PyData.eqv y x) else none
  | .isin, x, .list ys => if isData x (.list ys) then some (ys.any fun y => PyData.eqv y x) else none
  | .notin, x, .tuple ys => if isData x (.tuple ys) then some (!ys.any fun y => PyData.eqv y x) else none
  | .notin, x, .list ys => if isData x (.list ys) then some (!ys.any fun y => PyData.eqv y x) else none
  | _, _, _ => none
def index : PyData → PyData → Option PyData
  | .tuple xs, .int i => L2.atI xs i
  | .list xs, .int i => L2.atI xs i
  | .str z, .int i => gd (z.length ≤ LIM) ((L2.atI z.cps.toList i).map fun c => .str ⟨#[c]⟩)
  | _, _ => none
def cut {α : Type} (xs : List α) (lo hi : Option Int) : List α := (xs.drop (HT.sIx xs.length 0 lo)).take (HT.sIx xs.length xs.length hi - HT.sIx xs.length 0 lo)
def slice (d : PyData) (lo hi : Option Int) : Option PyData := match d with
  | .tuple xs => some (.tuple (cut xs lo hi))
  | .list xs => some (.list (cut xs lo hi))
  | _ => none
def revd : PyData → Option PyData
  | .tuple xs => some (.tuple xs.reverse)
  | .list xs => some (.list xs.reverse)
  | _ => none
def b1op : B1 → PyData → Option PyData
  | .len, .tuple xs => some (.int xs.length)
  | .len, .list xs => some (.int xs.length)
  | .len, .str s => gd (s.length ≤ LIM) (some (.int s.length))
  | .abs, .int i => some (.int (if i < 0 then -i else i))
  | .int, .int i => some (.int i)
  | .str, .int i => gd (i.natAbs.log2 < 1920) (some (.str (toString i)))
  | _, _ => none
def b2op : B2 → PyData → PyData → Option PyData
  | .max, .int i, .int j => some (.int (if j > i then j else i))
  | .min, .int i, .int j => some (.int (if j < i then j else i))
  | _, _, _ => none
def ints? : List PyData → Option (List Int)
  | [] => some []
  | .int i :: r => (ints? r).map (i :: ·)
  | _ :: _ => none
def bools? : List PyData → Option (List Bool)
  | [] => some []
  | .bool i :: r => (bools? r).map (i :: ·)
  | _ :: _ => none
def maxI : List Int → Int
  | [] => 0
  | x :: r => r.foldl (fun m y => if m < y then y else m) x
def minI : List Int → Int
  | [] => 0
  | x :: r => r.foldl (fun m y => if y < m then y else m) x
/-- may these be sorted -/
def sortable (ds : List PyData) : Bool :=
  ds.all (fun d => ds.all fun e => PySem.W.alike d e) && (ds.all (fun d => match d with | .tuple _ => true | _ => false) || ds.all fun d => match d with | .none => false | .tuple _ => false | _ => true) && ds.all fun d => decide (d.depth ≤ 64)
def sortd (ds : List PyData) : List PyData := ds.mergeSort (PySem.W.dataLe false id)
def seq? : PyData → Option (List PyData)
  | .tuple xs => some xs
  | .list xs => some xs
  | _ => none
def lst? : PyData → Option (List PyData)
  | .list xs => some xs
  | _ => none
def biop : Bi → PyData → Option PyData
  | .tuple, d => (seq? d).map .tuple
  | .list, d => (seq? d).map .list
  | .sorted, d => (lst? d).bind fun ds => gd (sortable ds = true ∧ ds.length ≤ LIM) (some (.list (sortd ds)))
  | .sum, d => (lst? d).bind fun ds => (ints? ds).map fun ns => .int ns.sum
  | .max, d => (lst? d).bind fun ds => if ds.isEmpty then none else (ints? ds).map fun ns => .int (maxI ns)
  | .min, d => (lst? d).bind fun ds => if ds.isEmpty then none else (ints? ds).map fun ns => .int (minI ns)
  | .all, d => (lst? d).bind fun ds => (bools? ds).map fun bs => .bool (bs.all id)
  | .any, d => (lst? d).bind fun ds => (bools? ds).map fun bs => .bool (bs.any id)
/-- without repeats -/
def nub {α : Type} [DecidableEq α] : List α → List α
  | [] => []
  | x :: xs => if x ∈ xs then nub xs else x :: nub xs
@[reducible] def tupD (ns : List Int) : PyData := .tuple (ns.map .int)
def tupI? : List PyData → Option (List (List Int))
  | [] => some []
  | .tuple xs :: r => (ints? xs).bind fun ns => (tupI? r).map (ns :: ·)
  | _ :: _ => none
/-- the members of a set, in order -/
def setI (ns : List Int) : List Int := (nub ns).mergeSort fun a b => decide (a ≤ b)
def setT (nss : List (List Int)) : List (List Int) := (nub nss).mergeSort fun a b => decide (a ≤ b)
def setd? (ds : List PyData) : Option (List PyData) := gd (ds.length < 64) (match ints? ds with
  | some ns => some ((setI ns).map .int)
  | none => (tupI? ds).map fun nss => (setT nss).map tupD)
def isTy : Tyn → PyData → Option Bool
  | .int, .int _ => some true
  | .int, .bool _ => some true
  | .int, .str _ => some false
  | .int, .tuple _ => some false
  | .int, .none => some false
  | .int, .list _ => some false
  | .bool, .int _ => some false
  | .bool, .bool _ => some true
  | .bool, .str _ => some false
  | .bool, .tuple _ => some false
  | .bool, .none => some false
  | .bool, .list _ => some false
  | .str, .int _ => some false
  | .str, .bool _ => some false
  | .str, .str _ => some true
  | .str, .tuple _ => some false
  | .str, .none => some false
  | .str, .list _ => some false
  | .tuple, .int _ => some false
  | .tuple, .bool _ => some false
  | .tuple, .str _ => some false
  | .tuple, .tuple _ => some true
  | .tuple, .none => some false
  | .tuple, .list _ => some false
  | _, .dict _ => none
def rng (a b : Int) : Option (List PyData) := gd ((-(2 ^ 62) ≤ a ∧ a < 2 ^ 62 ∧ -(2 ^ 62) ≤ b ∧ b < 2 ^ 62) ∧ (b - a).toNat ≤ LIM) (some ((List.range (b - a).toNat).map fun k => .int (a + (k : Nat))))
def enumd (ds : List PyData) : List PyData := ds.mapIdx fun i d => .tuple [.int i, d]

mutual
def bindT : Tg → PyData → Rho → Option Rho
  | .nm i, d, ρ => if i < ρ.length then some (ρ.set i (.fz d)) else none
  | .tp ts, .tuple ds, ρ => bindTs ts ds ρ
  | .tp _, _, _ => none
def bindTs : Tgs → List PyData → Rho → Option Rho
  | .nil, [], ρ => some ρ
  | .cons t ts, d :: ds, ρ => (bindT t d ρ).bind (bindTs ts ds)
  | _, _, _ => none
end
mutual
def slots : Tg → List Nat
  | .nm i => [i]
  | .tp ts => slotss ts
def slotss : Tgs → List Nat
  | .nil => []
  | .cons t ts => slots t ++ slotss ts
end
def wipeR (ρ : Rho) : List Nat → Rho
  | [] => ρ
  | v :: vs => (wipeR ρ vs).set v .un

/-- a list comprehension's turns -/
def lcF (f : PyData → Option (Option PyData)) : List PyData → Option (List PyData)
  | [] => some []
  | x :: xs => (f x).bind fun r => match r with
    | none => lcF f xs
    | some y => (lcF f xs).map (y :: ·)
/-- all (b0 = true), any (b0 = false) -/
def genF (b0 : Bool) (f : PyData → Option (Option Bool)) : List PyData → Option Bool
  | [] => some b0
  | x :: xs => (f x).bind fun r => match r with
    | none => genF b0 f xs
    | some c => if c = b0 then genF b0 f xs else some (!b0)

abbrev Fns := Nat → List PyData → Option PyData
mutual
def ev (Φ : Fns) : Ex → Rho → Bool → Option PyData
  | .var i, ρ, bor => match ρ[i]? with
    | some (.fz d) => some d
    | some (.ow d) => if bor then some d else none
    | _ => none
  | .int n, _, _ => some (.int n)
  | .str s, _, _ => some (.str s)
  | .bool b, _, _ => some (.bool b)
  | .non, _, _ => some .none
  | .tup es, ρ, _ => (evs Φ es ρ).bind fun ds => gd (ds.length ≤ LIM) (some (.tuple ds))
  | .lst es, ρ, _ => (evs Φ es ρ).bind fun ds => gd (ds.length ≤ LIM) (some (.list ds))
  | .bin op a b, ρ, _ => (ev Φ a ρ true).bind fun x => (ev Φ b ρ true).bind fun y => binop op x y
  | .neg a, ρ, _ => (ev Φ a ρ true).bind fun x => match x with
    | .int i => some (.int (-i))
    | _ => none
  | .not a, ρ, _ => (ev Φ a ρ true).bind fun x => (truthy x).map fun b => .bool (!b)
  | .and a b, ρ, bor => (ev Φ a ρ true).bind fun x => match x with
    | .bool false => some (.bool false)
    | .bool true => ev Φ b ρ bor
    | _ => none
  | .or a b, ρ, bor => (ev Φ a ρ true).bind fun x => match x with
    | .bool true => some (.bool true)
    | .bool false => ev Φ b ρ bor
    | _ => none
  | .cmp op a b, ρ, _ => (ev Φ a ρ true).bind fun x => (ev Φ b ρ true).bind fun y => (cmpop op x y).map .bool
  | .ch2 op op' a b c, ρ, _ => (ev Φ a ρ true).bind fun x => (ev Φ b ρ true).bind fun y => (cmpop op x y).bind fun t =>
      if t = true then (ev Φ c ρ true).bind fun z => (cmpop op' y z).map .bool else some (.bool false)
  | .isn a, ρ, _ => (ev Φ a ρ true).map fun x => .bool (isN x)
  | .nisn a, ρ, _ => (ev Φ a ρ true).map fun x => .bool (!isN x)
  | .ife c a b, ρ, bor => (ev Φ c ρ true).bind fun x => (truthy x).bind fun t => if t = true then ev Φ a ρ bor else ev Φ b ρ bor
  | .sub a i, ρ, _ => (ev Φ a ρ true).bind fun x => (ev Φ i ρ true).bind fun y => index x y
  | .sl a lo hi, ρ, _ => (ev Φ a ρ true).bind fun x => (evo Φ lo ρ).bind fun l => (evo Φ hi ρ).bind fun h => slice x l h
  | .rev a, ρ, _ => (ev Φ a ρ true).bind revd
  | .call f es, ρ, _ => (evs Φ es ρ).bind (Φ f)
  | .b1 b a, ρ, _ => (ev Φ a ρ true).bind (b1op b)
  | .bi b a, ρ, _ => (ev Φ a ρ true).bind (biop b)
  | .conv l i, ρ, _ => (itms Φ i ρ true).map fun ds => if l = true then .list ds else .tuple ds
  | .b2 b a c, ρ, _ => (ev Φ a ρ true).bind fun x => (ev Φ c ρ true).bind fun y => b2op b x y
  | .isi T a, ρ, _ => (ev Φ a ρ true).bind fun x => (isTy T x).map .bool
  | .lc e t i ifs, ρ, _ => (itms Φ i ρ true).bind fun ds => gd (ds.length ≤ LIM) <| (lcF (fun d => (bindT t d (wipeR ρ (slots t))).bind fun ρ1 => (tsto Φ ifs ρ1).bind fun c => if c = true then (ev Φ e ρ1 false).map some else some none) ds).map .list
  | .gen b0 e t i ifs, ρ, _ => (itms Φ i ρ true).bind fun ds => (genF b0 (fun d => (bindT t d (wipeR ρ (slots t))).bind fun ρ1 => (tsto Φ ifs ρ1).bind fun c => if c = true then (ev Φ e ρ1 true).bind fun x => match x with
      | .bool r => some (some r)
      | _ => none
    else some none) ds).map .bool
  | .st l a, ρ, _ => (ev Φ a ρ true).bind fun x => (seq? x).bind fun ds => (setd? ds).map fun es => if l = true then .int es.length else .list es
def evs (Φ : Fns) : Exs → Rho → Option (List PyData)
  | .nil, _ => some []
  | .cons e es, ρ => (ev Φ e ρ false).bind fun d => (evs Φ es ρ).map (d :: ·)
/-- a part of a slice -/
def evo (Φ : Fns) : Exo → Rho → Option (Option Int)
  | .no, _ => some none
  | .yes e, ρ => (ev Φ e ρ true).bind fun x => match x with
    | .int i => some (some i)
    | _ => none
/-- a comprehension's test -/
def tsto (Φ : Fns) : Exo → Rho → Option Bool
  | .no, _ => some true
  | .yes e, ρ => (ev Φ e ρ true).bind truthy
def itms (Φ : Fns) : It → Rho → Bool → Option (List PyData)
  | .ex e, ρ, bor => (ev Φ e ρ bor).bind seq?
  | .rng1 a, ρ, _ => (ev Φ a ρ true).bind fun x => match x with
    | .int n => rng 0 n
    | _ => none
  | .rng2 a b, ρ, _ => (ev Φ a ρ true).bind fun x => (ev Φ b ρ true).bind fun y => match x, y with
    | .int i, .int j => rng i j
    | _, _ => none
  | .enum e, ρ, bor => (ev Φ e ρ bor).bind fun x => (seq? x).map enumd
end
@[simp] def tst (Φ : Fns) (e : Ex) (ρ : Rho) : Option Bool := (ev Φ e ρ true).bind truthy

/-! ### statements -/
mutual
inductive Sm where
  | asg (t : Tg) (e : Ex)
  | own (i : Nat) (e : Ex)
  | ret (e : Ex)
  | ife (c : Ex) (a b : Sms)
  | for (t : Tg) (i : It) (body : Sms)
  | whl (c : Ex) (body : Sms)
  | app (x : Nat) (e : Ex)
  | aug (i : Nat) (b : Bool) (e : Ex)
  | frz (is : List Nat) (s : Sm)
  | cont | brk | pass
inductive Sms where
  | nil | cons (s : Sm) (r : Sms)
end
inductive Res where
  | nx (ρ : Rho) | rt (d : PyData) | ct (ρ : Rho) | bk (ρ : Rho)
def frzR : Rho → List Nat → Rho
  | ρ, [] => ρ
  | ρ, i :: is => frzR (match ρ[i]? with
    | some (.ow d) => ρ.set i (.fz d)
    | _ => ρ) is
def forF (f : PyData → Rho → Option Res) : List PyData → Rho → Option Res
  | [], ρ => some (.nx ρ)
  | x :: xs, ρ => (f x ρ).bind fun r => match r with
    | .nx ρ' => forF f xs ρ'
    | .ct ρ' => forF f xs ρ'
    | .bk ρ' => some (.nx ρ')
    | .rt d => some (.rt d)
def whileF (c : Rho → Option Bool) (f : Rho → Option Res) : Nat → Rho → Option Res
  | 0, _ => none
  | n + 1, ρ => (c ρ).bind fun t => if t = true then (f ρ).bind fun r => match r with
      | .nx ρ' => whileF c f n ρ'
      | .ct ρ' => whileF c f n ρ'
      | .bk ρ' => some (.nx ρ')
      | .rt d => some (.rt d)
    else some (.nx ρ)
@[simp] def isMut : PyData → Bool
  | .list _ => true
  | .dict _ => true
  | _ => false
mutual
def exS (Φ : Fns) (n : Nat) : Sm → Rho → Option Res
  | .asg t e, ρ => (ev Φ e ρ false).bind fun d => (bindT t d ρ).map .nx
  | .own i e, ρ => (ev Φ e ρ false).bind fun d => if isMut d = true ∧ i < ρ.length then some (.nx (ρ.set i (.ow d))) else none
  | .ret e, ρ => (ev Φ e ρ false).map .rt
  | .ife c a b, ρ => (tst Φ c ρ).bind fun t => if t = true then exSs Φ n a ρ else exSs Φ n b ρ
  | .for t i body, ρ => (itms Φ i ρ false).bind fun ds => forF (fun d ρ' => (bindT t d ρ').bind (exSs Φ n body)) ds ρ
  | .whl c body, ρ => whileF (tst Φ c) (exSs Φ n body) n ρ
  | .app x e, ρ => (ev Φ e ρ false).bind fun d => match ρ[x]? with
    | some (.ow (.list ds)) => gd (ds.length < LIM) (some (.nx (ρ.set x (.ow (.list (ds ++ [d]))))))
    | _ => none
  | .aug i b e, ρ => (ev Φ e ρ true).bind fun d => match ρ[i]?, d with
    | some (.fz (.int x)), .int y => some (.nx (ρ.set i (.fz (.int (if b = true then x + y else x - y)))))
    | _, _ => none
  | .frz is s, ρ => exS Φ n s (frzR ρ is)
  | .cont, ρ => some (.ct ρ)
  | .brk, ρ => some (.bk ρ)
  | .pass, ρ => some (.nx ρ)
def exSs (Φ : Fns) (n : Nat) : Sms → Rho → Option Res
  | .nil, ρ => some (.nx ρ)
  | .cons s r, ρ => (exS Φ n s ρ).bind fun x => match x with
    | .nx ρ' => exSs Φ n r ρ'
    | y => some y
end
/-- a def: how many slots, its parameters' number, its body -/
@[simp] def startR (k : Nat) (ds : List PyData) : Rho := ds.map .fz ++ List.replicate (k - ds.length) .un
@[simp] def runD (Φ : Fns) (n k : Nat) (body : Sms) (ds : List PyData) : Option PyData := match exSs Φ n body (startR k ds) with
  | some (.rt d) => some d
  | some (.nx _) => some .none
  | _ => none
/-! the equations, told so that each step stands in the proof -/
section
@[simp] theorem isN_d0 : isN .none = true := rfl
@[simp] theorem isN_d1 (b : Bool) : isN (.bool b) = false := rfl
@[simp] theorem isN_d2 (b : Int) : isN (.int b) = false := rfl
@[simp] theorem isN_d3 (b : Str) : isN (.str b) = false := rfl
@[simp] theorem isN_d4 (b : List PyData) : isN (.tuple b) = false := rfl
@[simp] theorem isN_d5 (b : List PyData) : isN (.list b) = false := rfl
@[simp] theorem truthy_c0  : truthy .none = some false := by
  first
  | rfl
  | (unfold truthy; rfl)
@[simp] theorem truthy_c1 (b : Bool) : truthy (.bool b) = some b := by
  first
  | rfl
  | (unfold truthy; rfl)
@[simp] theorem truthy_c2 (i : Int) : truthy (.int i) = some (i != 0) := by
  first
  | rfl
  | (unfold truthy; rfl)
@[simp] theorem truthy_c3 (s : Str) : truthy (.str s) = gd (s.length ≤ LIM) (some ((s.length : Int) != 0)) := by
  first
  | rfl
  | (unfold truthy; rfl)
@[simp] theorem truthy_c4 (xs : List PyData) : truthy (.list xs) = some (!xs.isEmpty) := by
  first
  | rfl
  | (unfold truthy; rfl)
@[simp] theorem truthy_c5 (xs : List PyData) : truthy (.tuple xs) = some (!xs.isEmpty) := by
  first
  | rfl
  | (unfold truthy; rfl)
@[simp] theorem truthy_c6 (kvs : List (PyData × PyData)) : truthy (.dict kvs) = some (!kvs.isEmpty) := by
  first
  | rfl
  | (unfold truthy; rfl)
@[simp] theorem binop_c0 (i : Int) (j : Int) : binop .add (.int i) (.int j) = some (.int (i + j)) := by
  first
  | rfl
  | (unfold binop; rfl)
@[simp] theorem binop_c1 (s : Str) (t : Str) : binop .add (.str s) (.str t) = gd (s.length + t.length ≤ LIM) (some (.str (s ++ t))) := by
  first
  | rfl
  | (unfold binop; rfl)
@[simp] theorem binop_c2 (xs : List PyData) (ys : List PyData) : binop .add (.tuple xs) (.tuple ys) = gd (xs.length + ys.length ≤ LIM) (some (.tuple (xs ++ ys))) := by
  first
  | rfl
  | (unfold binop; rfl)
@[simp] theorem binop_c3 (xs : List PyData) (ys : List PyData) : binop .add (.list xs) (.list ys) = gd (xs.length + ys.length ≤ LIM) (some (.list (xs ++ ys))) := by
  first
  | rfl
  | (unfold binop; rfl)
@[simp] theorem binop_c4 (i : Int) (j : Int) : binop .sub (.int i) (.int j) = some (.int (i - j)) := by
  first
  | rfl
  | (unfold binop; rfl)
@[simp] theorem binop_c5 (i : Int) (j : Int) : binop .mul (.int i) (.int j) = gd ((-(2 ^ 64) < i ∧ i < 2 ^ 64) ∨ (-(2 ^ 64) < j ∧ j < 2 ^ 64)) (some (.int (i * j))) := by
  first
  | rfl
  | (unfold binop; rfl)
@[simp] theorem binop_c6 (i : Int) (j : Int) : binop .mod (.int i) (.int j) = gd (0 < j) (some (.int (i % j))) := by
  first
  | rfl
  | (unfold binop; rfl)
@[simp] theorem binop_c7 (i : Int) (j : Int) : binop .fdiv (.int i) (.int j) = gd (0 < j ∧ j < 1073741824) (some (.int (i / j))) := by
  first
  | rfl
  | (unfold binop; rfl)
@[simp] theorem binop_c8 (i : Int) (j : Int) : binop .pow (.int i) (.int j) = gd (0 ≤ j ∧ j ≤ 1000000 ∧ i.natAbs < 2 ^ 64) (some (.int (i ^ j.toNat))) := by
  first
  | rfl
  | (unfold binop; rfl)
@[simp] theorem binop_c9 (i : Int) (j : Int) : binop .shl (.int i) (.int j) = gd (0 ≤ j ∧ j ≤ 1000000 ∧ i.natAbs < 2 ^ 64) (some (.int (i * 2 ^ j.toNat))) := by
  first
  | rfl
  | (unfold binop; rfl)
@[simp] theorem cmpop_c0 (x : PyData) (y : PyData) : cmpop .eq x y = if isData x y then some (PyData.eqv x y) else none := by
  first
  | rfl
  | (unfold cmpop; rfl)
@[simp] theorem cmpop_c1 (x : PyData) (y : PyData) : cmpop .ne x y = if isData x y then some (!PyData.eqv x y) else none := by
  first
  | rfl
  | (unfold cmpop; rfl)
@[simp] theorem cmpop_c2 (i : Int) (j : Int) : cmpop .lt (.int i) (.int j) = some (decide (i < j)) := by
  first
  | rfl
  | (unfold cmpop; rfl)
@[simp] theorem cmpop_c3 (i : Int) (j : Int) : cmpop .le (.int i) (.int j) = some (decide (i ≤ j)) := by
  first
  | rfl
  | (unfold cmpop; rfl)
@[simp] theorem cmpop_c4 (i : Int) (j : Int) : cmpop .gt (.int i) (.int j) = some (decide (j < i)) := by
  first
  | rfl
  | (unfold cmpop; rfl)
@[simp] theorem cmpop_c5 (i : Int) (j : Int) : cmpop .ge (.int i) (.int j) = some (decide (j ≤ i)) := by
  first
  | rfl
  | (unfold cmpop; rfl)
@[simp] theorem cmpop_c6 (xs : List PyData) (ys : List PyData) : cmpop .lt (.tuple xs) (.tuple ys) = if isData (.tuple xs) (.tuple ys) && PySem.W.alike (.tuple xs) (.tuple ys) then some (PySem.W.dataLt (.tuple xs) (.tuple ys)) else none := by
  first
  | rfl
  | (unfold cmpop; rfl)
@[simp] theorem cmpop_c7 (x : PyData) (ys : List PyData) : cmpop .isin x (.tuple ys) = if isData x (.tuple ys) then some (ys.any fun y => PyData.eqv y x) else none := by
  first
  | rfl
  | (unfold cmpop; rfl)
@[simp] theorem cmpop_c8 (x : PyData) (ys : List PyData) : cmpop .isin x (.list ys) = if isData x (.list ys) then some (ys.any fun y => PyData.eqv y x) else none := by
  first
  | rfl
  | (unfold cmpop; rfl)
@[simp] theorem cmpop_c9 (x : PyData) (ys : List PyData) : cmpop .notin x (.tuple ys) = if isData x (.tuple ys) then some (!ys.any fun y => PyData.eqv y x) else none := by
  first
  | rfl
  | (unfold cmpop; rfl)
@[simp] theorem cmpop_c10 (x : PyData) (ys : List PyData) : cmpop .notin x (.list ys) = if isData x (.list ys) then some (!ys.any fun y => PyData.eqv y x) else none := by
  first
  | rfl
  | (unfold cmpop; rfl)
@[simp] theorem index_c0 (xs : List PyData) (i : Int) : index (.tuple xs) (.int i) = L2.atI xs i := by
  first
  | rfl
  | (unfold index; rfl)
@[simp] theorem index_c1 (xs : List PyData) (i : Int) : index (.list xs) (.int i) = L2.atI xs i := by
  first
  | rfl
  | (unfold index; rfl)
@[simp] theorem index_c2 (z : Str) (i : Int) : index (.str z) (.int i) = gd (z.length ≤ LIM) ((L2.atI z.cps.toList i).map fun c => .str ⟨#[c]⟩) := by
  first
  | rfl
  | (unfold index; rfl)
@[simp] theorem slice_c0 (xs : List PyData) (lo : Option Int) (hi : Option Int) : slice (.tuple xs) lo hi = some (.tuple (cut xs lo hi)) := by
  first
  | rfl
  | (unfold slice; rfl)
@[simp] theorem slice_c1 (xs : List PyData) (lo : Option Int) (hi : Option Int) : slice (.list xs) lo hi = some (.list (cut xs lo hi)) := by
  first
  | rfl
  | (unfold slice; rfl)
@[simp] theorem revd_c0 (xs : List PyData) : revd (.tuple xs) = some (.tuple xs.reverse) := by
  first
  | rfl
  | (unfold revd; rfl)
@[simp] theorem revd_c1 (xs : List PyData) : revd (.list xs) = some (.list xs.reverse) := by
  first
  | rfl
  | (unfold revd; rfl)
@[simp] theorem b1op_c0 (xs : List PyData) : b1op .len (.tuple xs) = some (.int xs.length) := by
  first
  | rfl
  | (unfold b1op; rfl)
@[simp] theorem b1op_c1 (xs : List PyData) : b1op .len (.list xs) = some (.int xs.length) := by
  first
  | rfl
  | (unfold b1op; rfl)
@[simp] theorem b1op_c2 (s : Str) : b1op .len (.str s) = gd (s.length ≤ LIM) (some (.int s.length)) := by
  first
  | rfl
  | (unfold b1op; rfl)
@[simp] theorem b1op_c3 (i : Int) : b1op .abs (.int i) = some (.int (if i < 0 then -i else i)) := by
  first
  | rfl
  | (unfold b1op; rfl)
@[simp] theorem b1op_c4 (i : Int) : b1op .int (.int i) = some (.int i) := by
  first
  | rfl
  | (unfold b1op; rfl)
@[simp] theorem b1op_c5 (i : Int) : b1op .str (.int i) = gd (i.natAbs.log2 < 1920) (some (.str (toString i))) := by
  first
  | rfl
  | (unfold b1op; rfl)
@[simp] theorem b2op_c0 (i : Int) (j : Int) : b2op .max (.int i) (.int j) = some (.int (if j > i then j else i)) := by
  first
  | rfl
  | (unfold b2op; rfl)
@[simp] theorem b2op_c1 (i : Int) (j : Int) : b2op .min (.int i) (.int j) = some (.int (if j < i then j else i)) := by
  first
  | rfl
  | (unfold b2op; rfl)
@[simp] theorem intsQ_c0  : ints? [] = some [] := by
  rw [ints?]
@[simp] theorem intsQ_c1 (i : Int) (r : List PyData) : ints? (.int i :: r) = (ints? r).map (i :: ·) := by
  rw [ints?]
@[simp] theorem boolsQ_c0  : bools? [] = some [] := by
  rw [bools?]
@[simp] theorem boolsQ_c1 (i : Bool) (r : List PyData) : bools? (.bool i :: r) = (bools? r).map (i :: ·) := by
  rw [bools?]
@[simp] theorem seqQ_c0 (xs : List PyData) : seq? (.tuple xs) = some xs := by
  first
  | rfl
  | (unfold seq?; rfl)
@[simp] theorem seqQ_c1 (xs : List PyData) : seq? (.list xs) = some xs := by
  first
  | rfl
  | (unfold seq?; rfl)
@[simp] theorem lstQ_c0 (xs : List PyData) : lst? (.list xs) = some xs := by
  first
  | rfl
  | (unfold lst?; rfl)
@[simp] theorem biop_c0 (d : PyData) : biop .tuple d = (seq? d).map .tuple := by
  first
  | rfl
  | (unfold biop; rfl)
@[simp] theorem biop_c1 (d : PyData) : biop .list d = (seq? d).map .list := by
  first
  | rfl
  | (unfold biop; rfl)
@[simp] theorem biop_c2 (d : PyData) : biop .sorted d = (lst? d).bind fun ds => gd (sortable ds = true ∧ ds.length ≤ LIM) (some (.list (sortd ds))) := by
  first
  | rfl
  | (unfold biop; rfl)
@[simp] theorem biop_c3 (d : PyData) : biop .sum d = (lst? d).bind fun ds => (ints? ds).map fun ns => .int ns.sum := by
  first
  | rfl
  | (unfold biop; rfl)
@[simp] theorem biop_c4 (d : PyData) : biop .max d = (lst? d).bind fun ds => if ds.isEmpty then none else (ints? ds).map fun ns => .int (maxI ns) := by
  first
  | rfl
  | (unfold biop; rfl)
@[simp] theorem biop_c5 (d : PyData) : biop .min d = (lst? d).bind fun ds => if ds.isEmpty then none else (ints? ds).map fun ns => .int (minI ns) := by
  first
  | rfl
  | (unfold biop; rfl)
@[simp] theorem biop_c6 (d : PyData) : biop .all d = (lst? d).bind fun ds => (bools? ds).map fun bs => .bool (bs.all id) := by
  first
  | rfl
  | (unfold biop; rfl)
@[simp] theorem biop_c7 (d : PyData) : biop .any d = (lst? d).bind fun ds => (bools? ds).map fun bs => .bool (bs.any id) := by
  first
  | rfl
  | (unfold biop; rfl)
@[simp] theorem isTy_c0 (q0 : Int) : isTy .int (.int q0) = some true := by
  first
  | rfl
  | (unfold isTy; rfl)
@[simp] theorem isTy_c1 (q0 : Bool) : isTy .int (.bool q0) = some true := by
  first
  | rfl
  | (unfold isTy; rfl)
@[simp] theorem isTy_c2 (q0 : Str) : isTy .int (.str q0) = some false := by
  first
  | rfl
  | (unfold isTy; rfl)
@[simp] theorem isTy_c3 (q0 : List PyData) : isTy .int (.tuple q0) = some false := by
  first
  | rfl
  | (unfold isTy; rfl)
@[simp] theorem isTy_c4  : isTy .int .none = some false := by
  first
  | rfl
  | (unfold isTy; rfl)
@[simp] theorem isTy_c5 (q0 : List PyData) : isTy .int (.list q0) = some false := by
  first
  | rfl
  | (unfold isTy; rfl)
@[simp] theorem isTy_c6 (q0 : Int) : isTy .bool (.int q0) = some false := by
  first
  | rfl
  | (unfold isTy; rfl)
@[simp] theorem isTy_c7 (q0 : Bool) : isTy .bool (.bool q0) = some true := by
  first
  | rfl
  | (unfold isTy; rfl)
@[simp] theorem isTy_c8 (q0 : Str) : isTy .bool (.str q0) = some false := by
  first
  | rfl
  | (unfold isTy; rfl)
@[simp] theorem isTy_c9 (q0 : List PyData) : isTy .bool (.tuple q0) = some false := by
  first
  | rfl
  | (unfold isTy; rfl)
@[simp] theorem isTy_c10  : isTy .bool .none = some false := by
  first
  | rfl
  | (unfold isTy; rfl)
@[simp] theorem isTy_c11 (q0 : List PyData) : isTy .bool (.list q0) = some false := by
  first
  | rfl
  | (unfold isTy; rfl)
@[simp] theorem isTy_c12 (q0 : Int) : isTy .str (.int q0) = some false := by
  first
  | rfl
  | (unfold isTy; rfl)
@[simp] theorem isTy_c13 (q0 : Bool) : isTy .str (.bool q0) = some false := by
  first
  | rfl
  | (unfold isTy; rfl)
@[simp] theorem isTy_c14 (q0 : Str) : isTy .str (.str q0) = some true := by
  first
  | rfl
  | (unfold isTy; rfl)
@[simp] theorem isTy_c15 (q0 : List PyData) : isTy .str (.tuple q0) = some false := by
  first
  | rfl
  | (unfold isTy; rfl)
@[simp] theorem isTy_c16  : isTy .str .none = some false := by
  first
  | rfl
  | (unfold isTy; rfl)
@[simp] theorem isTy_c17 (q0 : List PyData) : isTy .str (.list q0) = some false := by
  first
  | rfl
  | (unfold isTy; rfl)
@[simp] theorem isTy_c18 (q0 : Int) : isTy .tuple (.int q0) = some false := by
  first
  | rfl
  | (unfold isTy; rfl)
@[simp] theorem isTy_c19 (q0 : Bool) : isTy .tuple (.bool q0) = some false := by
  first
  | rfl
  | (unfold isTy; rfl)
@[simp] theorem isTy_c20 (q0 : Str) : isTy .tuple (.str q0) = some false := by
  first
  | rfl
  | (unfold isTy; rfl)
@[simp] theorem isTy_c21 (q0 : List PyData) : isTy .tuple (.tuple q0) = some true := by
  first
  | rfl
  | (unfold isTy; rfl)
@[simp] theorem isTy_c22  : isTy .tuple .none = some false := by
  first
  | rfl
  | (unfold isTy; rfl)
@[simp] theorem isTy_c23 (q0 : List PyData) : isTy .tuple (.list q0) = some false := by
  first
  | rfl
  | (unfold isTy; rfl)
@[simp] theorem isN_c0  : isN .none = true := by
  first
  | rfl
  | (unfold isN; rfl)
@[simp] theorem bindT_e0 (i : Nat) (d : PyData) (ρ : Rho) : bindT (.nm i) d ρ = if i < ρ.length then some (ρ.set i (.fz d)) else none := by
  rw [bindT]
@[simp] theorem bindT_e1 (ts : Tgs) (ds : List PyData) (ρ : Rho) : bindT (.tp ts) (.tuple ds) ρ = bindTs ts ds ρ := by
  rw [bindT]
@[simp] theorem bindTs_e0 (ρ : Rho) : bindTs .nil [] ρ = some ρ := by
  rw [bindTs]
@[simp] theorem bindTs_e1 (t : Tg) (ts : Tgs) (d : PyData) (ds : List PyData) (ρ : Rho) : bindTs (.cons t ts) (d :: ds) ρ = (bindT t d ρ).bind (bindTs ts ds) := by
  rw [bindTs]
@[simp] theorem slots_e0 (i : Nat) : slots (.nm i) = [i] := by
  rw [slots]
@[simp] theorem slots_e1 (ts : Tgs) : slots (.tp ts) = slotss ts := by
  rw [slots]
@[simp] theorem slotss_e0 : slotss .nil = [] := by
  rw [slotss]
@[simp] theorem slotss_e1 (t : Tg) (ts : Tgs) : slotss (.cons t ts) = slots t ++ slotss ts := by
  rw [slotss]
@[simp] theorem wipeR_e0 (ρ : Rho) : wipeR ρ [] = ρ := by
  rw [wipeR]
@[simp] theorem wipeR_e1 (ρ : Rho) (v : Nat) (vs : List Nat) : wipeR ρ (v :: vs) = (wipeR ρ vs).set v .un := by
  rw [wipeR]
@[simp] theorem frzR_e0 (ρ : Rho) : frzR ρ [] = ρ := by
  rw [frzR]
@[simp] theorem frzR_e1 (ρ : Rho) (i : Nat) (is : List Nat) : frzR ρ (i :: is) = frzR (match ρ[i]? with
    | some (.ow d) => ρ.set i (.fz d)
    | _ => ρ) is := by
  rw [frzR]
@[simp] theorem ev_e0 (Φ : Fns) (i : Nat) (ρ : Rho) (bor : Bool) : ev Φ (.var i) ρ bor = match ρ[i]? with
    | some (.fz d) => some d
    | some (.ow d) => if bor then some d else none
    | _ => none := by
  rw [ev]
@[simp] theorem ev_e1 (Φ : Fns) (n : Int) (z0 : Rho) (z1 : Bool) : ev Φ (.int n) z0 z1 = some (.int n) := by
  rw [ev]
@[simp] theorem ev_e2 (Φ : Fns) (s : Str) (z0 : Rho) (z1 : Bool) : ev Φ (.str s) z0 z1 = some (.str s) := by
  rw [ev]
@[simp] theorem ev_e3 (Φ : Fns) (b : Bool) (z0 : Rho) (z1 : Bool) : ev Φ (.bool b) z0 z1 = some (.bool b) := by
  rw [ev]
@[simp] theorem ev_e4 (Φ : Fns)  (z0 : Rho) (z1 : Bool) : ev Φ .non z0 z1 = some .none := by
  rw [ev]
@[simp] theorem ev_e5 (Φ : Fns) (es : Exs) (ρ : Rho) (z1 : Bool) : ev Φ (.tup es) ρ z1 = (evs Φ es ρ).bind fun ds => gd (ds.length ≤ LIM) (some (.tuple ds)) := by
  rw [ev]
@[simp] theorem ev_e6 (Φ : Fns) (es : Exs) (ρ : Rho) (z1 : Bool) : ev Φ (.lst es) ρ z1 = (evs Φ es ρ).bind fun ds => gd (ds.length ≤ LIM) (some (.list ds)) := by
  rw [ev]
@[simp] theorem ev_e7 (Φ : Fns) (op : Bop) (a b : Ex) (ρ : Rho) (z1 : Bool) : ev Φ (.bin op a b) ρ z1 = (ev Φ a ρ true).bind fun x => (ev Φ b ρ true).bind fun y => binop op x y := by
  rw [ev]
@[simp] theorem ev_e8 (Φ : Fns) (a : Ex) (ρ : Rho) (z1 : Bool) : ev Φ (.neg a) ρ z1 = (ev Φ a ρ true).bind fun x => match x with
    | .int i => some (.int (-i))
    | _ => none := by
  rw [ev]
@[simp] theorem ev_e9 (Φ : Fns) (a : Ex) (ρ : Rho) (z1 : Bool) : ev Φ (.not a) ρ z1 = (ev Φ a ρ true).bind fun x => (truthy x).map fun b => .bool (!b) := by
  rw [ev]
@[simp] theorem ev_e10 (Φ : Fns) (a b : Ex) (ρ : Rho) (bor : Bool) : ev Φ (.and a b) ρ bor = (ev Φ a ρ true).bind fun x => match x with
    | .bool false => some (.bool false)
    | .bool true => ev Φ b ρ bor
    | _ => none := by
  rw [ev]
@[simp] theorem ev_e11 (Φ : Fns) (a b : Ex) (ρ : Rho) (bor : Bool) : ev Φ (.or a b) ρ bor = (ev Φ a ρ true).bind fun x => match x with
    | .bool true => some (.bool true)
    | .bool false => ev Φ b ρ bor
    | _ => none := by
  rw [ev]
@[simp] theorem ev_e12 (Φ : Fns) (op : Cop) (a b : Ex) (ρ : Rho) (z1 : Bool) : ev Φ (.cmp op a b) ρ z1 = (ev Φ a ρ true).bind fun x => (ev Φ b ρ true).bind fun y => (cmpop op x y).map .bool := by
  rw [ev]
@[simp] theorem ev_e13 (Φ : Fns) (op op' : Cop) (a b c : Ex) (ρ : Rho) (z1 : Bool) : ev Φ (.ch2 op op' a b c) ρ z1 = (ev Φ a ρ true).bind fun x => (ev Φ b ρ true).bind fun y => (cmpop op x y).bind fun t =>
      if t = true then (ev Φ c ρ true).bind fun z => (cmpop op' y z).map .bool else some (.bool false) := by
  rw [ev]
@[simp] theorem ev_e14 (Φ : Fns) (a : Ex) (ρ : Rho) (z1 : Bool) : ev Φ (.isn a) ρ z1 = (ev Φ a ρ true).map fun x => .bool (isN x) := by
  rw [ev]
@[simp] theorem ev_e15 (Φ : Fns) (a : Ex) (ρ : Rho) (z1 : Bool) : ev Φ (.nisn a) ρ z1 = (ev Φ a ρ true).map fun x => .bool (!isN x) := by
  rw [ev]
@[simp] theorem ev_e16 (Φ : Fns) (c a b : Ex) (ρ : Rho) (bor : Bool) : ev Φ (.ife c a b) ρ bor = (ev Φ c ρ true).bind fun x => (truthy x).bind fun t => if t = true then ev Φ a ρ bor else ev Φ b ρ bor := by
  rw [ev]
@[simp] theorem ev_e17 (Φ : Fns) (a i : Ex) (ρ : Rho) (z1 : Bool) : ev Φ (.sub a i) ρ z1 = (ev Φ a ρ true).bind fun x => (ev Φ i ρ true).bind fun y => index x y := by
  rw [ev]
@[simp] theorem ev_e18 (Φ : Fns) (a : Ex) (lo hi : Exo) (ρ : Rho) (z1 : Bool) : ev Φ (.sl a lo hi) ρ z1 = (ev Φ a ρ true).bind fun x => (evo Φ lo ρ).bind fun l => (evo Φ hi ρ).bind fun h => slice x l h := by
  rw [ev]
@[simp] theorem ev_e19 (Φ : Fns) (a : Ex) (ρ : Rho) (z1 : Bool) : ev Φ (.rev a) ρ z1 = (ev Φ a ρ true).bind revd := by
  rw [ev]
@[simp] theorem ev_e20 (Φ : Fns) (f : Nat) (es : Exs) (ρ : Rho) (z1 : Bool) : ev Φ (.call f es) ρ z1 = (evs Φ es ρ).bind (Φ f) := by
  rw [ev]
@[simp] theorem ev_e21 (Φ : Fns) (b : B1) (a : Ex) (ρ : Rho) (z1 : Bool) : ev Φ (.b1 b a) ρ z1 = (ev Φ a ρ true).bind (b1op b) := by
  rw [ev]
@[simp] theorem ev_e22 (Φ : Fns) (b : Bi) (a : Ex) (ρ : Rho) (z1 : Bool) : ev Φ (.bi b a) ρ z1 = (ev Φ a ρ true).bind (biop b) := by
  rw [ev]
@[simp] theorem ev_e23 (Φ : Fns) (l : Bool) (i : It) (ρ : Rho) (z1 : Bool) : ev Φ (.conv l i) ρ z1 = (itms Φ i ρ true).map fun ds => if l = true then .list ds else .tuple ds := by
  rw [ev]
@[simp] theorem ev_e24 (Φ : Fns) (b : B2) (a c : Ex) (ρ : Rho) (z1 : Bool) : ev Φ (.b2 b a c) ρ z1 = (ev Φ a ρ true).bind fun x => (ev Φ c ρ true).bind fun y => b2op b x y := by
  rw [ev]
@[simp] theorem ev_e25 (Φ : Fns) (T : Tyn) (a : Ex) (ρ : Rho) (z1 : Bool) : ev Φ (.isi T a) ρ z1 = (ev Φ a ρ true).bind fun x => (isTy T x).map .bool := by
  rw [ev]
@[simp] theorem ev_e26 (Φ : Fns) (e : Ex) (t : Tg) (i : It) (ifs : Exo) (ρ : Rho) (z1 : Bool) : ev Φ (.lc e t i ifs) ρ z1 = (itms Φ i ρ true).bind fun ds => gd (ds.length ≤ LIM) <| (lcF (fun d => (bindT t d (wipeR ρ (slots t))).bind fun ρ1 => (tsto Φ ifs ρ1).bind fun c => if c = true then (ev Φ e ρ1 false).map some else some none) ds).map .list := by
  rw [ev]
@[simp] theorem ev_e27 (Φ : Fns) (b0 : Bool) (e : Ex) (t : Tg) (i : It) (ifs : Exo) (ρ : Rho) (z1 : Bool) : ev Φ (.gen b0 e t i ifs) ρ z1 = (itms Φ i ρ true).bind fun ds => (genF b0 (fun d => (bindT t d (wipeR ρ (slots t))).bind fun ρ1 => (tsto Φ ifs ρ1).bind fun c => if c = true then (ev Φ e ρ1 true).bind fun x => match x with
      | .bool r => some (some r)
      | _ => none
    else some none) ds).map .bool := by
  rw [ev]
@[simp] theorem ev_e28 (Φ : Fns) (l : Bool) (a : Ex) (ρ : Rho) (z1 : Bool) : ev Φ (.st l a) ρ z1 = (ev Φ a ρ true).bind fun x => (seq? x).bind fun ds => (setd? ds).map fun es => if l = true then .int es.length else .list es := by
  rw [ev]
@[simp] theorem evs_e0 (Φ : Fns)  (z0 : Rho) : evs Φ .nil z0 = some [] := by
  rw [evs]
@[simp] theorem evs_e1 (Φ : Fns) (e : Ex) (es : Exs) (ρ : Rho) : evs Φ (.cons e es) ρ = (ev Φ e ρ false).bind fun d => (evs Φ es ρ).map (d :: ·) := by
  rw [evs]
@[simp] theorem evo_e0 (Φ : Fns)  (z0 : Rho) : evo Φ .no z0 = some none := by
  rw [evo]
@[simp] theorem evo_e1 (Φ : Fns) (e : Ex) (ρ : Rho) : evo Φ (.yes e) ρ = (ev Φ e ρ true).bind fun x => match x with
    | .int i => some (some i)
    | _ => none := by
  rw [evo]
@[simp] theorem tsto_e0 (Φ : Fns)  (z0 : Rho) : tsto Φ .no z0 = some true := by
  rw [tsto]
@[simp] theorem tsto_e1 (Φ : Fns) (e : Ex) (ρ : Rho) : tsto Φ (.yes e) ρ = (ev Φ e ρ true).bind truthy := by
  rw [tsto]
@[simp] theorem itms_e0 (Φ : Fns) (e : Ex) (ρ : Rho) (bor : Bool) : itms Φ (.ex e) ρ bor = (ev Φ e ρ bor).bind seq? := by
  rw [itms]
@[simp] theorem itms_e1 (Φ : Fns) (a : Ex) (ρ : Rho) (z1 : Bool) : itms Φ (.rng1 a) ρ z1 = (ev Φ a ρ true).bind fun x => match x with
    | .int n => rng 0 n
    | _ => none := by
  rw [itms]
@[simp] theorem itms_e2 (Φ : Fns) (a b : Ex) (ρ : Rho) (z1 : Bool) : itms Φ (.rng2 a b) ρ z1 = (ev Φ a ρ true).bind fun x => (ev Φ b ρ true).bind fun y => match x, y with
    | .int i, .int j => rng i j
    | _, _ => none := by
  rw [itms]
@[simp] theorem itms_e3 (Φ : Fns) (e : Ex) (ρ : Rho) (bor : Bool) : itms Φ (.enum e) ρ bor = (ev Φ e ρ bor).bind fun x => (seq? x).map enumd := by
  rw [itms]
@[simp] theorem exS_e0 (Φ : Fns) (n : Nat) (t : Tg) (e : Ex) (ρ : Rho) : exS Φ n (.asg t e) ρ = (ev Φ e ρ false).bind fun d => (bindT t d ρ).map .nx := by
  rw [exS]
@[simp] theorem exS_e1 (Φ : Fns) (n : Nat) (i : Nat) (e : Ex) (ρ : Rho) : exS Φ n (.own i e) ρ = (ev Φ e ρ false).bind fun d => if isMut d = true ∧ i < ρ.length then some (.nx (ρ.set i (.ow d))) else none := by
  rw [exS]
@[simp] theorem exS_e2 (Φ : Fns) (n : Nat) (e : Ex) (ρ : Rho) : exS Φ n (.ret e) ρ = (ev Φ e ρ false).map .rt := by
  rw [exS]
@[simp] theorem exS_e3 (Φ : Fns) (n : Nat) (c : Ex) (a b : Sms) (ρ : Rho) : exS Φ n (.ife c a b) ρ = (tst Φ c ρ).bind fun t => if t = true then exSs Φ n a ρ else exSs Φ n b ρ := by
  rw [exS]
@[simp] theorem exS_e4 (Φ : Fns) (n : Nat) (t : Tg) (i : It) (body : Sms) (ρ : Rho) : exS Φ n (.for t i body) ρ = (itms Φ i ρ false).bind fun ds => forF (fun d ρ' => (bindT t d ρ').bind (exSs Φ n body)) ds ρ := by
  rw [exS]
@[simp] theorem exS_e5 (Φ : Fns) (n : Nat) (c : Ex) (body : Sms) (ρ : Rho) : exS Φ n (.whl c body) ρ = whileF (tst Φ c) (exSs Φ n body) n ρ := by
  rw [exS]
@[simp] theorem exS_e6 (Φ : Fns) (n : Nat) (x : Nat) (e : Ex) (ρ : Rho) : exS Φ n (.app x e) ρ = (ev Φ e ρ false).bind fun d => match ρ[x]? with
    | some (.ow (.list ds)) => gd (ds.length < LIM) (some (.nx (ρ.set x (.ow (.list (ds ++ [d]))))))
    | _ => none := by
  rw [exS]
@[simp] theorem exS_e7 (Φ : Fns) (n : Nat) (i : Nat) (b : Bool) (e : Ex) (ρ : Rho) : exS Φ n (.aug i b e) ρ = (ev Φ e ρ true).bind fun d => match ρ[i]?, d with
    | some (.fz (.int x)), .int y => some (.nx (ρ.set i (.fz (.int (if b = true then x + y else x - y)))))
    | _, _ => none := by
  rw [exS]
@[simp] theorem exS_e8 (Φ : Fns) (n : Nat) (is : List Nat) (s : Sm) (ρ : Rho) : exS Φ n (.frz is s) ρ = exS Φ n s (frzR ρ is) := by
  rw [exS]
@[simp] theorem exS_e9 (Φ : Fns) (n : Nat)  (ρ : Rho) : exS Φ n .cont ρ = some (.ct ρ) := by
  rw [exS]
@[simp] theorem exS_e10 (Φ : Fns) (n : Nat)  (ρ : Rho) : exS Φ n .brk ρ = some (.bk ρ) := by
  rw [exS]
@[simp] theorem exS_e11 (Φ : Fns) (n : Nat)  (ρ : Rho) : exS Φ n .pass ρ = some (.nx ρ) := by
  rw [exS]
@[simp] theorem exSs_e0 (Φ : Fns) (n : Nat)  (ρ : Rho) : exSs Φ n .nil ρ = some (.nx ρ) := by
  rw [exSs]
@[simp] theorem exSs_e1 (Φ : Fns) (n : Nat) (s : Sm) (r : Sms) (ρ : Rho) : exSs Φ n (.cons s r) ρ = (exS Φ n s ρ).bind fun x => match x with
    | .nx ρ' => exSs Φ n r ρ'
    | y => some y := by
  rw [exSs]
end
end Ce

set_option maxHeartbeats 4000000
/-! How plain data stands in the abstract heap. F: what nobody changes any more. -/
noncomputable section
namespace Cs
open PySem PySem.Spec PyProof.Rows L2 GxR Ce Gx

structure Cfg where
  K : PySem.W.Frag
  T : List Addr

/-! ### data under growing heaps -/
theorem rd_mono {H H' : Hp} {a : Addr} {u : HO} (hu : ∀ ps, u ≠ .tbl ps) (k : ∀ a o, (∀ ps, o ≠ .tbl ps) → H a = some o → H' a = some o) (h : Rd H a u) : Rd H' a u := by
  rcases h with h | ⟨o, h⟩
  · exact .inl (k _ _ hu h)
  · exact .inr ⟨o, k _ _ (fun ps z => by cases z) h⟩
theorem sql_mono {K : PySem.W.Frag} {H H' : Hp} {a : Addr} {xs : List V} (k : ∀ a o, (∀ ps, o ≠ .tbl ps) → H a = some o → H' a = some o) (h : SqL K H a xs) : SqL K H' a xs := by
  rcases h with h | h
  · exact .inl (rd_mono (fun ps z => by cases z) k h)
  · exact .inr h
theorem sqt_mono {K : PySem.W.Frag} {H H' : Hp} {a : Addr} {xs : List V} (k : ∀ a o, (∀ ps, o ≠ .tbl ps) → H a = some o → H' a = some o) (h : SqT K H a xs) : SqT K H' a xs := by
  rcases h with h | h
  · exact .inl (rd_mono (fun ps z => by cases z) k h)
  · exact .inr h
mutual
theorem dp_mono {K : PySem.W.Frag} {H H' : Hp} (k : ∀ a o, (∀ ps, o ≠ .tbl ps) → H a = some o → H' a = some o) : ∀ (d : PyData) (v : V), Dp K H v d → Dp K H' v d
  | .none, _, h => by cases h; exact .non
  | .bool _, _, h => by cases h; exact .bl _
  | .int _, _, h => by cases h; exact .int _
  | .str _, _, h => by cases h; exact .str _
  | .list ds, _, h => by
    cases h with
    | lst hs ha => exact .lst (sql_mono k hs) (dpAll_mono k ds _ ha)
  | .tuple ds, _, h => by
    cases h with
    | tup hs ha => exact .tup (sqt_mono k hs) (dpAll_mono k ds _ ha)
  | .dict _, _, h => by cases h
theorem dpAll_mono {K : PySem.W.Frag} {H H' : Hp} (k : ∀ a o, (∀ ps, o ≠ .tbl ps) → H a = some o → H' a = some o) : ∀ (ds : List PyData) (vs : List V), DpAll K H vs ds → DpAll K H' vs ds
  | [], _, h => by cases h; exact .nil
  | d :: ds, _, h => by
    cases h with
    | cons h1 h2 => exact .cons (dp_mono k d _ h1) (dpAll_mono k ds _ h2)
end
section
variable {K : PySem.W.Frag} {H : Hp}
theorem DpAll.length : ∀ {vs : List V} {ds : List PyData}, DpAll K H vs ds → vs.length = ds.length
  | _, _, .nil => rfl
  | _, _, .cons _ h => by rw [List.length_cons, List.length_cons, DpAll.length h]
theorem DpAll.get : ∀ {vs : List V} {ds : List PyData} {i : Nat} {v : V}, DpAll K H vs ds → vs[i]? = some v → ∃ d, ds[i]? = some d ∧ Dp K H v d
  | _, _, _, _, .nil, e => by simp at e
  | _, _, 0, _, .cons r _, e => by simp at e; subst e; exact ⟨_, rfl, r⟩
  | _, _, i + 1, v, .cons _ t, e => by
    obtain ⟨u, h1, h2⟩ := DpAll.get (i := i) (v := v) t (by simpa using e)
    exact ⟨u, by simpa using h1, h2⟩
theorem DpAll.get' : ∀ {vs : List V} {ds : List PyData} {i : Nat} {d : PyData}, DpAll K H vs ds → ds[i]? = some d → ∃ v, vs[i]? = some v ∧ Dp K H v d
  | _, _, _, _, .nil, e => by simp at e
  | _, _, 0, _, .cons r _, e => by simp at e; subst e; exact ⟨_, rfl, r⟩
  | _, _, i + 1, v, .cons _ t, e => by
    obtain ⟨u, h1, h2⟩ := DpAll.get' (i := i) (d := v) t (by simpa using e)
    exact ⟨u, by simpa using h1, h2⟩
theorem DpAll.append : ∀ {vs ws : List V} {ds es : List PyData}, DpAll K H vs ds → DpAll K H ws es → DpAll K H (vs ++ ws) (ds ++ es)
  | _, _, _, _, .nil, h => h
  | _, _, _, _, .cons r t, h => .cons r (DpAll.append t h)
theorem DpAll.take : ∀ {vs : List V} {ds : List PyData} (n : Nat), DpAll K H vs ds → DpAll K H (vs.take n) (ds.take n)
  | _, _, 0, _ => .nil
  | _, _, _ + 1, .nil => .nil
  | _, _, n + 1, .cons r t => .cons r (DpAll.take n t)
theorem DpAll.drop : ∀ {vs : List V} {ds : List PyData} (n : Nat), DpAll K H vs ds → DpAll K H (vs.drop n) (ds.drop n)
  | _, _, 0, h => h
  | _, _, _ + 1, .nil => .nil
  | _, _, n + 1, .cons _ t => DpAll.drop n t
theorem DpAll.reverse {vs : List V} {ds : List PyData} (h : DpAll K H vs ds) : DpAll K H vs.reverse ds.reverse := by
  induction vs generalizing ds with
  | nil => cases h; exact .nil
  | cons v vs ih =>
    cases h with
    | cons h1 h2 => rw [List.reverse_cons, List.reverse_cons]; exact DpAll.append (ih h2) (.cons h1 .nil)
theorem DpAll.ints : ∀ {vs : List V} {ds : List PyData} {ns : List Int}, DpAll K H vs ds → ints? ds = some ns → vs = ns.map V.int
  | _, _, _, .nil, e => by cases e; rfl
  | _, d :: ds, ns, .cons r t, e => by
    cases d <;> try (simp [ints?] at e; done)
    rename_i i
    simp only [ints?, Option.map_eq_some_iff] at e
    obtain ⟨ms, e1, rfl⟩ := e
    cases r
    rw [DpAll.ints t e1]; rfl
theorem DpAll.bools : ∀ {vs : List V} {ds : List PyData} {ns : List Bool}, DpAll K H vs ds → bools? ds = some ns → vs = ns.map V.bl
  | _, _, _, .nil, e => by cases e; rfl
  | _, d :: ds, ns, .cons r t, e => by
    cases d <;> try (simp [bools?] at e; done)
    rename_i i
    simp only [bools?, Option.map_eq_some_iff] at e
    obtain ⟨ms, e1, rfl⟩ := e
    cases r
    rw [DpAll.bools t e1]; rfl
end

/-! ### heaps in order, and later ones -/
structure Ok (c : Cfg) (F H : Hp) : Prop where
  tab : ∀ P ∈ c.T, TabG H P
  fh : ∀ a o, F a = some o → H a = some o
  nt : ∀ a ps, F a ≠ some (.tbl ps)
structure Ext (c : Cfg) (F H F' H' : Hp) : Prop where
  keep : ∀ a o, (∀ ps, o ≠ .tbl ps) → H a = some o → H' a = some o
  fk : ∀ a o, F a = some o → F' a = some o
  fn : ∀ a o, F' a = some o → F a = some o ∨ H a = none
  grow : ∀ a, H' a = none → H a = none
  ok : Ok c F' H'
theorem Ext.refl {c : Cfg} {F H : Hp} (o : Ok c F H) : Ext c F H F H := ⟨fun _ _ _ e => e, fun _ _ e => e, fun _ _ e => .inl e, fun _ e => e, o⟩
theorem Ext.trans {c : Cfg} {F H F1 H1 F2 H2 : Hp} (a : Ext c F H F1 H1) (b : Ext c F1 H1 F2 H2) : Ext c F H F2 H2 :=
  ⟨fun p o h e => b.keep p o h (a.keep p o h e), fun p o e => b.fk p o (a.fk p o e), fun p o e => by
    rcases b.fn p o e with z | z
    · exact a.fn p o z
    · exact .inr (a.grow p z), fun p e => a.grow p (b.grow p e), b.ok⟩
theorem Ext.fkT {c : Cfg} {F H F' H' : Hp} (e : Ext c F H F' H') : ∀ a o, (∀ ps, o ≠ .tbl ps) → F a = some o → F' a = some o := fun a o _ h => e.fk a o h
theorem Ok.fhT {c : Cfg} {F H : Hp} (e : Ok c F H) : ∀ a o, (∀ ps, o ≠ .tbl ps) → F a = some o → H a = some o := fun a o _ h => e.fh a o h
/-- a table grew -/
theorem Ext.tabbed {c : Cfg} {F H H' : Hp} {P : Addr} (o : Ok c F H) (hP : P ∈ c.T) (t : Tabbed P H H') : Ext c F H F H' := by
  obtain ⟨t1, t2⟩ := t
  obtain ⟨ps, e1, _⟩ := o.tab P hP
  have key : ∀ a o, (∀ ps, o ≠ .tbl ps) → H a = some o → H' a = some o := fun a u hu e => by
    by_cases h : a = P
    · rw [h, e1] at e; cases e; exact absurd rfl (hu ps)
    · rw [t2 a h]; exact e
  refine ⟨key, fun _ _ e => e, fun _ _ e => .inl e, fun a e => ?_, ⟨fun P' hP' => ?_, fun a u e => key a u (fun ps z => o.nt a ps (by rw [e, z])) (o.fh a u e), o.nt⟩⟩
  · by_cases h : a = P
    · rw [h] at e
      obtain ⟨ps', e2, _⟩ := t1
      rw [e2] at e; cases e
    · rw [← t2 a h]; exact e
  · by_cases h : P' = P
    · rw [h]; exact t1
    · obtain ⟨ps', e2, h2⟩ := o.tab P' hP'
      exact ⟨ps', by rw [t2 P' h]; exact e2, h2⟩
/-- a new object, unshared -/
theorem Ext.new {c : Cfg} {F H : Hp} {p : Addr} {u : HO} (o : Ok c F H) (hn : H p = none) (hu : ∀ ps, u ≠ .tbl ps) : Ext c F H F (upd H p u) := by
  have ne : ∀ a v, H a = some v → a ≠ p := fun a v e z => by rw [z, hn] at e; cases e
  refine ⟨fun a v _ e => by rw [upd_ne (ne a v e)]; exact e, fun _ _ e => e, fun _ _ e => .inl e, fun a e => ?_, ⟨fun P hP => ?_, fun a v e => by rw [upd_ne (ne a v (o.fh a v e))]; exact o.fh a v e, o.nt⟩⟩
  · by_cases h : a = p
    · rw [h]; exact hn
    · rw [upd_ne h] at e; exact e
  · obtain ⟨ps, e2, h2⟩ := o.tab P hP
    exact ⟨ps, by rw [upd_ne (ne P _ e2)]; exact e2, h2⟩
/-- a new object that nobody will change -/
theorem Ext.newF {c : Cfg} {F H : Hp} {p : Addr} {u : HO} (o : Ok c F H) (hn : H p = none) (hu : ∀ ps, u ≠ .tbl ps) : Ext c F H (upd F p u) (upd H p u) := by
  have ne : ∀ a v, H a = some v → a ≠ p := fun a v e z => by rw [z, hn] at e; cases e
  refine ⟨fun a v _ e => by rw [upd_ne (ne a v e)]; exact e, fun a v e => by rw [upd_ne (ne a v (o.fh a v e))]; exact e, fun a v e => ?_, fun a e => ?_, ⟨fun P hP => ?_, fun a v e => ?_, fun a ps e => ?_⟩⟩
  · by_cases h : a = p
    · rw [h]; exact .inr hn
    · rw [upd_ne h] at e; exact .inl e
  · by_cases h : a = p
    · rw [h]; exact hn
    · rw [upd_ne h] at e; exact e
  · obtain ⟨ps, e2, h2⟩ := o.tab P hP
    exact ⟨ps, by rw [upd_ne (ne P _ e2)]; exact e2, h2⟩
  · by_cases h : a = p
    · rw [h, upd_same] at e; cases e; rw [h, upd_same]
    · rw [upd_ne h] at e; rw [upd_ne h]; exact o.fh a v e
  · by_cases h : a = p
    · rw [h, upd_same] at e; cases e; exact hu ps rfl
    · rw [upd_ne h] at e; exact o.nt a ps e

/-! ### slots -/
def OwnOf (K : PySem.W.Frag) (F : Hp) (o : HO) (d : PyData) : Prop := match o, d with
  | .lst xs, .list ds => DpAll K F xs ds
  | _, _ => False
theorem OwnOf.nt {K : PySem.W.Frag} {F : Hp} {o : HO} {d : PyData} (h : OwnOf K F o d) : ∀ ps, o ≠ .tbl ps := fun ps z => by subst z; exact h
theorem OwnOf.mono {K : PySem.W.Frag} {F F' : Hp} {o : HO} {d : PyData} (k : ∀ a o, (∀ ps, o ≠ .tbl ps) → F a = some o → F' a = some o) (h : OwnOf K F o d) : OwnOf K F' o d := by
  cases o <;> try exact h
  cases d <;> try exact h
  exact dpAll_mono k _ _ h
theorem OwnOf.dp {K : PySem.W.Frag} {F : Hp} {o : HO} {d : PyData} {a : Addr} (h : OwnOf K F o d) (e : F a = some o) : Dp K F (.ref a) d := by
  cases o <;> try exact h.elim
  cases d <;> try exact h.elim
  exact .lst (SqL.of e) h
structure StE (c : Cfg) (F H : Hp) (σ : L2.St) (ρ : Rho) : Prop where
  ok : Ok c F H
  len : σ.length = ρ.length
  slot : ∀ (i : Nat) (d : PyData), ρ[i]? = some (.fz d) → ∃ v, σ[i]? = some (some v) ∧ Dp c.K F v d
  own : ∀ (i : Nat) (d : PyData), ρ[i]? = some (.ow d) → ∃ a o, σ[i]? = some (some (.ref a)) ∧ F a = none ∧ H a = some o ∧ OwnOf c.K F o d
theorem StE.ext {c : Cfg} {F H F' H' : Hp} {σ : L2.St} {ρ : Rho} (s : StE c F H σ ρ) (e : Ext c F H F' H') : StE c F' H' σ ρ where
  ok := e.ok
  len := s.len
  slot := fun i d h => by
    obtain ⟨v, h1, h2⟩ := s.slot i d h
    exact ⟨v, h1, dp_mono e.fkT _ _ h2⟩
  own := fun i d h => by
    obtain ⟨a, o, h1, h2, h3, h4⟩ := s.own i d h
    refine ⟨a, o, h1, ?_, e.keep a o h4.nt h3, h4.mono e.fkT⟩
    cases q : F' a with
    | none => rfl
    | some u =>
      rcases e.fn a u q with z | z
      · rw [h2] at z; cases z
      · rw [h3] at z; cases z
theorem StE.set {c : Cfg} {F H : Hp} {σ : L2.St} {ρ : Rho} (s : StE c F H σ ρ) {i : Nat} {v : V} {d : PyData} (h : Dp c.K F v d) : StE c F H (σ.set i (some v)) (ρ.set i (.fz d)) where
  ok := s.ok
  len := by rw [List.length_set, List.length_set]; exact s.len
  slot := fun j e hj => by
    by_cases hij : i = j
    · subst hij
      by_cases hl : i < ρ.length
      · rw [List.getElem?_set_self hl] at hj
        cases hj
        exact ⟨v, by rw [List.getElem?_set_self (by rw [s.len]; exact hl)], h⟩
      · rw [List.getElem?_eq_none (by simpa using hl)] at hj; cases hj
    · rw [List.getElem?_set_ne hij] at hj
      rw [List.getElem?_set_ne hij]
      exact s.slot j e hj
  own := fun j e hj => by
    by_cases hij : i = j
    · subst hij
      by_cases hl : i < ρ.length
      · rw [List.getElem?_set_self hl] at hj; cases hj
      · rw [List.getElem?_eq_none (by simpa using hl)] at hj; cases hj
    · rw [List.getElem?_set_ne hij] at hj
      rw [List.getElem?_set_ne hij]
      exact s.own j e hj
theorem wipeR_length (ρ : Rho) : ∀ vs : List Nat, (wipeR ρ vs).length = ρ.length
  | [] => rfl
  | v :: vs => by unfold wipeR; rw [List.length_set, wipeR_length ρ vs]
theorem StE.un {c : Cfg} {F H : Hp} {σ : L2.St} {ρ : Rho} (s : StE c F H σ ρ) (i : Nat) (v : Option V) : StE c F H (σ.set i v) (ρ.set i .un) where
  ok := s.ok
  len := by rw [List.length_set, List.length_set]; exact s.len
  slot := fun j e hj => by
    by_cases hij : i = j
    · subst hij
      by_cases hl : i < ρ.length
      · rw [List.getElem?_set_self hl] at hj; cases hj
      · rw [List.getElem?_eq_none (by simpa using hl)] at hj; cases hj
    · rw [List.getElem?_set_ne hij] at hj
      rw [List.getElem?_set_ne hij]
      exact s.slot j e hj
  own := fun j e hj => by
    by_cases hij : i = j
    · subst hij
      by_cases hl : i < ρ.length
      · rw [List.getElem?_set_self hl] at hj; cases hj
      · rw [List.getElem?_eq_none (by simpa using hl)] at hj; cases hj
    · rw [List.getElem?_set_ne hij] at hj
      rw [List.getElem?_set_ne hij]
      exact s.own j e hj
theorem StE.wipe {c : Cfg} {F H : Hp} {σ : L2.St} {ρ : Rho} (s : StE c F H σ ρ) : ∀ vs : List Nat, StE c F H (wipe σ vs) (wipeR ρ vs)
  | [] => s
  | v :: vs => (StE.wipe s vs).un v none

/-! ### what an expression gives -/
inductive Md where
  | fr | bo | nw
def Md.b : Md → Bool
  | .bo => true
  | _ => false
/-- a value read at once: perhaps a list that a slot holds alone -/
def Rq (K : PySem.W.Frag) (F H : Hp) (v : V) (d : PyData) : Prop := Dp K F v d ∨ ∃ a xs ds, v = .ref a ∧ d = .list ds ∧ H a = some (.lst xs) ∧ DpAll K F xs ds
def Fin (c : Cfg) (m : Md) (F H F' H' : Hp) (v : V) (d : PyData) : Prop := match m with
  | .fr => Dp c.K F' v d
  | .bo => Rq c.K F' H' v d
  | .nw => if isMut d = true then ∃ a o, v = .ref a ∧ F' a = none ∧ H a = none ∧ H' a = some o ∧ OwnOf c.K F' o d else Dp c.K F' v d
theorem Rq.ext {c : Cfg} {F H F' H' : Hp} {v : V} {d : PyData} (h : Rq c.K F H v d) (e : Ext c F H F' H') : Rq c.K F' H' v d := by
  rcases h with h | ⟨a, xs, ds, h1, h2, h3, h4⟩
  · exact .inl (dp_mono e.fkT _ _ h)
  · exact .inr ⟨a, xs, ds, h1, h2, e.keep a _ (fun ps z => by cases z) h3, dpAll_mono e.fkT _ _ h4⟩
theorem Rq.dp {c : Cfg} {F H : Hp} {v : V} {d : PyData} (h : Rq c.K F H v d) (o : Ok c F H) : Dp c.K H v d := by
  rcases h with h | ⟨a, xs, ds, rfl, rfl, h3, h4⟩
  · exact dp_mono o.fhT _ _ h
  · exact .lst (SqL.of h3) (dpAll_mono o.fhT _ _ h4)
theorem Rq.lst {c : Cfg} {F H : Hp} {v : V} {ds : List PyData} (h : Rq c.K F H v (.list ds)) (o : Ok c F H) : ∃ a xs, v = .ref a ∧ SqL c.K H a xs ∧ DpAll c.K F xs ds := by
  rcases h with h | ⟨a, xs, ds', rfl, e, h3, h4⟩
  · cases h with
    | lst hs ha => exact ⟨_, _, rfl, sql_mono o.fhT hs, ha⟩
  · cases e
    exact ⟨a, xs, rfl, SqL.of h3, h4⟩
theorem Rq.tup {c : Cfg} {F H : Hp} {v : V} {ds : List PyData} (h : Rq c.K F H v (.tuple ds)) (o : Ok c F H) : ∃ a xs, v = .ref a ∧ SqT c.K H a xs ∧ DpAll c.K F xs ds ∧ Dp c.K F v (.tuple ds) := by
  rcases h with h | ⟨a, xs, ds', rfl, e, h3, h4⟩
  · have h0 := h
    cases h with
    | tup hs ha => exact ⟨_, _, rfl, sqt_mono o.fhT hs, ha, h0⟩
  · cases e
theorem Rq.int {c : Cfg} {F H : Hp} {v : V} {i : Int} (h : Rq c.K F H v (.int i)) : v = .int i := by
  rcases h with h | ⟨a, xs, ds', rfl, e, h3, h4⟩
  · cases h; rfl
  · cases e
theorem Rq.bl {c : Cfg} {F H : Hp} {v : V} {i : Bool} (h : Rq c.K F H v (.bool i)) : v = .bl i := by
  rcases h with h | ⟨a, xs, ds', rfl, e, h3, h4⟩
  · cases h; rfl
  · cases e
theorem Rq.str {c : Cfg} {F H : Hp} {v : V} {i : Str} (h : Rq c.K F H v (.str i)) : v = .str i := by
  rcases h with h | ⟨a, xs, ds', rfl, e, h3, h4⟩
  · cases h; rfl
  · cases e
theorem Rq.non {c : Cfg} {F H : Hp} {v : V} (h : Rq c.K F H v .none) : v = .non := by
  rcases h with h | ⟨a, xs, ds', rfl, e, h3, h4⟩
  · cases h; rfl
  · cases e
theorem Rq.dict {c : Cfg} {F H : Hp} {v : V} {kvs} (h : Rq c.K F H v (.dict kvs)) : False := by
  rcases h with h | ⟨a, xs, ds', rfl, e, h3, h4⟩
  · cases h
  · cases e
theorem Rq.non_iff {c : Cfg} {F H : Hp} {v : V} {d : PyData} (h : Rq c.K F H v d) : decide (v = .non) = isN d := by
  rcases h with h | ⟨a, xs, ds', rfl, e, h3, h4⟩
  · cases h <;> rfl
  · subst e; rfl

/-- the reading of an expression -/
def tE (c : Cfg) (Φ : Fns) (m : Md) (e : Ex) : TE := fun σ H Q => ∃ F ρ d, StE c F H σ ρ ∧ ev Φ e ρ m.b = some d ∧ ∀ v H' F', Ext c F H F' H' → Fin c m F H F' H' v d → Q v H'
def tA (c : Cfg) (Φ : Fns) (es : Exs) : TA := fun σ H Q => ∃ F ρ ds, StE c F H σ ρ ∧ evs Φ es ρ = some ds ∧ ∀ vs H' F', Ext c F H F' H' → DpAll c.K F' vs ds → Q vs H'
/-- of a test -/
def tT (c : Cfg) (Φ : Fns) (e : Ex) : TT := fun σ H Q => ∃ F ρ b, StE c F H σ ρ ∧ tst Φ e ρ = some b ∧ ∀ H' F', Ext c F H F' H' → Q b H'
theorem PE.imp {X : Cx} {e : Expr} {t t' : TE} (h : PE X e t) (i : ∀ σ H Q, t' σ H Q → t σ H Q) : PE X e t' := ⟨fun pins s σ H Q I q => h.run pins s σ H Q I (i σ H Q q)⟩
theorem PT.imp {X : Cx} {e : Expr} {t t' : TT} (h : PT X e t) (i : ∀ σ H Q, t' σ H Q → t σ H Q) : PT X e t' := ⟨fun pins s σ H Q I q => h.run pins s σ H Q I (i σ H Q q)⟩
theorem PA.imp {X : Cx} {e : List Expr} {t t' : TA} (h : PA X e t) (i : ∀ σ H Q, t' σ H Q → t σ H Q) : PA X e t' := ⟨fun pos pins s σ H Q I q => h.run pos pins s σ H Q I (i σ H Q q)⟩
theorem PW.imp {X : Cx} {e : Expr} {t t' : TT} (h : PW X e t) (i : ∀ σ H Q, t' σ H Q → t σ H Q) : PW X e t' := ⟨fun wh pins s σ H Q I q => h.run wh pins s σ H Q I (i σ H Q q)⟩
theorem PS.imp {X : Cx} {e : Stmt} {t t' : TS} (h : PS X e t) (i : ∀ D σ H, t' D σ H → t D σ H) : PS X e t' := ⟨fun pins s σ H D I q => h.run pins s σ H D I (i D σ H q)⟩
theorem PSs.imp {X : Cx} {e : List Stmt} {t t' : TS} (h : PSs X e t) (i : ∀ D σ H, t' D σ H → t D σ H) : PSs X e t' := ⟨fun pins s σ H D I q => h.run pins s σ H D I (i D σ H q)⟩
theorem PI.imp {X : Cx} {tg e : Expr} {t t' : TI} (h : PI X tg e t) (i : ∀ σ H R, t' σ H R → t σ H R) : PI X tg e t' := ⟨fun pins s σ H R I q => h.run pins s σ H R I (i σ H R q)⟩

/-! ### ways to end -/
section
variable {c : Cfg} {F H F1 H1 : Hp} {Q : VK} {d : PyData}
/-- a value that is no object of its own: any way -/
theorem fin_val {m : Md} {v : V} (e : Ext c F H F1 H1) (h : Dp c.K F1 v d) (hm : m = .nw → isMut d = false) (k : ∀ v H' F', Ext c F H F' H' → Fin c m F H F' H' v d → Q v H') : Q v H1 := by
  refine k v H1 F1 e ?_
  cases m with
  | fr => exact h
  | bo => exact .inl h
  | nw => dsimp only [Fin]; rw [hm rfl]; exact h
/-- a new tuple -/
theorem fin_tup {m : Md} {p : Addr} {xs : List V} {ds : List PyData} (e : Ext c F H F1 H1) (hn : H1 p = none) (h : DpAll c.K F1 xs ds) (k : ∀ v H' F', Ext c F H F' H' → Fin c m F H F' H' v (.tuple ds) → Q v H') : Q (.ref p) (upd H1 p (.tup xs)) := by
  have e2 := Ext.newF (u := .tup xs) e.ok hn (fun ps z => by cases z)
  have hd : Dp c.K (upd F1 p (.tup xs)) (.ref p) (.tuple ds) := .tup (SqT.of upd_same) (dpAll_mono e2.fkT _ _ h)
  exact fin_val (F1 := upd F1 p (.tup xs)) (e.trans e2) hd (fun _ => rfl) k
/-- a new list -/
theorem fin_lst {m : Md} {p : Addr} {xs : List V} {ds : List PyData} (e : Ext c F H F1 H1) (hn : H1 p = none) (h : DpAll c.K F1 xs ds) (k : ∀ v H' F', Ext c F H F' H' → Fin c m F H F' H' v (.list ds) → Q v H') : Q (.ref p) (upd H1 p (.lst xs)) := by
  have frz : ∀ m : Md, m ≠ .nw → (∀ v H' F', Ext c F H F' H' → Fin c m F H F' H' v (.list ds) → Q v H') → Q (.ref p) (upd H1 p (.lst xs)) := fun m hm k => by
    have e2 := Ext.newF (u := .lst xs) e.ok hn (fun ps z => by cases z)
    have hd : Dp c.K (upd F1 p (.lst xs)) (.ref p) (.list ds) := .lst (SqL.of upd_same) (dpAll_mono e2.fkT _ _ h)
    exact fin_val (F1 := upd F1 p (.lst xs)) (e.trans e2) hd (fun z => absurd z hm) k
  cases m with
  | fr => exact frz .fr (fun z => by cases z) k
  | bo => exact frz .bo (fun z => by cases z) k
  | nw =>
    have e2 := Ext.new (u := .lst xs) e.ok hn (fun ps z => by cases z)
    refine k (.ref p) (upd H1 p (.lst xs)) F1 (e.trans e2) ?_
    dsimp only [Fin]
    rw [if_pos (show isMut (PyData.list ds) = true from rfl)]
    refine ⟨p, .lst xs, rfl, ?_, ?_, upd_same, h⟩
    · cases q : F1 p with
      | none => rfl
      | some u => rw [e.ok.fh p u q] at hn; cases hn
    · exact e.grow p hn
end
end Cs

set_option maxHeartbeats 4000000
/-! Operations on data, by values. -/
noncomputable section
namespace Cs
open PySem PySem.Spec PyProof.Rows L2 GxR Ce Gx

theorem isData_ok {x y : PyData} (h : isData x y = true) : SeqAt.shaped x = true ∧ SeqAt.shaped y = true := by
  simp only [isData, Bool.and_eq_true] at h
  exact ⟨pk_shaped h.1, pk_shaped h.2⟩
theorem lim_eq : LIM = sizeLine := by rw [sizeLine_eq]; rfl
section
variable {X : Cx}
/-- two lists in a row -/
def rCatL (K : PySem.W.Frag) : R2 := fun x y H Q => ∃ l b xs zs, x = .ref l ∧ y = .ref b ∧ SqL K H l xs ∧ SqL K H b zs ∧ xs.length + zs.length ≤ sizeLine ∧ ∀ p, H p = none → Q (.ref p) (upd H p (.lst (xs ++ zs)))
theorem op_catL : OpR X (binaryOp .Add) (rCatL X.K) := by
  intro pins s σ H x y v u Q I rx ry h
  obtain ⟨l, b, xs, zs, rfl, rfl, hH, hB, hz, q⟩ := h
  cases rx
  cases ry
  obtain ⟨its, r, ⟨⟨cls, dd, data, sl⟩, n, ho, hc, _, hd⟩, _⟩ := I.list hH
  obtain ⟨its2, r2, ⟨⟨cls2, dd2, data2, sl2⟩, n2, ho2, hc2, _, hd2⟩, _⟩ := I.list hB
  simp only at hc hd hc2 hd2
  subst hc hd hc2 hd2
  have l1 := r.length
  have l2 := r2.length
  have e : its.toArray ++ its2.toArray = (its ++ its2).toArray := by simp
  refine concat_meets ⟨_, ho, rfl⟩ ⟨_, ho2, rfl⟩ noFill_list_add seq_list_add PySem.F.slot_list_add PySem.F.entry_list_add (PySem.F.args_list_add_2 _ _) (list_addW l b its.toArray its2.toArray n n2 dd dd2 sl sl2 (by rw [List.size_toArray, List.size_toArray]; omega)) ⟨ho, ho2, ?_⟩
  rw [e]
  exact ⟨.ref _, _, I.lnew (t' := s.toks) (r.append r2) (by rw [List.length_append]; omega), rfl, q _ I.fresh⟩

/-! ### binary operators -/
def bopOf : Bop → Operator
  | .add => .Add | .sub => .Sub | .mul => .Mult | .mod => .Mod | .fdiv => .FloorDiv | .pow => .Pow | .shl => .LShift
/-- what two data give -/
def rD (c : Cfg) (m : Md) (f : PyData → PyData → Option PyData) : R2 := fun x y H Q => ∃ F d1 d2 d, Ok c F H ∧ Rq c.K F H x d1 ∧ Rq c.K F H y d2 ∧ f d1 d2 = some d ∧ ∀ v H' F', Ext c F H F' H' → Fin c m F H F' H' v d → Q v H'
theorem fin_int {c : Cfg} {m : Md} {F H : Hp} {Q : VK} {i : Int} (o : Ok c F H) (k : ∀ v H' F', Ext c F H F' H' → Fin c m F H F' H' v (.int i) → Q v H') : Q (.int i) H := fin_val (Ext.refl o) (.int i) (fun _ => rfl) k
theorem fin_bl {c : Cfg} {m : Md} {F H : Hp} {Q : VK} {i : Bool} (o : Ok c F H) (k : ∀ v H' F', Ext c F H F' H' → Fin c m F H F' H' v (.bool i) → Q v H') : Q (.bl i) H := fin_val (Ext.refl o) (.bl i) (fun _ => rfl) k
theorem fin_str {c : Cfg} {m : Md} {F H : Hp} {Q : VK} {i : Str} (o : Ok c F H) (k : ∀ v H' F', Ext c F H F' H' → Fin c m F H F' H' v (.str i) → Q v H') : Q (.str i) H := fin_val (Ext.refl o) (.str i) (fun _ => rfl) k
theorem op_bin {c : Cfg} (hK : c.K = X.K) {m : Md} (op : Bop) : OpR X (binaryOp (bopOf op)) (rD c m (binop op)) := by
  intro pins s σ H x y v u Q I rx ry ⟨F, d1, d2, d, o, h1, h2, hf, k⟩
  cases op with
  | add =>
    cases d1 <;> cases d2 <;> try (simp [binop] at hf; done)
    · cases hf
      cases h1.int; cases h2.int
      exact op_add pins s σ H _ _ v u Q I rx ry ⟨_, _, rfl, rfl, fin_int o k⟩
    · simp only [binop, gd_some] at hf
      obtain ⟨hz, hf⟩ := hf
      cases hf
      cases h1.str; cases h2.str
      exact op_add_str pins s σ H _ _ v u Q I rx ry ⟨_, _, rfl, rfl, by rw [← lim_eq]; exact hz, fin_str o k⟩
    · simp only [binop, gd_some] at hf
      obtain ⟨hz, hf⟩ := hf
      cases hf
      obtain ⟨a, xs, rfl, s1, a1⟩ := h1.lst o
      obtain ⟨b, ys, rfl, s2, a2⟩ := h2.lst o
      refine op_catL pins s σ H _ _ v u Q I rx ry ⟨a, b, xs, ys, rfl, rfl, hK ▸ s1, hK ▸ s2, by rw [DpAll.length a1, DpAll.length a2, ← lim_eq]; exact hz, fun p hn => ?_⟩
      exact fin_lst (Ext.refl o) hn (DpAll.append a1 a2) k
    · simp only [binop, gd_some] at hf
      obtain ⟨hz, hf⟩ := hf
      cases hf
      obtain ⟨a, xs, rfl, s1, a1, D1⟩ := h1.tup o
      obtain ⟨b, ys, rfl, s2, a2, D2⟩ := h2.tup o
      refine op_catA pins s σ H _ _ v u Q I rx ry ⟨a, b, xs, ys, rfl, rfl, hK ▸ s1, hK ▸ s2, by rw [DpAll.length a1, DpAll.length a2, ← lim_eq]; exact hz, fun e => ?_, fun e1 e2 => ?_, fun e1 e2 p hn => ?_⟩
      · subst e; cases a1
        exact fin_val (Ext.refl o) D2 (fun _ => rfl) k
      · subst e2; cases a2
        rw [List.append_nil] at k
        exact fin_val (Ext.refl o) D1 (fun _ => rfl) k
      · exact fin_tup (Ext.refl o) hn (DpAll.append a1 a2) k
  | sub =>
    cases d1 <;> cases d2 <;> try (simp [binop] at hf; done)
    cases hf
    cases h1.int; cases h2.int
    exact op_sub pins s σ H _ _ v u Q I rx ry ⟨_, _, rfl, rfl, fin_int o k⟩
  | mul =>
    cases d1 <;> cases d2 <;> try (simp [binop] at hf; done)
    simp only [binop, gd_some] at hf
    obtain ⟨hz, hf⟩ := hf
    cases hf
    cases h1.int; cases h2.int
    exact op_mul pins s σ H _ _ v u Q I rx ry ⟨_, _, rfl, rfl, hz, fin_int o k⟩
  | mod =>
    cases d1 <;> cases d2 <;> try (simp [binop] at hf; done)
    simp only [binop, gd_some] at hf
    obtain ⟨hz, hf⟩ := hf
    cases hf
    cases h1.int; cases h2.int
    exact op_mod pins s σ H _ _ v u Q I rx ry ⟨_, _, rfl, rfl, hz, fin_int o k⟩
  | fdiv =>
    cases d1 <;> cases d2 <;> try (simp [binop] at hf; done)
    simp only [binop, gd_some] at hf
    obtain ⟨hz, hf⟩ := hf
    cases hf
    cases h1.int; cases h2.int
    exact op_fdiv pins s σ H _ _ v u Q I rx ry ⟨_, _, rfl, rfl, hz, fin_int o k⟩
  | pow =>
    cases d1 <;> cases d2 <;> try (simp [binop] at hf; done)
    simp only [binop, gd_some] at hf
    obtain ⟨hz, hf⟩ := hf
    cases hf
    cases h1.int; cases h2.int
    exact op_pow pins s σ H _ _ v u Q I rx ry ⟨_, _, rfl, rfl, hz, fin_int o k⟩
  | shl =>
    cases d1 <;> cases d2 <;> try (simp [binop] at hf; done)
    simp only [binop, gd_some] at hf
    obtain ⟨hz, hf⟩ := hf
    cases hf
    cases h1.int; cases h2.int
    exact op_shl pins s σ H _ _ v u Q I rx ry ⟨_, _, rfl, rfl, hz, fin_int o k⟩

/-! ### comparisons -/
def copOf : Cop → CmpOp
  | .eq => .Eq | .ne => .NotEq | .lt => .Lt | .le => .LtE | .gt => .Gt | .ge => .GtE | .isin => .In | .notin => .NotIn
def rC (c : Cfg) (op : Cop) : R2 := fun x y H Q => ∃ F d1 d2 b, Ok c F H ∧ Rq c.K F H x d1 ∧ Rq c.K F H y d2 ∧ cmpop op d1 d2 = some b ∧ Q (.bl b) H
theorem op_ltD (hu : X.A.units + 65 < cLine) : OpR X (compareOp .Lt) (fun x y H Q => ∃ d e, Dp X.K H x d ∧ Dp X.K H y e ∧ PySem.W.alike d e = true ∧ d ≠ .none ∧ d.depth ≤ 64 ∧ Q (.bl (PySem.W.dataLt d e)) H) := by
  intro pins s σ H x y v u Q I rx ry ⟨d, e, hd, he, ha, hn, hdp, q⟩
  obtain ⟨as, r1⟩ := Dp.reads I d x v hd rx
  obtain ⟨bs, r2⟩ := Dp.reads I e y u he ry
  exact PySem.W.rcLt_alike d e X.A s v u as bs r1 r2 ha hn (by omega) _ _ _ _ ⟨.bl _, H, I, rfl, q⟩
theorem op_inT (hu : X.A.units + 65 < cLine) : OpR X (compareOp .In) (fun x y H Q => ∃ d ds, Dp X.K H x d ∧ Dp X.K H y (.tuple ds) ∧ SeqAt.shaped d = true ∧ SeqAt.shaped (.tuple ds) = true ∧ Q (.bl (ds.any fun z => PyData.eqv z d)) H) := by
  intro pins s σ H x y v u Q I rx ry h
  obtain ⟨d, ds, hd, he, sd, se, q⟩ := h
  obtain ⟨as, r1⟩ := Dp.reads I d x v hd rx
  obtain ⟨bs, r2⟩ := Dp.reads I (.tuple ds) y u he ry
  exact SeqAt.in_tuple_reads r2 r1 (SeqAt.canLay_of_shaped se) (SeqAt.canLay_of_shaped sd) (room_in_shaped sd hu) ⟨.bl _, H, I, rfl, q⟩
theorem op_notInT (hu : X.A.units + 65 < cLine) : OpR X (compareOp .NotIn) (fun x y H Q => ∃ d ds, Dp X.K H x d ∧ Dp X.K H y (.tuple ds) ∧ SeqAt.shaped d = true ∧ SeqAt.shaped (.tuple ds) = true ∧ Q (.bl (!ds.any fun z => PyData.eqv z d)) H) := by
  intro pins s σ H x y v u Q I rx ry h
  obtain ⟨d, ds, hd, he, sd, se, q⟩ := h
  obtain ⟨as, r1⟩ := Dp.reads I d x v hd rx
  obtain ⟨bs, r2⟩ := Dp.reads I (.tuple ds) y u he ry
  exact SeqAt.notIn_tuple_reads r2 r1 (SeqAt.canLay_of_shaped se) (SeqAt.canLay_of_shaped sd) (room_in_shaped sd hu) ⟨.bl _, H, I, rfl, q⟩
theorem shaped_depth {d : PyData} (h : SeqAt.shaped d = true) : d.depth ≤ 64 := by
  have h' : (d.canLay0 && decide (d.depth ≤ 64)) = true := h
  rw [Bool.and_eq_true] at h'
  exact of_decide_eq_true h'.2
theorem op_cmp {c : Cfg} (hK : c.K = X.K) (hu : X.A.units + 65 < cLine) (op : Cop) : OpR X (compareOp (copOf op)) (rC c op) := by
  subst_vars
  intro pins s σ H x y v u Q I rx ry ⟨F, d1, d2, b, o, h1, h2, hf, k⟩
  have D1 : Dp X.K H x d1 := hK ▸ h1.dp o
  have D2 : Dp X.K H y d2 := hK ▸ h2.dp o
  cases op with
  | eq =>
    simp only [cmpop] at hf
    split at hf <;> try (cases hf; done)
    rename_i hz
    cases hf
    have hz := isData_ok hz
    exact op_eqD (by omega) pins s σ H x y v u Q I rx ry ⟨d1, d2, D1, D2, hz.1, hz.2, k⟩
  | ne =>
    simp only [cmpop] at hf
    split at hf <;> try (cases hf; done)
    rename_i hz
    cases hf
    have hz := isData_ok hz
    exact op_neD (by omega) pins s σ H x y v u Q I rx ry ⟨d1, d2, D1, D2, hz.1, hz.2, k⟩
  | lt =>
    cases d1 <;> cases d2 <;> try (simp [cmpop] at hf; done)
    · cases hf
      cases h1.int; cases h2.int
      exact op_lt pins s σ H _ _ v u Q I rx ry ⟨_, _, rfl, rfl, k⟩
    · simp only [cmpop] at hf
      split at hf <;> try (cases hf; done)
      rename_i hz
      cases hf
      simp only [Bool.and_eq_true] at hz
      have hz1 := isData_ok hz.1
      exact op_ltD hu pins s σ H x y v u Q I rx ry ⟨_, _, D1, D2, hz.2, (fun z => by cases z), shaped_depth hz1.1, k⟩
  | le =>
    cases d1 <;> cases d2 <;> try (simp [cmpop] at hf; done)
    cases hf
    cases h1.int; cases h2.int
    exact op_le pins s σ H _ _ v u Q I rx ry ⟨_, _, rfl, rfl, k⟩
  | gt =>
    cases d1 <;> cases d2 <;> try (simp [cmpop] at hf; done)
    cases hf
    cases h1.int; cases h2.int
    exact op_gt pins s σ H _ _ v u Q I rx ry ⟨_, _, rfl, rfl, k⟩
  | ge =>
    cases d1 <;> cases d2 <;> try (simp [cmpop] at hf; done)
    cases hf
    cases h1.int; cases h2.int
    exact op_ge pins s σ H _ _ v u Q I rx ry ⟨_, _, rfl, rfl, k⟩
  | isin =>
    cases d2 <;> try (simp [cmpop] at hf; done)
    · simp only [cmpop] at hf
      split at hf <;> try (cases hf; done)
      rename_i hz
      cases hf
      have hz := isData_ok hz
      exact op_inD hu pins s σ H x y v u Q I rx ry ⟨_, _, D1, D2, hz.1, hz.2, k⟩
    · simp only [cmpop] at hf
      split at hf <;> try (cases hf; done)
      rename_i hz
      cases hf
      have hz := isData_ok hz
      exact op_inT hu pins s σ H x y v u Q I rx ry ⟨_, _, D1, D2, hz.1, hz.2, k⟩
  | notin =>
    cases d2 <;> try (simp [cmpop] at hf; done)
    · simp only [cmpop] at hf
      split at hf <;> try (cases hf; done)
      rename_i hz
      cases hf
      have hz := isData_ok hz
      exact op_notInD hu pins s σ H x y v u Q I rx ry ⟨_, _, D1, D2, hz.1, hz.2, k⟩
    · simp only [cmpop] at hf
      split at hf <;> try (cases hf; done)
      rename_i hz
      cases hf
      have hz := isData_ok hz
      exact op_notInT hu pins s σ H x y v u Q I rx ry ⟨_, _, D1, D2, hz.1, hz.2, k⟩
end
end Cs

set_option maxHeartbeats 4000000
/-! More operations on data, by values. -/
noncomputable section
namespace Cs
open PySem PySem.Spec PyProof.Rows L2 GxR Ce Gx

theorem ixN_map {α β : Type} (f : α → β) (xs : List α) (i : Int) : atI (xs.map f) i = (atI xs i).map f := by
  unfold atI
  rw [List.length_map]
  cases ixN xs.length i with
  | none => rfl
  | some j => simp
theorem atI_dp {K : PySem.W.Frag} {H : Hp} {xs : List V} {ds : List PyData} {i : Int} {d : PyData} (h : DpAll K H xs ds) (e : atI ds i = some d) : ∃ v, atI xs i = some v ∧ Dp K H v d := by
  unfold atI at e ⊢
  rw [DpAll.length h]
  cases q : ixN ds.length i with
  | none => rw [q] at e; cases e
  | some j =>
    rw [q] at e
    exact DpAll.get' h e
theorem cut_dp {K : PySem.W.Frag} {H : Hp} {xs : List V} {ds : List PyData} {lo hi : Option Int} (h : DpAll K H xs ds) : DpAll K H (cutV xs lo hi) (cut ds lo hi) := by
  unfold cutV cut
  rw [DpAll.length h]
  exact DpAll.take _ (DpAll.drop _ h)
section
variable {X : Cx} {c : Cfg}
theorem ixr_data (hK : c.K = X.K) {m : Md} : IxR X (rD c (match m with | .nw => .fr | m => m) index) := by
  intro value slice pins s σ H x y v u Q I rx ry ⟨F, d1, d2, d, o, h1, h2, hf, k⟩ hs
  have fin : ∀ w, Dp c.K F w d → Q w H := fun w hw => fin_val (Ext.refl o) hw (fun z => by cases m <;> cases z) k
  cases d2 <;> try (cases d1 <;> simp [index] at hf; done)
  cases h2.int
  cases d1 <;> try (simp [index] at hf; done)
  · simp only [index, gd_some] at hf
    obtain ⟨hz, hf⟩ := hf
    cases h1.str
    rw [Option.map_eq_some_iff] at hf
    obtain ⟨cc, e1, e2⟩ := hf
    subst e2
    exact ix_str value slice pins s σ H _ _ v u Q I rx ry ⟨_, _, cc, rfl, rfl, by rw [← lim_eq]; exact hz, e1, fin _ (.str _)⟩ hs
  · obtain ⟨a, xs, rfl, s1, a1⟩ := h1.lst o
    obtain ⟨w, e1, hw⟩ := atI_dp a1 (show atI _ _ = some d from hf)
    exact ix_list value slice pins s σ H _ _ v u Q I rx ry ⟨a, xs, _, w, rfl, rfl, hK ▸ s1, e1, fin w hw⟩ hs
  · obtain ⟨a, xs, rfl, s1, a1, _⟩ := h1.tup o
    obtain ⟨w, e1, hw⟩ := atI_dp a1 (show atI _ _ = some d from hf)
    exact ix_tup value slice pins s σ H _ _ v u Q I rx ry ⟨a, xs, _, w, rfl, rfl, hK ▸ s1, e1, fin w hw⟩ hs

/-- a slice -/
def rSl (c : Cfg) (m : Md) : V → Option Int → Option Int → Hp → VK → Prop := fun x lo hi H Q => ∃ F d1 d, Ok c F H ∧ Rq c.K F H x d1 ∧ slice d1 lo hi = some d ∧ ∀ v H' F', Ext c F H F' H' → Fin c m F H F' H' v d → Q v H'
theorem cut_all {α : Type} {xs : List α} {lo hi : Option Int} (h : HT.sIx xs.length 0 lo = 0 ∧ HT.sIx xs.length xs.length hi = xs.length) : cut xs lo hi = xs := by
  unfold cut
  rw [h.1, h.2, List.drop_zero, Nat.sub_zero, List.take_length]
theorem slr_data (hK : c.K = X.K) {m : Md} : SlR X (rSl c m) := by
  intro pins s σ H x v vl vu lo hi sl Q I rx hs pl pu ⟨F, d1, d, o, h1, hf, k⟩
  cases d1 <;> try (simp [slice] at hf; done)
  · cases hf
    obtain ⟨a, xs, rfl, s1, a1⟩ := h1.lst o
    exact sl_list pins s σ H _ v vl vu lo hi sl Q I rx hs pl pu ⟨a, xs, rfl, hK ▸ s1, fun p hn => fin_lst (Ext.refl o) hn (cut_dp a1) k⟩
  · cases hf
    obtain ⟨a, xs, rfl, s1, a1, D1⟩ := h1.tup o
    refine sl_tupA pins s σ H _ v vl vu lo hi sl Q I rx hs pl pu ⟨a, xs, rfl, hK ▸ s1, fun hw => ?_, fun hw p hn => fin_tup (Ext.refl o) hn (cut_dp a1) k⟩
    rw [DpAll.length a1] at hw
    rw [cut_all hw] at k
    exact fin_val (Ext.refl o) D1 (fun _ => rfl) k

/-! ### builtins of one and two values -/
def b1Of : B1 → Value
  | .len => .builtin "len" | .abs => .builtin "abs" | .int => .type "int" | .str => .type "str"
def rB1 (c : Cfg) (m : Md) (b : B1) : List V → Hp → VK → Prop := fun xs H Q => ∃ F x d1 d, xs = [x] ∧ Ok c F H ∧ Rq c.K F H x d1 ∧ b1op b d1 = some d ∧ ∀ v H' F', Ext c F H F' H' → Fin c m F H F' H' v d → Q v H'
theorem cr_b1 (hK : c.K = X.K) {m : Md} (b : B1) : CallR X (b1Of b) (rB1 c m b) := by
  intro pins s σ H xs us Q I r ⟨F, x, d1, d, e, o, h1, hf, k⟩
  subst e
  cases b with
  | len =>
    cases d1 <;> try (simp [b1op] at hf; done)
    · simp only [b1op, gd_some] at hf
      obtain ⟨hz, hf⟩ := hf
      cases hf
      cases h1.str
      exact call_len_str pins s σ H _ us Q I r ⟨_, rfl, by rw [← lim_eq]; exact hz, fin_int o k⟩
    · cases hf
      obtain ⟨a, ys, rfl, s1, a1⟩ := h1.lst o
      exact call_len_seq pins s σ H _ us Q I r ⟨a, ys, rfl, .inl (hK ▸ s1), by rw [DpAll.length a1]; exact fin_int o k⟩
    · cases hf
      obtain ⟨a, ys, rfl, s1, a1, _⟩ := h1.tup o
      exact call_len_seq pins s σ H _ us Q I r ⟨a, ys, rfl, .inr (hK ▸ s1), by rw [DpAll.length a1]; exact fin_int o k⟩
  | abs =>
    cases d1 <;> try (simp [b1op] at hf; done)
    cases hf
    cases h1.int
    exact call_abs pins s σ H _ us Q I r ⟨_, rfl, fin_int o k⟩
  | int =>
    cases d1 <;> try (simp [b1op] at hf; done)
    cases hf
    cases h1.int
    exact call_int1 pins s σ H _ us Q I r (.inl ⟨_, rfl, fin_int o k⟩)
  | str =>
    cases d1 <;> try (simp [b1op] at hf; done)
    simp only [b1op, gd_some] at hf
    obtain ⟨hz, hf⟩ := hf
    cases hf
    cases h1.int
    exact call_str_int pins s σ H _ us Q I r ⟨_, rfl, hz, fin_str o k⟩
def b2Of : B2 → Value
  | .max => .builtin "max" | .min => .builtin "min"
def rB2 (c : Cfg) (m : Md) (b : B2) : List V → Hp → VK → Prop := fun xs H Q => ∃ F x y d1 d2 d, xs = [x, y] ∧ Ok c F H ∧ Rq c.K F H x d1 ∧ Rq c.K F H y d2 ∧ b2op b d1 d2 = some d ∧ ∀ v H' F', Ext c F H F' H' → Fin c m F H F' H' v d → Q v H'
theorem cr_b2 (hc : X.calm = true) {m : Md} (b : B2) : CallR X (b2Of b) (rB2 c m b) := by
  intro pins s σ H xs us Q I r ⟨F, x, y, d1, d2, d, e, o, h1, h2, hf, k⟩
  subst e
  cases b with
  | max =>
    cases d1 <;> cases d2 <;> try (simp [b2op] at hf; done)
    cases hf
    cases h1.int; cases h2.int
    exact call_max2 hc pins s σ H _ us Q I r ⟨_, _, rfl, fin_int o k⟩
  | min =>
    cases d1 <;> cases d2 <;> try (simp [b2op] at hf; done)
    cases hf
    cases h1.int; cases h2.int
    exact call_min2 hc pins s σ H _ us Q I r ⟨_, _, rfl, fin_int o k⟩

/-! ### isinstance -/
def tyName : Tyn → String
  | .int => "int" | .bool => "bool" | .str => "str" | .tuple => "tuple"
def dName : PyData → String
  | .none => "NoneType" | .bool _ => "bool" | .int _ => "int" | .str _ => "str" | .list _ => "list" | .tuple _ => "tuple" | .dict _ => "dict"
theorem tyx_rd {K : PySem.W.Frag} {H : Hp} {a : Addr} {xs : List V} (h : SqL K H a xs) : TyX K H (.ref a) (.type "list") := by
  rcases h with (h | ⟨o, h⟩) | ⟨o, its, n, h, hc, _⟩
  · exact .base (.lst h)
  · exact .base (.frz h)
  · exact .kList h hc
theorem tyx_rt {K : PySem.W.Frag} {H : Hp} {a : Addr} {xs : List V} (h : SqT K H a xs) : TyX K H (.ref a) (.type "tuple") := by
  rcases h with (h | ⟨o, h⟩) | ⟨o, its, n, h, hc, _⟩
  · exact .base (.tup h)
  · exact .fTuple h
  · exact .kTuple h hc
theorem dp_tyx {K : PySem.W.Frag} {H : Hp} {v : V} {d : PyData} (h : Dp K H v d) : TyX K H v (.type (dName d)) := by
  cases h with
  | non => exact .base .non
  | bl b => exact .base (.bl b)
  | int i => exact .base (.int i)
  | str x => exact .base (.str x)
  | lst hs _ => exact tyx_rd hs
  | tup hs _ => exact tyx_rt hs
theorem kits : ∀ (T : Tyn) (d : PyData) (b : Bool), isTy T d = some b → kitB (dName d) (tyName T) = some b := by
  have h : ∀ T : Tyn, kitB "NoneType" (tyName T) = some false ∧ kitB "bool" (tyName T) = some (match T with | .int => true | .bool => true | _ => false) ∧ kitB "int" (tyName T) = some (match T with | .int => true | _ => false) ∧
      kitB "str" (tyName T) = some (match T with | .str => true | _ => false) ∧ kitB "list" (tyName T) = some false ∧ kitB "tuple" (tyName T) = some (match T with | .tuple => true | _ => false) := by
    intro T
    cases T <;> refine ⟨?_, ?_, ?_, ?_, ?_, ?_⟩ <;> decide +kernel
  intro T d b e
  obtain ⟨h1, h2, h3, h4, h5, h6⟩ := h T
  cases T <;> cases d <;> try (simp [isTy] at e; done)
  all_goals (cases e; first | exact h1 | exact h2 | exact h3 | exact h4 | exact h5 | exact h6)
def rIsT (c : Cfg) (T : Tyn) : List V → Hp → VK → Prop := fun xs H Q => ∃ F x d1 b, xs = [x, .ty (tyName T)] ∧ Ok c F H ∧ Rq c.K F H x d1 ∧ isTy T d1 = some b ∧ Q (.bl b) H
theorem cr_isT (hK : c.K = X.K) (T : Tyn) : CallR X (.builtin "isinstance") (rIsT c T) := by
  intro pins s σ H xs us Q I r ⟨F, x, d1, b, e, o, h1, hf, k⟩
  have h := h1.dp o
  rw [hK] at h
  exact call_isi pins s σ H xs us Q I r ⟨x, .ty (tyName T), _, _, b, e, .ty _, dp_tyx h, kit_ty (kits T d1 b hf), k⟩

/-! ### truth -/
theorem tru_data (hK : c.K = X.K) {F H : Hp} {v : V} {d : PyData} {b : Bool} (o : Ok c F H) (h : Rq c.K F H v d) (e : Ce.truthy d = some b) : TruV X.K v H b := by
  cases d with
  | none => cases h.non; cases e; rfl
  | bool x => cases h.bl; cases e; rfl
  | int i => cases h.int; cases e; rfl
  | str z =>
    cases h.str
    simp only [Ce.truthy, gd_some] at e
    obtain ⟨hz, e⟩ := e
    cases e
    exact ⟨by rw [← lim_eq]; exact hz, rfl⟩
  | list ds =>
    cases e
    obtain ⟨a, xs, rfl, s1, a1⟩ := h.lst o
    refine .inl ⟨xs, hK ▸ s1, ?_⟩
    cases a1 <;> rfl
  | tuple ds =>
    cases e
    obtain ⟨a, xs, rfl, s1, a1, _⟩ := h.tup o
    refine .inr (.inl ⟨xs, hK ▸ s1, ?_⟩)
    cases a1 <;> rfl
  | dict kvs => exact h.dict.elim
end
end Cs

set_option maxHeartbeats 4000000
/-! Sorting tuples, the empty one among them. -/
namespace PySem.SeqAt
open PySem PySem.Calls PyProof.Rows
section
variable {A : Around} {s : Shared}
theorem call_tuple_lt {prog : Program} {w : World} {E : Value → Shared → Prop} {Q : Value → Shared → Prop} {l b : Addr} {items items2 : Array Value} {e r : Nat → Bool} (hl : s.heap.IsTuple l items) (hb : s.heap.IsTuple b items2)
    (he : ∀ j (h1 : j < items.size) (h2 : j < items2.size), EqAt A.in1 s items[j] items2[j] (e j)) (hr : ∀ j (h1 : j < items.size) (h2 : j < items2.size), e j = false → RcLt A.in1 s items[j] items2[j] (r j))
    (h : Q (.bool (firstLt e r (decide (items.size < items2.size)) (List.range (min items.size items2.size)))) s) : wpAny (model prog w) A (call (.builtin "tuple.__lt__") [.ref l, .ref b]) Q E s := by
  obtain ⟨⟨cls, dd, data, sl⟩, ho, hc, n, hd⟩ := id hl
  obtain ⟨⟨cls2, dd2, data2, sl2⟩, ho2, hc2, n2, hd2⟩ := id hb
  simp only at hc hd hc2 hd2
  subst hc hd hc2 hd2
  exact call_meets F.slot_tuple_lt ⟨_, ho, rfl⟩ F.entry_tuple_lt (F.args_tuple_lt_2 _ _) (tuple_ltAt l b items items2 n n2 dd dd2 sl sl2 e r) ⟨ho, ho2, he, hr, h⟩
end
end PySem.SeqAt
namespace PySem.W
open PySem PySem.Calls PyProof.Rows PySem.SeqAt
section
variable {prog : Program} {w : World} {A : Around} {E : Value → Shared → Prop} {s : Shared}
theorem oneLt_tup {xs ys : List PyData} {a b : Value} {as bs : List Addr} {Q : Bool → Shared → Prop} (ra : Reads s.heap a (.tuple xs) as) (rb : Reads s.heap b (.tuple ys) bs) (hal : alikeAll xs ys = true)
    (hu : A.units + min (PyData.depth (.tuple xs)) (PyData.depth (.tuple ys)) < cLine) (hq : Q (dataLt (.tuple xs) (.tuple ys)) s) : wpAny (model prog w) A (oneLt' true a b) Q E s := by
  cases ra with
  | @tuple l o vs n _ as₁ h1 h2 h3 h4 =>
    cases rb with
    | @tuple l' o' vs' n' _ bs₁ k1 k2 k3 k4 =>
      have n1 : vs.size = xs.length := by simpa using ReadsAll.length _ _ _ h4
      have n2 : vs'.size = ys.length := by simpa using ReadsAll.length _ _ _ k4
      rw [dataLt_tuple, ← firstLt_toks xs ys hal, ← n1, ← n2] at hq
      rw [oneLt'_eq]
      simp only [if_true]
      refine wpAny_bind (wpAny_cRoomFor (room_here hu) ?_)
      refine wpAny_bind (wpAny_callSpecialIfBound?_slot (T := "tuple") ⟨_, h1, h2⟩ F.slot_tuple_lt (call_tuple_lt (e := pairEq xs ys) (r := fun j => dataLt (xs.getD j .none) (ys.getD j .none)) ⟨_, h1, h2, _, h3⟩ ⟨_, k1, k2, _, k3⟩ (fun j j1 j2 => ?_) (fun j j1 j2 hj => ?_) ?_))
      · have := eqAt_alikeAll xs ys A.in1 s vs.toList vs'.toList _ _ h4 k4 hal (room_in hu) j (by simpa using j1) (by simpa using j2)
        simpa using this
      · have := rcLt_alikeAll xs ys A.in1 s vs.toList vs'.toList _ _ h4 k4 hal (room_in hu) j (by simpa using j1) (by simpa using j2) hj
        simpa using this
      · exact wpAny_truthy_bool hq
end
section
variable {M : Model} {A : Around} {E : Value → Shared → Prop} {s : Shared}
/-- which of the tuples are not empty -/
theorem tup_firsts : ∀ (vs : List Value) (ds : List PyData) {Q : List (Option Value) → Shared → Prop}, EachIs (fun v d => ∃ as, Reads s.heap v d as) vs ds → (∀ d ∈ ds, ∃ xs, d = .tuple xs) → (∀ fs, fs.map Option.isSome = ds.map (fun d => match d with | .tuple (_ :: _) => true | _ => false) → Q fs s) →
    wpAny M A (vs.mapM firstOfTuple') Q E s
  | [], _, _, e, _, h => by
    cases e
    rw [List.mapM_nil]
    exact wpAny_pure (h [] rfl)
  | v :: vs, _, Q, e, ht, h => by
    cases e with
    | @cons _ d _ ds r es =>
      obtain ⟨as, r⟩ := r
      obtain ⟨xs, rfl⟩ := ht d List.mem_cons_self
      rw [List.mapM_cons]
      refine wpAny_bind ?_
      rw [kas_first_eq]
      cases r with
      | @tuple a o ws n _ _ h1 h2 h3 h4 =>
        refine wpAny_bind (Looks.here (show Looks M s.heap (typeOf (.ref a)) o.cls from (Looks.ld h1).andThen .now) ?_)
        rw [h2, if_neg (by first | decide | simp)]
        refine wpAny_bind (listItems_at h1 h3 (wpAny_pure ?_))
        refine wpAny_bind (tup_firsts vs ds es (fun d hd => ht d (List.mem_cons_of_mem _ hd)) fun fs hfs => wpAny_pure (h _ ?_))
        rw [List.map_cons, List.map_cons, hfs]
        congr 1
        have hl : ws.size = xs.length := by simpa using ReadsAll.length _ _ _ h4
        cases xs with
        | nil =>
          have : ws[0]? = none := by simp at hl ⊢; exact hl
          rw [this]; rfl
        | cons x xs =>
          have : 0 < ws.size := by rw [hl]; exact Nat.succ_pos _
          rw [getElem?_pos ws 0 this]; rfl
/-- values that read as alike tuples can be sorted -/
theorem SortsAt.tups {prog : Program} {w : World} {vs : List Value} {ds : List PyData} (e : EachIs (fun v d => ∃ as, Reads s.heap v d as) vs ds) (hal : AllAlike ds) (ht : ∀ d, d ∈ ds → ∃ xs, d = .tuple xs) (hu : ∀ d, d ∈ ds → A.units + d.depth < cLine) : SortsAt prog w A s (dataKind s.heap ds) vs := by
  by_cases hne : ∀ d, d ∈ ds → ∃ x r, d = .tuple (x :: r)
  · exact SortsAt.data e hal (.inl hne) hu
  have room : ∀ {d d' : PyData}, d ∈ ds → A.units + min d.depth d'.depth < cLine := fun {d d'} hd => Nat.lt_of_le_of_lt (Nat.add_le_add_left (Nat.min_le_left _ _) _) (hu d hd)
  refine ⟨fun v hv => ?_, ?_⟩
  · obtain ⟨d, hd, as, r⟩ := e.left v hv
    exact ⟨_, dataKind_some hal hd r⟩
  have hf : (ds.map (fun d => match d with | .tuple (_ :: _) => true | _ => false)).all id = false := by
    rw [List.all_eq_false]
    have : ∃ d ∈ ds, ¬ ∃ x r, d = .tuple (x :: r) := Classical.byContradiction fun h => hne fun d hd => Classical.byContradiction fun h2 => h ⟨d, hd, h2⟩
    obtain ⟨d, hd, hx⟩ := this
    obtain ⟨xs, rfl⟩ := ht d hd
    refine ⟨_, List.mem_map.mpr ⟨_, hd, rfl⟩, ?_⟩
    cases xs with
    | nil => simp
    | cons x r => exact absurd ⟨x, r, rfl⟩ hx
  have firsts : ∀ (fs : List (Option Value)), fs.map Option.isSome = ds.map (fun d => match d with | .tuple (_ :: _) => true | _ => false) → (fs.toArray.all fun x => x.isSome) = false := fun fs h => by
    have : (fs.map Option.isSome).all id = false := by rw [h]; exact hf
    rw [List.all_map] at this
    rw [List.all_toArray]
    exact this
  cases ds with
  | nil =>
    exact absurd (fun d hd => by simp at hd) hne
  | cons d₀ ds₀ =>
    obtain ⟨xs₀, rfl⟩ := ht d₀ (List.mem_cons_self ..)
    cases xs₀ with
    | cons x₀ r₀ =>
      refine ⟨general', ?_, fun h2 E Q hq => ?_⟩
      · intro E x y a b Q ha hb hq
        obtain ⟨d, as, hd, ra, rfl⟩ := dataKind_inv ha
        obtain ⟨d', as', hd', rb, rfl⟩ := dataKind_inv hb
        obtain ⟨ys, rfl⟩ := ht d hd
        show wpAny (model prog w) A (oneLt' false x y) Q E s
        exact oneLt_alike (f := false) (fun z => by cases z) ra rb (hal _ hd d' hd') (by simp) (room hd) hq
      · rw [kat_kind_eq, List.mapM_toArray, map_eq_pure_bind]
        refine wpAny_bind (wpAny_bind (tup_firsts vs _ e ht fun fs hfs => wpAny_pure ?_))
        rw [if_neg (by rw [firsts fs hfs]; exact Bool.false_ne_true)]
        cases fs with
        | nil => simp at hfs
        | cons f fs =>
          have h0 : f.isSome = true := by
            rw [List.map_cons, List.map_cons] at hfs
            exact (List.cons.inj hfs).1
          rw [if_pos (by simpa using h0)]
          exact wpAny_pure hq
    | nil =>
      refine ⟨oneType', ?_, fun h2 E Q hq => ?_⟩
      · intro E x y a b Q ha hb hq
        obtain ⟨d, as, hd, ra, rfl⟩ := dataKind_inv ha
        obtain ⟨d', as', hd', rb, rfl⟩ := dataKind_inv hb
        obtain ⟨ys, rfl⟩ := ht d hd
        obtain ⟨zs, rfl⟩ := ht d' hd'
        rw [keyLt'_oneType]
        exact oneLt_tup ra rb (by simpa [alike] using hal _ hd _ hd') (room hd) hq
      · rw [kat_kind_eq, List.mapM_toArray, map_eq_pure_bind]
        refine wpAny_bind (wpAny_bind (tup_firsts vs _ e ht fun fs hfs => wpAny_pure ?_))
        rw [if_neg (by rw [firsts fs hfs]; exact Bool.false_ne_true)]
        cases fs with
        | nil => simp at hfs
        | cons f fs =>
          have h0 : f.isSome = false := by
            rw [List.map_cons, List.map_cons] at hfs
            exact (List.cons.inj hfs).1
          rw [if_neg (by
            have : ((f :: fs).toArray[0]?.bind id) = f := by simp
            rw [this, h0]
            exact Bool.false_ne_true)]
          rw [oneTypeOnly'_eq, List.mapM_toArray, map_eq_pure_bind]
          have hT : ∀ v ∈ vs, Looks (model prog w) s.heap (typeOf v) (Value.type "tuple") := fun v hv => by
            obtain ⟨d, hd, as, r⟩ := e.left v hv
            obtain ⟨ys, rfl⟩ := ht d hd
            exact looks_reads r
          refine wpAny_bind (wpAny_bind (wpAny_bind (kas_mapM (r := Value.type "tuple") _ (fun v hv Q' hq => (hT v hv).here hq) (wpAny_pure ?_))))
          cases vs with
          | nil => cases e
          | cons v vs =>
            have hall2 : ((List.map (fun _ => Value.type "tuple") (v :: vs)).toArray.all fun x => x == Value.type "tuple") = true := by
              simp only [List.all_toArray, List.all_map, List.all_eq_true]
              intro _ _
              rfl
            have h0 : (List.map (fun _ => Value.type "tuple") (v :: vs)).toArray[0]? = some (Value.type "tuple") := by simp
            rw [h0]
            simp only [hall2, if_true]
            exact wpAny_pure (wpAny_pure hq)
end
section
variable {prog : Program} {w : World} {A : Around} {E : Value → Shared → Prop} {s : Shared} {β : Type} {vs : List Value} {bs : List β} {enc : β → PyData} {R : Value → β → Prop}
/-- may be sorted: all tuples, or all of one other kind -/
def SortableT (ds : List PyData) : Prop := (∀ d, d ∈ ds → ∃ xs, d = .tuple xs) ∨ ∀ d, d ∈ ds → d ≠ .none ∧ ∀ xs, d ≠ .tuple xs
theorem SortsAt.dataT {vs : List Value} {ds : List PyData} (e : EachIs (fun v d => ∃ as, Reads s.heap v d as) vs ds) (hal : AllAlike ds) (hk : SortableT ds) (hu : ∀ d, d ∈ ds → A.units + d.depth < cLine) : SortsAt prog w A s (dataKind s.heap ds) vs := by
  rcases hk with h | h
  · exact SortsAt.tups e hal h hu
  · exact SortsAt.data e hal (.inr h) hu
theorem sorted_dataT {l : Addr} {Q : Value → Shared → Prop} (hl : s.heap.IsList l vs.toArray) (e : EachIs R vs bs) (er : EachIs (fun v b => ∃ as, Reads s.heap v (enc b) as) vs bs) (hal : AllAlike (bs.map enc)) (hk : SortableT (bs.map enc)) (hL : bs.length ≤ sizeLine)
    (hu : ∀ b, b ∈ bs → A.units + 2 + (enc b).depth < cLine) (h : ∀ out, out.length = bs.length → EachIs R out (bs.mergeSort (dataLe false enc)) → Q (.ref (s.heap.objs.size + 1)) { s with heap := sortedAll s.heap vs (List.toArray out) }) :
    wpAny (model prog w) A (call (.builtin "sorted") [.ref l]) Q E s := by
  have er' : EachIs (fun v b => ∃ as, Reads (sortingHeap (copyHeap s.heap vs) (s.heap.objs.size + 1) vs) v (enc b) as) vs bs := er.mono fun _ _ ⟨as, r⟩ => ⟨as, PyProof.Rows.Reads.keeps (fun _ _ => sorting_copy_old) r⟩
  exact sorted_vals hl (SortsAt.dataT (s := { s with heap := sortingHeap (copyHeap s.heap vs) (s.heap.objs.size + 1) vs }) (each_map (R := fun v d => ∃ as, Reads (sortingHeap (copyHeap s.heap vs) (s.heap.objs.size + 1) vs) v d as) enc er') hal hk (bound_map hu)) (by rw [e.length]; exact hL)
    (h _ (by rw [sortVals_length false rfl]; exact e.length) (sortVals_data false e er' hal))
end
end PySem.W

set_option maxHeartbeats 4000000
/-! Builtins of one list. -/
noncomputable section
namespace Cs
open PySem PySem.Spec PyProof.Rows L2 GxR Ce Gx

theorem each_of {K : PySem.W.Frag} {F : Hp} : ∀ {xs : List V} {its : List Value} {ds : List PyData}, Vals xs its → DpAll K F xs ds → PySem.W.EachIs (fun v d => ∃ x, RelV x v ∧ Dp K F x d) its ds
  | _, _, _, .nil, h => by cases h; exact .nil
  | _, _, _, .cons r rs, h => by
    cases h with
    | cons d ds => exact .cons ⟨_, r, d⟩ (each_of rs ds)
theorem of_each {K : PySem.W.Frag} {F : Hp} : ∀ {its : List Value} {ds : List PyData}, PySem.W.EachIs (fun v d => ∃ x, RelV x v ∧ Dp K F x d) its ds → ∃ zs, Vals zs its ∧ DpAll K F zs ds
  | _, _, .nil => ⟨[], .nil, .nil⟩
  | _, _, .cons ⟨x, r, d⟩ t => by
    obtain ⟨zs, h1, h2⟩ := of_each t
    exact ⟨x :: zs, .cons r h1, .cons d h2⟩
theorem fold_max : ∀ (r : List Int) (x : Int), x ≤ r.foldl (fun m y => if m < y then y else m) x ∧ (∀ y ∈ r, y ≤ r.foldl (fun m y => if m < y then y else m) x) ∧ (r.foldl (fun m y => if m < y then y else m) x = x ∨ r.foldl (fun m y => if m < y then y else m) x ∈ r)
  | [], x => ⟨Int.le_refl _, fun y h => absurd h (by simp), .inl rfl⟩
  | z :: r, x => by
    rw [List.foldl_cons]
    obtain ⟨h1, h2, h3⟩ := fold_max r (if x < z then z else x)
    have a : x ≤ (if x < z then z else x) := by split <;> omega
    have b : z ≤ (if x < z then z else x) := by split <;> omega
    refine ⟨Int.le_trans a h1, fun y hy => ?_, ?_⟩
    · rcases List.mem_cons.mp hy with rfl | hy
      · exact Int.le_trans b h1
      · exact h2 y hy
    · rcases h3 with h3 | h3
      · rw [h3]
        split
        · exact .inr List.mem_cons_self
        · exact .inl rfl
      · exact .inr (List.mem_cons_of_mem _ h3)
theorem fold_min : ∀ (r : List Int) (x : Int), r.foldl (fun m y => if y < m then y else m) x ≤ x ∧ (∀ y ∈ r, r.foldl (fun m y => if y < m then y else m) x ≤ y) ∧ (r.foldl (fun m y => if y < m then y else m) x = x ∨ r.foldl (fun m y => if y < m then y else m) x ∈ r)
  | [], x => ⟨Int.le_refl _, fun y h => absurd h (by simp), .inl rfl⟩
  | z :: r, x => by
    rw [List.foldl_cons]
    obtain ⟨h1, h2, h3⟩ := fold_min r (if z < x then z else x)
    have a : (if z < x then z else x) ≤ x := by split <;> omega
    have b : (if z < x then z else x) ≤ z := by split <;> omega
    refine ⟨Int.le_trans h1 a, fun y hy => ?_, ?_⟩
    · rcases List.mem_cons.mp hy with rfl | hy
      · exact Int.le_trans h1 b
      · exact h2 y hy
    · rcases h3 with h3 | h3
      · rw [h3]
        split
        · exact .inr List.mem_cons_self
        · exact .inl rfl
      · exact .inr (List.mem_cons_of_mem _ h3)
theorem max_spec {ns : List Int} {m : Int} (h : m ∈ ns) (u : ∀ y, y ∈ ns → y ≤ m) : m = maxI ns := by
  cases ns with
  | nil => cases h
  | cons x r =>
    obtain ⟨h1, h2, h3⟩ := fold_max r x
    have a : m ≤ maxI (x :: r) := by
      rcases List.mem_cons.mp h with rfl | h
      · exact h1
      · exact h2 m h
    have b : maxI (x :: r) ≤ m := by
      rcases h3 with h3 | h3
      · show List.foldl _ x r ≤ m
        rw [h3]; exact u x List.mem_cons_self
      · exact u _ (List.mem_cons_of_mem _ h3)
    omega
theorem min_spec {ns : List Int} {m : Int} (h : m ∈ ns) (u : ∀ y, y ∈ ns → m ≤ y) : m = minI ns := by
  cases ns with
  | nil => cases h
  | cons x r =>
    obtain ⟨h1, h2, h3⟩ := fold_min r x
    have a : minI (x :: r) ≤ m := by
      rcases List.mem_cons.mp h with rfl | h
      · exact h1
      · exact h2 m h
    have b : m ≤ minI (x :: r) := by
      rcases h3 with h3 | h3
      · show m ≤ List.foldl _ x r
        rw [h3]; exact u x List.mem_cons_self
      · exact u _ (List.mem_cons_of_mem _ h3)
    omega
theorem ints_length : ∀ {ds : List PyData} {ns : List Int}, ints? ds = some ns → ns.length = ds.length
  | [], _, e => by cases e; rfl
  | d :: ds, ns, e => by
    cases d <;> try (simp [ints?] at e; done)
    simp only [ints?, Option.map_eq_some_iff] at e
    obtain ⟨ms, e1, rfl⟩ := e
    rw [List.length_cons, List.length_cons, ints_length e1]

theorem sortable_ok {ds : List PyData} (h : sortable ds = true) : PySem.W.AllAlike ds ∧ PySem.W.SortableT ds ∧ ∀ d ∈ ds, d.depth ≤ 64 := by
  simp only [sortable, Bool.and_eq_true, Bool.or_eq_true, List.all_eq_true, decide_eq_true_eq] at h
  obtain ⟨⟨h1, h2⟩, h3⟩ := h
  refine ⟨fun d hd d' hd' => h1 d hd d' hd', ?_, h3⟩
  rcases h2 with h2 | h2
  · refine .inl fun d hd => ?_
    have q := h2 d hd
    split at q
    · exact ⟨_, rfl⟩
    · cases q
  · refine .inr fun d hd => ?_
    have q := h2 d hd
    refine ⟨fun e => ?_, fun xs e => ?_⟩ <;> (rw [e] at q; cases q)
section
variable {X : Cx} {c : Cfg}
theorem cr_sortD (hK : c.K = X.K) (hu : X.A.units + 200 < cLine) {F : Hp} {H : Hp} {pins : List (Addr × Obj)} {s : Shared} {σ : L2.St} {x : V} {u : Value} {ds : List PyData} {Q : VK} (I : Inv X pins σ H s) (o : Ok c F H) (r : RelV x u) (h : Rq c.K F H x (.list ds)) (hs : sortable ds = true) (hl : ds.length ≤ LIM)
    (q : ∀ p zs, H p = none → DpAll c.K F zs (sortd ds) → Q (.ref p) (upd H p (.lst zs))) : wpAny (model X.prog X.w) X.A (call (.builtin "sorted") [u]) (EP X pins σ Q) X.xe s := by
  obtain ⟨a, xs, rfl, s1, a1⟩ := h.lst o
  cases r
  obtain ⟨its, rv, pl, hz⟩ := I.list (hK ▸ s1)
  obtain ⟨h1, h2, h3⟩ := sortable_ok hs
  have e := each_of rv a1
  have er : PySem.W.EachIs (fun v b => ∃ as, Reads s.heap v (id b) as) its ds := e.mono fun v d ⟨x, r, d0⟩ => Dp.reads I d x v (hK ▸ dp_mono o.fhT _ _ d0) r
  refine PySem.W.sorted_dataT (enc := id) (bs := ds) pl.isList e er (by rw [List.map_id]; exact h1) (by rw [List.map_id]; exact h2) (by rw [← lim_eq]; exact hl) (fun d hd => by have := h3 d hd; show X.A.units + 2 + d.depth < cLine; omega) fun out hlen ho => ?_
  obtain ⟨zs, r1, r2⟩ := of_each ho
  obtain ⟨ep, he'⟩ := PyProof.Rows.sortedAll_at s.heap its out.toArray
  have hlz : zs.length ≤ sizeLine := by rw [r1.length, hlen, ← lim_eq]; exact hl
  exact ⟨.ref _, upd H (s.heap.objs.size + 1) (.lst zs), I.laid (t' := s.toks) (fun _ _ => PyProof.Rows.sortedAll_old) (Nat.le_succ _) ⟨hlz, out, ep, r1, he'⟩, rfl, q _ _ (I.hok.fresh (Nat.le_succ _)) r2⟩

def biOf : Bi → Value
  | .tuple => .type "tuple" | .list => .type "list" | .sorted => .builtin "sorted" | .sum => .builtin "sum" | .max => .builtin "max" | .min => .builtin "min" | .all => .builtin "all" | .any => .builtin "any"
def rBi (c : Cfg) (m : Md) (b : Bi) : List V → Hp → VK → Prop := fun xs H Q => ∃ F x d1 d, xs = [x] ∧ Ok c F H ∧ Rq c.K F H x d1 ∧ biop b d1 = some d ∧ ∀ v H' F', Ext c F H F' H' → Fin c m F H F' H' v d → Q v H'
theorem lst_some {d : PyData} {ds : List PyData} (h : lst? d = some ds) : d = .list ds := by
  cases d <;> simp [lst?] at h
  rw [h]
theorem cr_bi (hK : c.K = X.K) (hc : X.calm = true) (hu : X.A.units + 200 < cLine) {m : Md} (b : Bi) : CallR X (biOf b) (rBi c m b) := by
  intro pins s σ H xs us Q I r ⟨F, x, d1, d, e, o, h1, hf, k⟩
  subst e
  cases b with
  | tuple =>
    cases d1 <;> try (simp [biop, seq?] at hf; done)
    · cases hf
      obtain ⟨a, ys, rfl, s1, a1⟩ := h1.lst o
      exact call_tuple_of pins s σ H _ us Q I r ⟨a, ys, rfl, .inl ⟨hK ▸ s1, fun l hn => fin_tup (Ext.refl o) hn a1 k⟩⟩
    · cases hf
      obtain ⟨a, ys, rfl, s1, a1, D1⟩ := h1.tup o
      exact call_tuple_of pins s σ H _ us Q I r ⟨a, ys, rfl, .inr ⟨hK ▸ s1, fin_val (Ext.refl o) D1 (fun _ => rfl) k⟩⟩
  | list =>
    cases d1 <;> try (simp [biop, seq?] at hf; done)
    · cases hf
      obtain ⟨a, ys, rfl, s1, a1⟩ := h1.lst o
      exact call_list_of pins s σ H _ us Q I r ⟨a, ys, rfl, .inl (hK ▸ s1), fun l hn => fin_lst (Ext.refl o) hn a1 k⟩
    · cases hf
      obtain ⟨a, ys, rfl, s1, a1, D1⟩ := h1.tup o
      exact call_list_of pins s σ H _ us Q I r ⟨a, ys, rfl, .inr (hK ▸ s1), fun l hn => fin_lst (Ext.refl o) hn a1 k⟩
  | sorted =>
    simp only [biop, Option.bind_eq_some_iff] at hf
    obtain ⟨ds, e1, hf⟩ := hf
    rw [gd_some] at hf
    obtain ⟨hz, hf⟩ := hf
    cases hf
    rw [lst_some e1] at h1
    cases r with
    | cons r0 rr =>
      cases rr
      exact cr_sortD hK hu I o r0 h1 hz.1 hz.2 fun p zs hn hd => fin_lst (Ext.refl o) hn hd k
  | sum =>
    simp only [biop, Option.bind_eq_some_iff, Option.map_eq_some_iff] at hf
    obtain ⟨ds, e1, ns, e2, rfl⟩ := hf
    rw [lst_some e1] at h1
    obtain ⟨a, ys, rfl, s1, a1⟩ := h1.lst o
    rw [DpAll.ints a1 e2] at s1
    exact cr_sum hc pins s σ H _ us Q I r ⟨a, ns, rfl, hK ▸ s1, fin_int o k⟩
  | max =>
    simp only [biop, Option.bind_eq_some_iff] at hf
    obtain ⟨ds, e1, hf⟩ := hf
    split at hf <;> try (cases hf; done)
    rename_i hne
    rw [Option.map_eq_some_iff] at hf
    obtain ⟨ns, e2, rfl⟩ := hf
    rw [lst_some e1] at h1
    obtain ⟨a, ys, rfl, s1, a1⟩ := h1.lst o
    rw [DpAll.ints a1 e2] at s1
    have hl : 0 < ns.length := by rw [ints_length e2]; cases ds <;> simp at hne ⊢
    exact cr_max hc pins s σ H _ us Q I r ⟨a, ns, rfl, hK ▸ s1, hl, fun mm q1 q2 => by rw [max_spec q1 q2]; exact fin_int o k⟩
  | min =>
    simp only [biop, Option.bind_eq_some_iff] at hf
    obtain ⟨ds, e1, hf⟩ := hf
    split at hf <;> try (cases hf; done)
    rename_i hne
    rw [Option.map_eq_some_iff] at hf
    obtain ⟨ns, e2, rfl⟩ := hf
    rw [lst_some e1] at h1
    obtain ⟨a, ys, rfl, s1, a1⟩ := h1.lst o
    rw [DpAll.ints a1 e2] at s1
    have hl : 0 < ns.length := by rw [ints_length e2]; cases ds <;> simp at hne ⊢
    exact cr_min hc pins s σ H _ us Q I r ⟨a, ns, rfl, hK ▸ s1, hl, fun mm q1 q2 => by rw [min_spec q1 q2]; exact fin_int o k⟩
  | all =>
    simp only [biop, Option.bind_eq_some_iff, Option.map_eq_some_iff] at hf
    obtain ⟨ds, e1, ns, e2, rfl⟩ := hf
    rw [lst_some e1] at h1
    obtain ⟨a, ys, rfl, s1, a1⟩ := h1.lst o
    rw [DpAll.bools a1 e2] at s1
    exact cr_all hc pins s σ H _ us Q I r ⟨a, ns, rfl, hK ▸ s1, fin_bl o k⟩
  | any =>
    simp only [biop, Option.bind_eq_some_iff, Option.map_eq_some_iff] at hf
    obtain ⟨ds, e1, ns, e2, rfl⟩ := hf
    rw [lst_some e1] at h1
    obtain ⟨a, ys, rfl, s1, a1⟩ := h1.lst o
    rw [DpAll.bools a1 e2] at s1
    exact cr_any hc pins s σ H _ us Q I r ⟨a, ns, rfl, hK ▸ s1, fin_bl o k⟩
end
end Cs

set_option maxHeartbeats 4000000
/-! Sets of ints, of a list; sorting a set of tuples of ints; their lengths. -/
namespace L2
open PySem PySem.Spec PyProof.Rows Ce
section
variable {P : Program} {w : World} {A : Around} {E : Value → Shared → Prop} {s : Shared}
theorem call_set_listI {l : Addr} {items : Array Value} (ns : List Int) {Q : Value → Shared → Prop} (hh : A.handled = none) (hl : s.heap.IsList l items) (hit : IntsAre items.toList ns) (hb : ns.length + 1 < scanBound)
    (h : ∀ (h' : Heap) (tk c : Nat), SetR w h' s.heap.objs.size (fun j => decide (j ∈ ns)) c → c ≤ ns.length → (∀ b o, s.heap.get? b = some o → h'.get? b = some o) → Q (.ref s.heap.objs.size) { s with heap := h', toks := tk }) :
    wpAny (model P w) A (call (.type "set") [.ref l]) Q E s := by
  have hisz : items.size = ns.length := by
    have q := IntsAre.length hit
    rw [Array.length_toList] at q
    exact q
  obtain ⟨c, tl, hmro⟩ := F.called_set.mro
  have hmade := F.called_set.made
  have hsub := F.called_set.sub
  refine wpAny_call (codeAny_of_tree ?_)
  show wpAny _ _ (callAny (.type "set") _) _ _ _
  refine wpAny_pure ⟨Code.quiet_builtin _ (by decide +kernel), codeAny_builtin F.entry_type_call ?_⟩
  rw [Around.under_plain (weight_type_call_type "set" [.ref l] []) rfl]
  have h1 := F.called_set.notType
  have h2 := F.called_set.canCreate
  have hct := F.typeCall_set_1 (.ref l)
  repeat (any_goals (first | assumption | wp_step))
  refine codeAny_mono (code_set_led1 (.ref l) (E := E) (Q₁ := fun obj s₁ => obj = .ref s.heap.objs.size ∧ s₁ = { s with heap := s.heap.push { cls := .type "set", dict := none, data := .set #[] 0 (.fresh 0 0 (!w.params.followText "set-order")) } }) ⟨rfl, rfl⟩) fun r s₁ hr => ?_
  cases r with
  | error e => exact hr
  | ok fl =>
    cases fl with
    | ret obj =>
      obtain ⟨rfl, rfl⟩ := hr
      have hS : (s.heap.push { cls := .type "set", dict := none, data := .set #[] 0 (.fresh 0 0 (!w.params.followText "set-order")) }).get? s.heap.objs.size = some { cls := .type "set", dict := none, data := .set #[] 0 (.fresh 0 0 (!w.params.followText "set-order")) } := Heap.get?_push_size _ rfl
      have hT : Shared.TypeIs { s with heap := s.heap.push { cls := .type "set", dict := none, data := .set #[] 0 (.fresh 0 0 (!w.params.followText "set-order")) } } (.ref s.heap.objs.size) "set" := ⟨_, hS, rfl⟩
      have hli := F.called_set.init.lookup
      have hbi := F.called_set.init.bind (.ref s.heap.objs.size)
      repeat (any_goals (first | assumption | wp_step))
      refine codeAny_mono (codeAny_call_builtin (R := wants (fun r s₂ => r = .none ∧ ∃ h' tk c, s₂ = { s with heap := h', toks := tk } ∧ SetR w h' s.heap.objs.size (fun j => decide (j ∈ ns)) c ∧ c ≤ ns.length ∧
          (∀ b o, s.heap.get? b = some o → h'.get? b = some o)) E) F.called_set.init.plain F.entry_set_init (check_set_init_1 hT ?_)) fun r₂ s₂ hr₂ => ?_
      · obtain ⟨ol, hol, hcl, nl, hdl⟩ := hl
        obtain ⟨ocls, odict, odata, oslots⟩ := ol
        simp only at hcl hdl
        subst hcl; subst hdl
        have hol' : (s.heap.push { cls := .type "set", dict := none, data := .set #[] 0 (.fresh 0 0 (!w.params.followText "set-order")) }).get? l = some { cls := .type "list", dict := odict, data := .seq items nl, slots := oslots } := Heap.get?_push_of_some _ hol
        have hsls := F.sub_list_set
        have hslf := F.sub_list_frozenset
        have hne : (Value.type "list" == Value.type "dict") = false := by decide
        have hl1 : (s.heap.push { cls := .type "set", dict := none, data := .set #[] 0 (.fresh 0 0 (!w.params.followText "set-order")) }).IsList l items := ⟨_, hol', rfl, nl, rfl⟩
        unfold Builtin.«set.__init__» noKeywords Builtin.Frozenset.updateFrom
        generalize hPI : pyIter = PI
        wp_walk
        subst hPI
        refine wpAny_pyIter_list hl1 ?_
        refine wpAny_bind (wpAny_runValue ?_)
        have hlS : l < s.heap.objs.size := Heap.lt_size hol
        have hh3 : A.in1.in1.in1.handled = none := by simp [hh]
        have hneI : l ≠ (s.heap.push { cls := .type "set", dict := none, data := .set #[] 0 (.fresh 0 0 (!w.params.followText "set-order")) }).objs.size := by
          rw [Heap.size_push]; exact Nat.ne_of_lt (Nat.lt_succ_of_lt hlS)
        have hSf : s.heap.objs.size ∉ [(s.heap.push { cls := .type "set", dict := none, data := .set #[] 0 (.fresh 0 0 (!w.params.followText "set-order")) }).objs.size, l] := by
          rw [Heap.size_push]; simp only [List.mem_cons, List.mem_singleton, List.not_mem_nil, or_false, not_or]
          exact ⟨Nat.ne_of_lt (Nat.lt_succ_self _), Nat.ne_of_gt hlS⟩
        have hval : ∀ (i : Nat) (v : Value), items[i]? = some v → ∃ k t, ns[i]? = some k ∧ v = .int k t := fun i v hv => by
          have hi : i < ns.length := by rw [← hisz]; exact (Array.getElem?_eq_some_iff.mp hv).1
          obtain ⟨t, e⟩ := PyProof.Rows.IntsAre.int_at hit i v (by rw [Array.getElem?_toList]; exact hv)
          refine ⟨ns[i], t, List.getElem?_eq_getElem hi, ?_⟩
          rw [e, List.getD_eq_getElem?_getD, List.getElem?_eq_getElem hi] <;> rfl
        refine set_update_ints ((Walks.list hh3 _ l hneI items).toS) s.heap.objs.size
          hSf ns hisz hb hval (items.size - 0) 0 _ (by omega) (Nat.zero_le _)
          ⟨⟨_, Heap.get?_push_size _ rfl, rfl, rfl⟩, (hl1.push _)⟩ ?hS0 ?hR
        case hS0 =>
          have hget : ((s.heap.push { cls := .type "set", dict := none, data := .set #[] 0 (.fresh 0 0 (!w.params.followText "set-order")) }).push { cls := .type "list_iterator", data := .fields #[.ref l, .int 0 0] }).get? s.heap.objs.size
              = some { cls := .type "set", dict := none, data := .set #[] 0 (.fresh 0 0 (!w.params.followText "set-order")) } := Heap.get?_push_of_some _ hS
          exact ⟨0, Nat.le_refl 0, setR_new_at hget⟩
        case hR =>
          intro s' c' hm hc' hS'
          obtain ⟨h', g2, d', tk', os'⟩ := s'
          have eg : g2 = s.gens := hm.gens
          have ed : d' = s.drawn := hm.drawn
          have eo : os' = s.os := hm.os
          subst eg; subst ed; subst eo
          show wpAny _ _ _ _ _ _
          refine wpAny_pure ?_
          show wpAny _ _ (ret Value.none) _ _ _
          rw [hisz] at hc'
          refine wpAny_pure ⟨rfl, h', tk', c', rfl, hS', hc', fun b o e => ?_⟩
          have hb0 : b < s.heap.objs.size := Heap.lt_size e
          have hb1 : b ≠ s.heap.objs.size := Nat.ne_of_lt hb0
          have hb2 : b ≠ (s.heap.push { cls := .type "set", dict := none, data := .set #[] 0 (.fresh 0 0 (!w.params.followText "set-order")) }).objs.size := by
            rw [Heap.size_push]; exact Nat.ne_of_lt (Nat.lt_succ_of_lt hb0)
          exact hm.heap b o (by simp only [List.mem_cons, List.mem_singleton, List.not_mem_nil, or_false, not_or]; exact ⟨hb1, hb2⟩) (Heap.get?_push_of_some _ (Heap.get?_push_of_some _ e))
      · cases r₂ with
        | error e => exact hr₂
        | ok fl₂ =>
          cases fl₂ with
          | ret r =>
            obtain ⟨rfl, h', tk, c', rfl, hS', hc', hk'⟩ := hr₂
            repeat (any_goals (first | assumption | wp_step))
            exact h _ _ _ hS' hc' hk'
          | _ => exact hr₂.elim
    | _ => exact hr.elim

theorem call_set_tupsT {l : Addr} {items : Array Value} (ks : List (Addr × List Int)) {Q : Value → Shared → Prop} (hh : A.handled = none) (hl : s.heap.IsTuple l items) (hit : items.toList = ks.map fun p => Value.ref p.1)
    (hk : ∀ p ∈ ks, IsT P w s.heap p.2 p.1) (hfew : ks.length < 64) (hu : A.units + 3 < cLine)
    (h : ∀ (h' : Heap) (tk : Nat) L es ep t, SetTR P w h' s.heap.objs.size L es ep t → Got ks ks.length L → (∀ b o, s.heap.get? b = some o → h'.get? b = some o) → Q (.ref s.heap.objs.size) { s with heap := h', toks := tk }) :
    wpAny (model P w) A (call (.type "set") [.ref l]) Q E s := by
  have hisz : items.size = ks.length := by
    have q := congrArg List.length hit
    rw [Array.length_toList, List.length_map] at q
    exact q
  obtain ⟨c, tl, hmro⟩ := F.called_set.mro
  have hmade := F.called_set.made
  have hsub := F.called_set.sub
  refine wpAny_call (codeAny_of_tree ?_)
  show wpAny _ _ (callAny (.type "set") _) _ _ _
  refine wpAny_pure ⟨Code.quiet_builtin _ (by decide +kernel), codeAny_builtin F.entry_type_call ?_⟩
  rw [Around.under_plain (weight_type_call_type "set" [.ref l] []) rfl]
  have h1 := F.called_set.notType
  have h2 := F.called_set.canCreate
  have hct := F.typeCall_set_1 (.ref l)
  repeat (any_goals (first | assumption | wp_step))

  refine codeAny_mono (code_set_led1 (.ref l) (E := E) (Q₁ := fun obj s₁ => obj = .ref s.heap.objs.size ∧ s₁ = { s with heap := s.heap.push { cls := .type "set", dict := none, data := .set #[] 0 (.fresh 0 0 (!w.params.followText "set-order")) } }) ⟨rfl, rfl⟩) fun r s₁ hr => ?_
  cases r with
  | error e => exact hr
  | ok fl =>
    cases fl with
    | ret obj =>
      obtain ⟨rfl, rfl⟩ := hr
      have hS : (s.heap.push { cls := .type "set", dict := none, data := .set #[] 0 (.fresh 0 0 (!w.params.followText "set-order")) }).get? s.heap.objs.size = some { cls := .type "set", dict := none, data := .set #[] 0 (.fresh 0 0 (!w.params.followText "set-order")) } := Heap.get?_push_size _ rfl
      have hT : Shared.TypeIs { s with heap := s.heap.push { cls := .type "set", dict := none, data := .set #[] 0 (.fresh 0 0 (!w.params.followText "set-order")) } } (.ref s.heap.objs.size) "set" := ⟨_, hS, rfl⟩
      have hli := F.called_set.init.lookup
      have hbi := F.called_set.init.bind (.ref s.heap.objs.size)
      repeat (any_goals (first | assumption | wp_step))

      refine codeAny_mono (codeAny_call_builtin (R := wants (fun r s₂ => r = .none ∧ ∃ h' tk L es ep t, s₂ = { s with heap := h', toks := tk } ∧ SetTR P w h' s.heap.objs.size L es ep t ∧ Got ks ks.length L ∧
          (∀ b o, s.heap.get? b = some o → h'.get? b = some o)) E) F.called_set.init.plain F.entry_set_init (check_set_init_1 hT ?_)) fun r₂ s₂ hr₂ => ?_
      · obtain ⟨ol, hol, hcl, nl, hdl⟩ := hl
        obtain ⟨ocls, odict, odata, oslots⟩ := ol
        simp only at hcl hdl
        subst hcl; subst hdl
        have hol' : (s.heap.push { cls := .type "set", dict := none, data := .set #[] 0 (.fresh 0 0 (!w.params.followText "set-order")) }).get? l = some { cls := .type "tuple", dict := odict, data := .seq items nl, slots := oslots } := Heap.get?_push_of_some _ hol
        have hsls := F.sub_tuple_set
        have hslf := F.sub_tuple_frozenset
        have hne : (Value.type "tuple" == Value.type "dict") = false := by decide
        have hl1 : (s.heap.push { cls := .type "set", dict := none, data := .set #[] 0 (.fresh 0 0 (!w.params.followText "set-order")) }).IsTuple l items := ⟨_, hol', rfl, nl, rfl⟩
        unfold Builtin.«set.__init__» noKeywords Builtin.Frozenset.updateFrom
        generalize hPI : pyIter = PI
        wp_walk
        subst hPI

        refine wpAny_pyIter_tuple hl1 ?_
        refine wpAny_bind (wpAny_runValue ?_)
        have hlS : l < s.heap.objs.size := Heap.lt_size hol
        have hh3 : A.in1.in1.in1.handled = none := by simp [hh]
        have hz1 : (s.heap.push { cls := .type "set", dict := none, data := .set #[] 0 (.fresh 0 0 (!w.params.followText "set-order")) }).objs.size = s.heap.objs.size + 1 := Heap.size_push ..
        have hneI : l ≠ (s.heap.push { cls := .type "set", dict := none, data := .set #[] 0 (.fresh 0 0 (!w.params.followText "set-order")) }).objs.size := by
          rw [Heap.size_push]; exact Nat.ne_of_lt (Nat.lt_succ_of_lt hlS)
        have hSf : s.heap.objs.size ∉ [(s.heap.push { cls := .type "set", dict := none, data := .set #[] 0 (.fresh 0 0 (!w.params.followText "set-order")) }).objs.size, l] := by
          rw [Heap.size_push]; simp only [List.mem_cons, List.mem_singleton, List.not_mem_nil, or_false, not_or]
          exact ⟨Nat.ne_of_lt (Nat.lt_succ_self _), Nat.ne_of_gt hlS⟩
        have hval : ∀ (i : Nat) (v : Value), items[i]? = some v → ∃ p, ks[i]? = some p ∧ v = .ref p.1 := fun i v hv => by
          have q : items.toList[i]? = some v := by rw [Array.getElem?_toList]; exact hv
          rw [hit, List.getElem?_map] at q
          cases hq : ks[i]? with
          | none => rw [hq] at q; cases q
          | some p =>
            rw [hq] at q
            exact ⟨p, rfl, (Option.some.inj q).symm⟩
        have none_of : ∀ b, s.heap.objs.size ≤ b → s.heap.get? b = none := fun b hb => by
          cases q : s.heap.get? b with
          | none => rfl
          | some o => exact absurd (Nat.lt_of_lt_of_le (Heap.lt_size q) hb) (Nat.lt_irrefl _)
        refine set_update_tups ((Walks.tuple hh3 _ l hneI items).toS) s.heap.objs.size
          hSf ks hisz hfew hval s.heap hk (none_of _ (Nat.le_refl _)) (fun b hb => none_of b (by
            rw [List.mem_singleton.mp hb, Heap.size_push]
            exact Nat.le_succ _)) hu (items.size - 0) 0 _ (by omega) (Nat.zero_le _)
          ⟨⟨_, Heap.get?_push_size _ rfl, rfl, rfl⟩, (hl1.push _)⟩ (fun b o e => Heap.get?_push_of_some _ (Heap.get?_push_of_some _ e)) ?hS0 ?hR
        case hS0 =>
          have hget : ((s.heap.push { cls := .type "set", dict := none, data := .set #[] 0 (.fresh 0 0 (!w.params.followText "set-order")) }).push { cls := .type "tuple_iterator", data := .fields #[.ref l, .int 0 0] }).get? s.heap.objs.size
              = some { cls := .type "set", dict := none, data := .set #[] 0 (.fresh 0 0 (!w.params.followText "set-order")) } := Heap.get?_push_of_some _ hS
          exact ⟨[], #[], 0, _, setTR_fresh hget, Got.zero ks⟩
        case hR =>
          intro s' L es ep t hm hS' g' hkp
          obtain ⟨h', g2, d', tk', os'⟩ := s'
          have eg : g2 = s.gens := hm.gens
          have ed : d' = s.drawn := hm.drawn
          have eo : os' = s.os := hm.os
          subst eg; subst ed; subst eo
          show wpAny _ _ _ _ _ _
          refine wpAny_pure ?_
          show wpAny _ _ (ret Value.none) _ _ _
          rw [hisz] at g'
          exact wpAny_pure ⟨rfl, h', tk', L, es, ep, t, rfl, hS', g', hkp⟩

      · cases r₂ with
        | error e => exact hr₂
        | ok fl₂ =>
          cases fl₂ with
          | ret r =>
            obtain ⟨rfl, h', tk, L, es, ep, t, rfl, hS', g', hk'⟩ := hr₂
            repeat (any_goals (first | assumption | wp_step))
            exact h _ _ _ _ _ _ hS' g' hk'
          | _ => exact hr₂.elim
    | _ => exact hr.elim

theorem reads_ints {h : Heap} : ∀ {vs : List Value} {k : List Int}, IntsAre vs k → ∃ as, ReadsAll h vs (k.map PyData.int) as
  | _, _, .nil => ⟨_, .nil⟩
  | _, _, .cons n t r => by
    obtain ⟨as, q⟩ := reads_ints (h := h) r
    exact ⟨_, .cons (.int _ _) q⟩
theorem tup_reads {h : Heap} {k : List Int} {b : Addr} (x : IsT P w h k b) : ∃ as, Reads h (.ref b) (tupD k) as := by
  obtain ⟨o, items, n, ho, hc, hd, hi⟩ := x
  obtain ⟨as, q⟩ := reads_ints (h := h) (ints_of_items hi)
  exact ⟨_, .tuple ho hc hd q⟩
theorem tups_alike (a b : List Int) : PySem.W.alikeAll (a.map .int) (b.map .int) = true := by
  induction a generalizing b with
  | nil => cases b <;> simp [PySem.W.alikeAll]
  | cons x a ih => cases b <;> simp [PySem.W.alikeAll, PySem.W.alike, ih]
theorem tupD_alike (a b : List Int) : PySem.W.alike (tupD a) (tupD b) = true := by
  simp [tupD, PySem.W.alike, tups_alike]
theorem ints_depth : ∀ a : List Int, PyData.depthAll (a.map .int) = 0
  | [] => rfl
  | x :: a => by rw [List.map_cons, PyData.depthAll, ints_depth a]; rfl
theorem tupD_depth (a : List Int) : (tupD a).depth = 1 := by
  rw [tupD, PyData.depth, ints_depth a]
theorem each_refs {R : Value → (Addr × List Int) → Prop} {L : List (Addr × List Int)} (h : ∀ q ∈ L, R (.ref q.1) q) : PySem.W.EachIs R (L.map fun q => Value.ref q.1) L := by
  induction L with
  | nil => exact .nil
  | cons q L ih => exact .cons (h q List.mem_cons_self) (ih fun r hr => h r (List.mem_cons_of_mem _ hr))
theorem refs_each {vs : List Value} {L : List (Addr × List Int)} (e : PySem.W.EachIs (fun v (q : Addr × List Int) => v = Value.ref q.1) vs L) : vs = L.map fun q => Value.ref q.1 := by
  induction e with
  | nil => rfl
  | cons h _ ih => rw [List.map_cons, h, ih]
end
section
variable {P : Program} {w : World} {A : Around} {E : Value → Shared → Prop} {s : Shared}
/-- sorted(set), the tuples of ints in the order of data -/
theorem sorted_setTD {a : Addr} {L : List (Addr × List Int)} {es : Array (Int × Value)} {ep : Nat} {t : SetTable} {Q : Value → Shared → Prop} (R : SetTR P w s.heap a L es ep t) (hh : A.handled = none) (hu : A.units + 20 < cLine)
    (hQ : ∀ s' p (out : Array Value) (c : Nat) (L' L1 : List (Addr × List Int)), (∀ b o, s.heap.get? b = some o → s'.heap.get? b = some o) → s'.gens = s.gens → s'.os = s.os → s.heap.objs.size ≤ p →
      s'.heap.get? p = some (seqObj "list" out c) → out.toList = L'.map (fun q => Value.ref q.1) → L1.Perm L → L' = L1.mergeSort (PySem.W.dataLe false fun q => tupD q.2) → Q (.ref p) s') :
    wpAny (model P w) A (call (.builtin "sorted") [.ref a]) Q E s := by
  obtain ⟨o, ho, hex, hd⟩ := R.ob
  have hsz := R.size
  have hfew := R.few
  refine Calls.call_function_entry kind_sorted plain_sorted entry_sorted (args_sorted1 _) ?_
  unfold Builtin.«sorted»
  refine wpAny_bind (m := checkCount "sorted" 1 1 _) (wpAny_pure ?_)
  refine wpAny_bind (collect_set (A := A.in1) hh ⟨o, ho, hex.1, hd⟩ R.fits (by unfold scanBound; omega) R.tab.ris R.led fun s1 vs k1 hz g1 o1 pm => ?_)
  have hes : es.toList.map (·.2) = L.map fun q => Value.ref q.1 := by
    rw [R.rows]
    unfold rowsOf
    rw [List.map_map] <;> rfl
  rw [hes] at pm
  obtain ⟨L1, pL, rfl⟩ : ∃ L1 : List (Addr × List Int), L1.Perm L ∧ vs = L1.map fun q => Value.ref q.1 := by
    clear R hes
    have gen : ∀ (vs us : List Value), vs.Perm us → ∀ L : List (Addr × List Int), us = L.map (fun q => Value.ref q.1) → ∃ L1 : List (Addr × List Int), L1.Perm L ∧ vs = L1.map fun q => Value.ref q.1 := by
      intro vs us pm
      induction pm with
      | nil => intro L e; cases L with
        | nil => exact ⟨[], .nil, rfl⟩
        | cons _ _ => cases e
      | cons x pm ih =>
        intro L e
        cases L with
        | nil => cases e
        | cons q L =>
          rw [List.map_cons] at e
          obtain ⟨e1, e2⟩ := List.cons.inj e
          obtain ⟨L1, p1, e3⟩ := ih L e2
          exact ⟨q :: L1, p1.cons q, by rw [List.map_cons, e1, e3]⟩
      | swap x y l =>
        intro L e
        cases L with
        | nil => cases e
        | cons q L =>
          cases L with
          | nil =>
            rw [List.map_cons] at e
            obtain ⟨_, e2⟩ := List.cons.inj e
            cases e2
          | cons r L =>
            rw [List.map_cons, List.map_cons] at e
            obtain ⟨e1, e2⟩ := List.cons.inj e
            obtain ⟨e3, e4⟩ := List.cons.inj e2
            exact ⟨r :: q :: L, .swap _ _ _, by rw [List.map_cons, List.map_cons, e1, e3, e4]⟩
      | trans _ _ ih1 ih2 =>
        intro L e
        obtain ⟨L2, p2, e2⟩ := ih2 L e
        obtain ⟨L1, p1, e1⟩ := ih1 L2 e2
        exact ⟨L1, p1.trans p2, e1⟩
    exact gen _ _ pm L rfl
  have hvl : (L1.map fun q => Value.ref q.1).length < 64 := by rw [List.length_map, pL.length_eq]; exact hfew
  refine wpAny_bind (wpAny_newList ?_ (by rw [sizeLine_eq]; omega))
  have hoL : (s1.heap.push (seqObj "list" (L1.map fun q => Value.ref q.1).toArray 0)).get? s1.heap.objs.size = some (seqObj "list" (L1.map fun q => Value.ref q.1).toArray 0) := Heap.get?_push_size _ rfl
  have tk : ∀ q ∈ L1, ∃ as, Reads (PySem.W.sortingHeap (s1.heap.push (seqObj "list" (L1.map fun q => Value.ref q.1).toArray 0)) s1.heap.objs.size (L1.map fun q => Value.ref q.1)) (.ref q.1) (tupD q.2) as := fun q hq => by
    have t0 := R.tup q (pL.mem_iff.mp hq)
    refine tup_reads (P := P) (w := w) (isT_keep t0 fun b u e => ?_)
    have e1 := k1 b u e
    have hlt := Heap.lt_size e1
    exact PySem.W.sortingHeap_old (Nat.ne_of_lt hlt) (Heap.get?_push_of_some _ e1)
  have er : PySem.W.EachIs (fun v (q : Addr × List Int) => ∃ as, Reads (PySem.W.sortingHeap (s1.heap.push (seqObj "list" (L1.map fun q => Value.ref q.1).toArray 0)) s1.heap.objs.size (L1.map fun q => Value.ref q.1)) v (tupD q.2) as) (L1.map fun q => Value.ref q.1) L1 := each_refs tk
  have ee : PySem.W.EachIs (fun v (q : Addr × List Int) => v = Value.ref q.1) (L1.map fun q => Value.ref q.1) L1 := each_refs fun _ _ => rfl
  have hal : PySem.W.AllAlike (L1.map fun q => tupD q.2) := fun d hd d' hd' => by
    obtain ⟨q, _, rfl⟩ := List.mem_map.mp hd
    obtain ⟨r, _, rfl⟩ := List.mem_map.mp hd'
    exact tupD_alike _ _
  have so := PySem.W.sortVals_data (R := fun v (q : Addr × List Int) => v = Value.ref q.1) (enc := fun q => tupD q.2) false ee er hal
  have S : PySem.W.SortsAt P w A.in1.in1 { s1 with heap := PySem.W.sortingHeap (s1.heap.push (seqObj "list" (L1.map fun q => Value.ref q.1).toArray 0)) s1.heap.objs.size (L1.map fun q => Value.ref q.1) } _ (L1.map fun q => Value.ref q.1) :=
    PySem.W.SortsAt.dataT (PySem.W.each_map (R := fun v d => ∃ as, Reads (PySem.W.sortingHeap (s1.heap.push (seqObj "list" (L1.map fun (q : Addr × List Int) => Value.ref q.1).toArray 0)) s1.heap.objs.size (L1.map fun (q : Addr × List Int) => Value.ref q.1)) v d as) (fun (q : Addr × List Int) => tupD q.2) er) hal
      (.inl fun d hd => by obtain ⟨q, _, rfl⟩ := List.mem_map.mp hd; exact ⟨_, rfl⟩) (fun d hd => by
        obtain ⟨q, _, rfl⟩ := List.mem_map.mp hd
        rw [tupD_depth]
        show A.units + 1 + 1 + 1 < cLine
        omega)
  refine wpAny_bind (wpAny_holding (wpAny_call_entry slot_list_sort ⟨_, hoL, rfl⟩ entry_list_sort (PySem.W.list_sort_vals (s := { s1 with heap := s1.heap.push (seqObj "list" (L1.map fun q => Value.ref q.1).toArray 0) }) hoL S (by rw [sizeLine_eq]; omega) ⟨_, rfl, ?_⟩) (args_list_sort _)))
  refine wpAny_pure ⟨_, rfl, ?_⟩
  obtain ⟨c, hc⟩ := sortedHeap_at (vs := (L1.map fun q => Value.ref q.1)) (out := (PySem.W.sortVals (PySem.W.dataKind (PySem.W.sortingHeap (s1.heap.push (seqObj "list" (L1.map fun q => Value.ref q.1).toArray 0)) s1.heap.objs.size (L1.map fun q => Value.ref q.1)) (L1.map fun (q : Addr × List Int) => tupD q.2)) false (L1.map fun q => Value.ref q.1) (L1.map fun q => Value.ref q.1)).toArray) hoL
  refine hQ _ s1.heap.objs.size _ c _ L1 (fun b u e => ?_) g1 o1 hz hc (refs_each so) pL rfl
  have q := k1 b u e
  have hlt := Heap.lt_size q
  show (sortedHeap _ s1.heap.objs.size _ _).get? b = some u
  rw [sortedHeap_old (Nat.ne_of_lt hlt) (by rw [size_push']; exact Nat.lt_succ_of_lt hlt)]
  exact Heap.get?_push_of_some _ q
end
end L2

set_option maxHeartbeats 4000000
/-! sorted(set(xs)), len(set(xs)). -/
noncomputable section
namespace Cs
open PySem PySem.Spec PyProof.Rows L2 GxR Ce Gx

section
variable {α : Type} [DecidableEq α]
theorem mem_nub : ∀ {l : List α} {x : α}, x ∈ nub l ↔ x ∈ l
  | [], x => Iff.rfl
  | y :: l, x => by
    unfold nub
    split
    · rename_i h
      rw [mem_nub, List.mem_cons]
      exact ⟨.inr, fun z => z.elim (fun e => e ▸ h) id⟩
    · rw [List.mem_cons, List.mem_cons, mem_nub]
theorem nodup_nub : ∀ l : List α, (nub l).Nodup
  | [] => List.Pairwise.nil
  | y :: l => by
    unfold nub
    split
    · exact nodup_nub l
    · rename_i h
      exact List.nodup_cons.mpr ⟨fun z => h (mem_nub.mp z), nodup_nub l⟩
theorem nub_len : ∀ l : List α, (nub l).length ≤ l.length
  | [] => Nat.le_refl _
  | y :: l => by
    unfold nub
    have := nub_len l
    split
    · exact Nat.le_succ_of_le this
    · exact Nat.succ_le_succ this
theorem perm_of {a b : List α} (ha : a.Nodup) (hb : b.Nodup) (h : ∀ x, x ∈ a ↔ x ∈ b) : a.Perm b := (List.perm_ext_iff_of_nodup ha hb).mpr h
theorem sort_perm {le : α → α → Bool} (tr : ∀ a b c, le a b = true → le b c = true → le a c = true) (to : ∀ a b, (le a b || le b a) = true) (an : ∀ a b, le a b = true → le b a = true → a = b) {a b : List α} (p : a.Perm b) : a.mergeSort le = b.mergeSort le := by
  refine List.Perm.eq_of_pairwise (le := fun x y => le x y = true) (fun x y _ _ => an x y) ?_ ?_ (((List.mergeSort_perm a le).trans p).trans (List.mergeSort_perm b le).symm)
  · exact List.pairwise_mergeSort tr to a
  · exact List.pairwise_mergeSort tr to b
end
theorem setI_of {ns ns' : List Int} (h : ns'.Pairwise (· < ·)) (m : ∀ k, k ∈ ns' ↔ k ∈ ns) : setI ns = ns' := by
  unfold setI
  have nd : ns'.Nodup := h.imp fun h e => by omega
  rw [sort_perm (by simp; omega) (by simp; omega) (by simp; omega) (perm_of (nodup_nub ns) nd fun x => by rw [mem_nub, m])]
  exact List.mergeSort_of_pairwise (h.imp fun h => by simp; omega)
theorem rows_le_tr (a b c : List Int) : decide (a ≤ b) = true → decide (b ≤ c) = true → decide (a ≤ c) = true := by
  simp only [decide_eq_true_eq]
  exact List.le_trans
theorem rows_le_to (a b : List Int) : (decide (a ≤ b) || decide (b ≤ a)) = true := by
  rw [Bool.or_eq_true, decide_eq_true_eq, decide_eq_true_eq]
  exact List.le_total a b
theorem rows_le_an (a b : List Int) : decide (a ≤ b) = true → decide (b ≤ a) = true → a = b := by
  simp only [decide_eq_true_eq]
  exact List.le_antisymm
theorem setT_perm {nss : List (List Int)} {l : List (List Int)} (nd : l.Nodup) (m : ∀ k, k ∈ l ↔ k ∈ nss) : setT nss = l.mergeSort fun a b => decide (a ≤ b) :=
  sort_perm rows_le_tr rows_le_to rows_le_an (perm_of (nodup_nub nss) nd fun x => by rw [mem_nub, m])
theorem dataLe_tupD {β : Type} (f : β → List Int) : PySem.W.dataLe false (fun q => tupD (f q)) = fun p q => decide (f p ≤ f q) := by
  funext p q
  have h := PySem.W.dataLt_ints (f q) (f p)
  unfold PySem.W.rowLt at h
  show (!PySem.W.dataLt (.tuple ((f q).map .int)) (.tuple ((f p).map .int))) = _
  rw [PySem.W.dataLt_tuple, h, ← decide_not]
  simp [List.not_lt]
theorem intsAre_vals' : ∀ {ns : List Int} {us : List Value}, Vals (ns.map V.int) us → PyProof.Rows.IntsAre us ns
  | [], _, .nil => .nil
  | n :: ns, _, .cons r t => by
    obtain ⟨k, rfl⟩ := r
    exact .cons n k (intsAre_vals' t)
theorem ints_len : ∀ {ds : List PyData} {ns : List Int}, ints? ds = some ns → ns.length = ds.length := ints_length
theorem tupI_len : ∀ {ds : List PyData} {nss : List (List Int)}, tupI? ds = some nss → nss.length = ds.length
  | [], _, e => by cases e; rfl
  | d :: ds, _, e => by
    cases d <;> try (simp [tupI?] at e; done)
    simp only [tupI?, Option.bind_eq_some_iff, Option.map_eq_some_iff] at e
    obtain ⟨ns, e1, r, e2, rfl⟩ := e
    rw [List.length_cons, List.length_cons, tupI_len e2]
theorem DpAll.tups {K : PySem.W.Frag} {H : Hp} : ∀ {xs : List V} {ds : List PyData} {nss : List (List Int)}, DpAll K H xs ds → tupI? ds = some nss → ∃ ks : List (Addr × List Int), xs = ks.map (fun q => V.ref q.1) ∧ ks.map (·.2) = nss ∧ ∀ q ∈ ks, SqT K H q.1 (q.2.map V.int)
  | _, [], _, h, e => by
    cases e
    cases h
    exact ⟨[], rfl, rfl, fun q h => by cases h⟩
  | _, d :: ds, nss, h, e => by
    cases d <;> try (simp [tupI?] at e; done)
    simp only [tupI?, Option.bind_eq_some_iff, Option.map_eq_some_iff] at e
    obtain ⟨ns, e1, r, e2, rfl⟩ := e
    cases h with
    | cons h1 h2 =>
      obtain ⟨ks, rfl, rfl, hk⟩ := DpAll.tups h2 e2
      cases h1 with
      | @tup a ys _ hs ha =>
        rw [DpAll.ints ha e1] at hs
        refine ⟨(a, ns) :: ks, rfl, rfl, fun q hq => ?_⟩
        rcases List.mem_cons.mp hq with rfl | hq
        · exact hs
        · exact hk q hq
theorem dpAll_ints {K : PySem.W.Frag} {H : Hp} : ∀ ns : List Int, DpAll K H (ns.map V.int) (ns.map PyData.int)
  | [] => .nil
  | n :: ns => .cons (.int n) (dpAll_ints ns)
theorem dpAll_tups {K : PySem.W.Frag} {H : Hp} : ∀ L : List (Addr × List Int), (∀ q ∈ L, SqT K H q.1 (q.2.map V.int)) → DpAll K H (L.map fun q => V.ref q.1) (L.map fun q => tupD q.2)
  | [], _ => .nil
  | q :: L, h => .cons (.tup (h q List.mem_cons_self) (dpAll_ints _)) (dpAll_tups L fun r hr => h r (List.mem_cons_of_mem _ hr))

def SetHO (P : Program) (w : World) (K : PySem.W.Frag) (F : Hp) (p : Addr) (o : HO) (es : List PyData) : Prop :=
  (∃ ns n, o = SetO w p (fun k => decide (k ∈ ns)) n ∧ n < 64 ∧ es = (setI ns).map .int) ∨
  ∃ L nss, o = SetTO P w p L ∧ es = (setT nss).map tupD ∧ (∀ q ∈ L, SqT K F q.1 (q.2.map V.int) ∧ q.2 ∈ nss) ∧ ∀ ns ∈ nss, ns ∈ L.map (·.2)
def rSet (c : Cfg) (P : Program) (w : World) : List V → Hp → VK → Prop := fun xs H Q => ∃ F x d1 ds es, xs = [x] ∧ Ok c F H ∧ Rq c.K F H x d1 ∧ seq? d1 = some ds ∧ setd? ds = some es ∧ ∀ p o, H p = none → (∀ ps, o ≠ .tbl ps) → SetHO P w c.K F p o es → Q (.ref p) (upd H p o)
section
variable {X : Cx} {c : Cfg}
theorem cr_setD (hK : c.K = X.K) (hc : X.calm = true) (hu : X.A.units + 200 < cLine) : CallR X (.type "set") (rSet c X.prog X.w) := by
  intro pins s σ H xs us Q I r ⟨F, x, d1, ds, es, e, o, h1, hs, hd, k⟩
  subst e
  have hn : H s.heap.objs.size = none := I.hok.fresh (Nat.le_refl _)
  unfold setd? at hd
  rw [gd_some] at hd
  obtain ⟨hlen, hd⟩ := hd
  have ntI : ∀ n S ps, SetO X.w s.heap.objs.size S n ≠ .tbl ps := fun n S ps z => by cases z
  have ntT : ∀ L ps, SetTO X.prog X.w s.heap.objs.size L ≠ .tbl ps := fun L ps z => by cases z
  cases hi : ints? ds with
  | some ns =>
    rw [hi] at hd
    cases hd
    have hl := ints_length hi
    have fin : ∀ (h' : Heap) (tk cc : Nat), SetR X.w h' s.heap.objs.size (fun j => decide (j ∈ ns)) cc → cc ≤ ns.length → (∀ b o, s.heap.get? b = some o → h'.get? b = some o) →
        ∃ x' H', Inv X pins σ H' { s with heap := h', toks := tk } ∧ RelV x' (.ref s.heap.objs.size) ∧ Q x' H' := fun h' tk cc R hcc kk =>
      ⟨.ref _, upd H s.heap.objs.size (SetO X.w s.heap.objs.size (fun j => decide (j ∈ ns)) cc), I.laid (t' := tk) kk (Nat.le_refl _) (setO_new R), rfl, k _ _ hn (ntI _ _) (.inl ⟨ns, cc, rfl, by omega, rfl⟩)⟩
    cases d1 <;> try (simp [seq?] at hs; done)
    · cases hs
      obtain ⟨a, ys, rfl, s1, a1⟩ := h1.lst o
      rw [DpAll.ints a1 hi] at s1
      rw [Vals.ref1 r]
      obtain ⟨its, rv, pl, hz⟩ := I.list (hK ▸ s1)
      exact call_set_listI ns (I.ok.hd hc) pl.isList (by simpa using intsAre_vals' rv) (by unfold scanBound; omega) fin
    · cases hs
      obtain ⟨a, ys, rfl, s1, a1, D1⟩ := h1.tup o
      rw [DpAll.ints a1 hi] at s1
      rw [Vals.ref1 r]
      obtain ⟨its, rv, pl, hz⟩ := I.tuple (hK ▸ s1)
      exact call_set_tupI ns (I.ok.hd hc) pl (by simpa using intsAre_vals' rv) (by unfold scanBound; omega) fin
  | none =>
    rw [hi] at hd
    rw [Option.map_eq_some_iff] at hd
    obtain ⟨nss, hi, rfl⟩ := hd
    have hl := tupI_len hi
    have fin : ∀ ks : List (Addr × List Int), ks.map (·.2) = nss → (∀ q ∈ ks, SqT c.K F q.1 (q.2.map V.int)) → ∀ (h' : Heap) (tk : Nat) L es ep t, SetTR X.prog X.w h' s.heap.objs.size L es ep t → Got ks ks.length L → (∀ b o, s.heap.get? b = some o → h'.get? b = some o) →
        ∃ x' H', Inv X pins σ H' { s with heap := h', toks := tk } ∧ RelV x' (.ref s.heap.objs.size) ∧ Q x' H' := fun ks e1 hk h' tk L es ep t R g kk => by
      refine ⟨.ref _, upd H s.heap.objs.size (SetTO X.prog X.w s.heap.objs.size L), I.laid (t' := tk) kk (Nat.le_refl _) (setTO_new R.t0), rfl, k _ _ hn (ntT _) (.inr ⟨L, nss, rfl, rfl, fun q hq => ?_, fun ns hns => ?_⟩)⟩
      · have hq : q ∈ ks := List.mem_of_mem_take (g.sub q hq)
        exact ⟨hk q hq, e1 ▸ List.mem_map.mpr ⟨q, hq, rfl⟩⟩
      · rw [← e1] at hns
        obtain ⟨q, hq, rfl⟩ := List.mem_map.mp hns
        exact g.all q (by rw [List.take_length]; exact hq)
    cases d1 <;> try (simp [seq?] at hs; done)
    · cases hs
      obtain ⟨a, ys, rfl, s1, a1⟩ := h1.lst o
      obtain ⟨ks, rfl, e1, hk⟩ := DpAll.tups a1 hi
      have hkl : ks.length = nss.length := by rw [← e1, List.length_map]
      rw [Vals.ref1 r]
      obtain ⟨its, rv, pl, hz⟩ := I.list (hK ▸ s1)
      exact call_set_tups ks (I.ok.hd hc) pl.isList (by simpa using refs_of_vals rv) (fun p hp => I.isT (hK ▸ sqt_mono o.fhT (hk p hp))) (by omega) (by omega) (fin ks e1 hk)
    · cases hs
      obtain ⟨a, ys, rfl, s1, a1, D1⟩ := h1.tup o
      obtain ⟨ks, rfl, e1, hk⟩ := DpAll.tups a1 hi
      have hkl : ks.length = nss.length := by rw [← e1, List.length_map]
      rw [Vals.ref1 r]
      obtain ⟨its, rv, pl, hz⟩ := I.tuple (hK ▸ s1)
      exact call_set_tupsT ks (I.ok.hd hc) pl (by simpa using refs_of_vals rv) (fun p hp => I.isT (hK ▸ sqt_mono o.fhT (hk p hp))) (by omega) (by omega) (fin ks e1 hk)
def rSetQ (c : Cfg) (P : Program) (w : World) (l : Bool) (Q : VK) (H : Hp) (xs : List V) : Prop := ∃ F p o es, xs = [.ref p] ∧ H p = some o ∧ Ok c F H ∧ SetHO P w c.K F p o es ∧
  if l = true then Q (.int es.length) H else ∀ q ys, H q = none → DpAll c.K F ys es → Q (.ref q) (upd H q (.lst ys))
theorem setHO_len {P : Program} {w : World} {L : List (Addr × List Int)} {nss : List (List Int)} (nd : (L.map (·.2)).Nodup) (h1 : ∀ q ∈ L, q.2 ∈ nss) (h2 : ∀ ns ∈ nss, ns ∈ L.map (·.2)) : (setT nss).length = L.length := by
  rw [setT_perm nd fun k => ⟨fun h => ?_, h2 k⟩, List.length_mergeSort, List.length_map]
  obtain ⟨q, hq, rfl⟩ := List.mem_map.mp h
  exact h1 q hq
theorem cr_setL (hK : c.K = X.K) (hc : X.calm = true) (hu : X.A.units + 200 < cLine) : CallR X (.builtin "len") (fun xs H Q => rSetQ c X.prog X.w true Q H xs) := by
  intro pins s σ H xs us Q I r ⟨F, p, o, es, e, hp, ok, so, k⟩
  subst e
  rw [Vals.ref1 r]
  rw [if_pos rfl] at k
  rcases so with ⟨ns, n, rfl, hn, rfl⟩ | ⟨L, nss, rfl, rfl, hL, hN⟩
  · obtain ⟨o, es, ep, t, ho, hx, hd, g, nd, hm, hb, hf, hz, hr⟩ := setO_get I hp
    have e : ((setI ns).map PyData.int).length = es.size := by
      unfold setI
      rw [List.length_map, List.length_mergeSort, (perm_of (nodup_nub ns) nd fun x => by rw [mem_nub, ← hm x, decide_eq_true_eq]).length_eq, List.length_map, Array.length_toList]
    refine call_len_set ho hx hd hf (by omega) ⟨.int es.size, H, (I.tok _), ⟨_, rfl⟩, e ▸ k⟩
  · have R0 : SetT0 X.prog X.w s.heap p L := (I.hok p _ hp).1
    obtain ⟨es, ep, t, R⟩ := R0.full fun q hq => I.isT (hK ▸ sqt_mono ok.fhT (hL q hq).1)
    obtain ⟨o, ho, hex, hd⟩ := R.ob
    have e : ((setT nss).map tupD).length = es.size := by
      rw [List.length_map, setHO_len (P := X.prog) (w := X.w) R.nd (fun q hq => (hL q hq).2) hN, R.size]
    have hfew := R.few
    have hsz := R.size
    refine call_len_set ho hex hd R.fits (by omega) ⟨.int es.size, H, (I.tok _), ⟨_, rfl⟩, e ▸ k⟩
theorem cr_setS (hK : c.K = X.K) (hc : X.calm = true) (hu : X.A.units + 200 < cLine) : CallR X (.builtin "sorted") (fun xs H Q => rSetQ c X.prog X.w false Q H xs) := by
  intro pins s σ H xs us Q I r ⟨F, p, o, es, e, hp, ok, so, k⟩
  subst e
  rw [if_neg (by decide)] at k
  rcases so with ⟨ns, n, rfl, hn, rfl⟩ | ⟨L, nss, rfl, rfl, hL, hN⟩
  · refine cr_sortedSet hc pins s σ H _ us Q I r ⟨p, _, n, rfl, hp, hn, fun ns' q h1 h2 h3 h4 => ?_⟩
    refine k q _ h4 ?_
    rw [setI_of h1 fun z => by rw [h2, decide_eq_true_eq]]
    exact dpAll_ints ns'
  · rw [Vals.ref1 r]
    have R0 : SetT0 X.prog X.w s.heap p L := (I.hok p _ hp).1
    obtain ⟨es, ep, t, R⟩ := R0.full fun q hq => I.isT (hK ▸ sqt_mono ok.fhT (hL q hq).1)
    refine sorted_setTD R (I.ok.hd hc) (by omega) fun s' p2 out cc L' L1 kk g1 o1 hz hg hout pm e1 => ?_
    have hfew := R.few
    have hL' : L'.length = L.length := by rw [e1, List.length_mergeSort, pm.length_eq]
    have hlen : (L'.map fun q => V.ref q.1).length ≤ sizeLine := by rw [List.length_map, sizeLine_eq]; omega
    have hn : H p2 = none := I.hok.fresh hz
    have hv : Vals (L'.map fun q => V.ref q.1) out.toList := by rw [hout]; exact vals_of_refs L'
    have J : Inv X pins σ (upd H p2 (.lst (L'.map fun q => V.ref q.1))) { s with heap := s'.heap, gens := s'.gens, drawn := s'.drawn, toks := s'.toks } :=
      I.call (ch := []) (Un.laid kk hz hn) (I.hok.laid kk hz ⟨hlen, out.toList, cc, hv, hg⟩) (by rw [g1]; exact I.bare) (fun _ z => nomatch z)
    have e : s' = { s with heap := s'.heap, gens := s'.gens, drawn := s'.drawn, toks := s'.toks } := by
      cases s'
      cases s
      cases o1
      rfl
    rw [e]
    refine ⟨.ref p2, _, J, rfl, k p2 _ hn ?_⟩
    have mem : ∀ q ∈ L', q ∈ L := fun q hq => by
      rw [e1, List.mem_mergeSort] at hq
      exact pm.mem_iff.mp hq
    have key : (setT nss).map tupD = L'.map fun q => tupD q.2 := by
      have nd1 : (L1.map (·.2)).Nodup := (pm.map (·.2)).nodup_iff.mpr R.nd
      have e2 : setT nss = L'.map (·.2) := by
        rw [setT_perm nd1 fun z => ⟨fun h => ?_, fun h => (pm.map (·.2)).mem_iff.mpr (hN z h)⟩, e1, dataLe_tupD]
        · exact (List.map_mergeSort (f := fun (x : Addr × List Int) => x.2) (r := fun p q => decide (p.2 ≤ q.2)) (s := fun a b => decide (a ≤ b)) fun _ _ _ _ => rfl).symm
        · obtain ⟨q, hq, rfl⟩ := List.mem_map.mp h
          exact (hL q (pm.mem_iff.mp hq)).2
      rw [e2, List.map_map]
      rfl
    rw [key]
    exact dpAll_tups L' fun q hq => (hL q (mem q hq)).1
end
end Cs

set_option maxHeartbeats 4000000
/-! The text against the core language: helpers. -/
noncomputable section
namespace Cs
open PySem PySem.Spec PyProof.Rows L2 GxR Ce Gx

/-! ### taking expressions of the text apart -/
def xName : Expr → Option Str
  | .Name x _ => some x
  | _ => none
def dConst : Expr → Option Const
  | .Constant c _ _ => some c
  | _ => none
def dTup : Expr → Option (List Expr)
  | .Tuple es _ _ => some es
  | _ => none
def dLst : Expr → Option (List Expr)
  | .List es _ => some es
  | _ => none
def dBin : Expr → Option (Expr × Operator × Expr)
  | .BinOp a o b _ => some (a, o, b)
  | _ => none
def dUn : Expr → Option (UnaryOp × Expr)
  | .UnaryOp o a _ => some (o, a)
  | _ => none
def dBool : Expr → Option (BoolOp × Expr × Expr)
  | .BoolOp o [a, b] _ => some (o, a, b)
  | .BoolOp o (a :: b :: c :: r) pos => some (o, a, .BoolOp o (b :: c :: r) pos)
  | _ => none
def dCmp : Expr → Option (Expr × CmpOp × Expr)
  | .Compare a [o] [b] _ => some (a, o, b)
  | _ => none
def dCmp2 : Expr → Option (Expr × CmpOp × Expr × CmpOp × Expr)
  | .Compare a [o, o'] [b, c] _ => some (a, o, b, o', c)
  | _ => none
def dIf : Expr → Option (Expr × Expr × Expr)
  | .IfExp c a b _ => some (c, a, b)
  | _ => none
def notSl : Expr → Bool
  | .Slice .. => false
  | _ => true
def dSub : Expr → Option (Expr × Expr)
  | .Subscript a i _ => if notSl i = true then some (a, i) else none
  | _ => none
def dSl : Expr → Option (Expr × Option Expr × Option Expr)
  | .Subscript a (.Slice lo hi none _) _ => some (a, lo, hi)
  | _ => none
def dRev : Expr → Option Expr
  | .Subscript a (.Slice none none (some (.UnaryOp .USub (.Constant (.int 1) _ _) _)) _) _ => some a
  | _ => none
def dCall : Expr → Option (Str × List Expr)
  | .Call (.Name x _) es [] _ => some (x, es)
  | _ => none
def dOne : Option (Str × List Expr) → Option (Str × Expr)
  | some (x, [a]) => some (x, a)
  | _ => none
def dTwo : Option (Str × List Expr) → Option (Str × Expr × Expr)
  | some (x, [a, b]) => some (x, a, b)
  | _ => none
structure Cmp1 where
  elt : Expr
  tg : Expr
  iter : Expr
  ifs : List Expr
  scope : Scope
def dLc : Expr → Option Cmp1
  | .ListComp e [⟨tg, it, ifs, 0⟩] sc _ => some ⟨e, tg, it, ifs, sc⟩
  | _ => none
def dGen : Expr → Option Cmp1
  | .GeneratorExp e [⟨tg, it, ifs, 0⟩] sc _ => some ⟨e, tg, it, ifs, sc⟩
  | _ => none
theorem xName_ok {e : Expr} {x : Str} (h : xName e = some x) : ∃ p, e = .Name x p := by
  cases e <;> simp [xName] at h
  exact ⟨_, by rw [h]⟩
theorem dConst_ok {e : Expr} {x : Const} (h : dConst e = some x) : ∃ k p, e = .Constant x k p := by
  cases e <;> simp [dConst] at h
  exact ⟨_, _, by rw [h]⟩
theorem dTup_ok {e : Expr} {x : List Expr} (h : dTup e = some x) : ∃ k p, e = .Tuple x k p := by
  cases e <;> simp [dTup] at h
  exact ⟨_, _, by rw [h]⟩
theorem dLst_ok {e : Expr} {x : List Expr} (h : dLst e = some x) : ∃ p, e = .List x p := by
  cases e <;> simp [dLst] at h
  exact ⟨_, by rw [h]⟩
theorem dBin_ok {e a b : Expr} {o : Operator} (h : dBin e = some (a, o, b)) : ∃ p, e = .BinOp a o b p := by
  cases e <;> simp [dBin] at h
  obtain ⟨rfl, rfl, rfl⟩ := h
  exact ⟨_, rfl⟩
theorem dUn_ok {e a : Expr} {o : UnaryOp} (h : dUn e = some (o, a)) : ∃ p, e = .UnaryOp o a p := by
  cases e <;> simp [dUn] at h
  obtain ⟨rfl, rfl⟩ := h
  exact ⟨_, rfl⟩
theorem dBool_ok {e a b : Expr} {o : BoolOp} (h : dBool e = some (o, a, b)) : (∃ p, e = .BoolOp o [a, b] p) ∨ ∃ p b' c r, e = .BoolOp o (a :: b' :: c :: r) p ∧ b = .BoolOp o (b' :: c :: r) p := by
  unfold dBool at h
  split at h
  · cases h; exact .inl ⟨_, rfl⟩
  · cases h; exact .inr ⟨_, _, _, _, rfl, rfl⟩
  · cases h
theorem dCmp_ok {e a b : Expr} {o : CmpOp} (h : dCmp e = some (a, o, b)) : ∃ p, e = .Compare a [o] [b] p := by
  unfold dCmp at h
  split at h
  · cases h; exact ⟨_, rfl⟩
  · cases h
theorem dCmp2_ok {e a b c : Expr} {o o' : CmpOp} (h : dCmp2 e = some (a, o, b, o', c)) : ∃ p, e = .Compare a [o, o'] [b, c] p := by
  unfold dCmp2 at h
  split at h
  · cases h; exact ⟨_, rfl⟩
  · cases h
theorem dIf_ok {e a b c : Expr} (h : dIf e = some (c, a, b)) : ∃ p, e = .IfExp c a b p := by
  cases e <;> simp [dIf] at h
  obtain ⟨rfl, rfl, rfl⟩ := h
  exact ⟨_, rfl⟩
theorem dSub_ok {e a b : Expr} (h : dSub e = some (a, b)) : (∃ p, e = .Subscript a b p) ∧ PlainIx b := by
  unfold dSub at h
  split at h
  · split at h
    · rename_i h1
      cases h
      refine ⟨⟨_, rfl⟩, ?_⟩
      intro o x
      cases b <;> first | rfl | cases h1
    · cases h
  · cases h
theorem dSl_ok {e a : Expr} {lo hi : Option Expr} (h : dSl e = some (a, lo, hi)) : ∃ p q, e = .Subscript a (.Slice lo hi none q) p := by
  unfold dSl at h
  split at h
  · cases h; exact ⟨_, _, rfl⟩
  · cases h
theorem dRev_ok {e a : Expr} (h : dRev e = some a) : ∃ k p1 p2 p3 p, e = .Subscript a (.Slice none none (some (.UnaryOp .USub (.Constant (.int 1) k p1) p2)) p3) p := by
  unfold dRev at h
  split at h
  · cases h; exact ⟨_, _, _, _, _, rfl⟩
  · cases h
theorem dCall_ok {e : Expr} {x : Str} {es : List Expr} (h : dCall e = some (x, es)) : ∃ p q, e = .Call (.Name x p) es [] q := by
  unfold dCall at h
  split at h
  · cases h; exact ⟨_, _, rfl⟩
  · cases h
theorem dOne_ok {e : Expr} {x : Str} {a : Expr} (h : dOne (dCall e) = some (x, a)) : ∃ p q, e = .Call (.Name x p) [a] [] q := by
  unfold dOne at h
  split at h
  · rename_i h1; cases h; exact dCall_ok h1
  · cases h
theorem dTwo_ok {e : Expr} {x : Str} {a b : Expr} (h : dTwo (dCall e) = some (x, a, b)) : ∃ p q, e = .Call (.Name x p) [a, b] [] q := by
  unfold dTwo at h
  split at h
  · rename_i h1; cases h; exact dCall_ok h1
  · cases h
theorem dLc_ok {e : Expr} {m : Cmp1} (h : dLc e = some m) : ∃ p, e = .ListComp m.elt [⟨m.tg, m.iter, m.ifs, 0⟩] m.scope p := by
  unfold dLc at h
  split at h
  · cases h; exact ⟨_, rfl⟩
  · cases h
theorem dGen_ok {e : Expr} {m : Cmp1} (h : dGen e = some m) : ∃ p, e = .GeneratorExp m.elt [⟨m.tg, m.iter, m.ifs, 0⟩] m.scope p := by
  unfold dGen at h
  split at h
  · cases h; exact ⟨_, rfl⟩
  · cases h
def noStar : Expr → Bool
  | .Starred .. => false
  | _ => true
theorem star_cons {e : Expr} {es : List Expr} {env : Env} (h : noStar e = true) : starEach (e :: es) env = (false, eval e env) :: starEach es env := by
  cases e <;> first | rfl | cases h
theorem assign_cons {e : Expr} {es : List Expr} {env : Env} (h : noStar e = true) : assignEach (e :: es) env = (false, assign e env) :: assignEach es env := by
  cases e <;> first | rfl | cases h
theorem star_any {env : Env} {pos : Pos} : ∀ {es : List Expr}, es.all noStar = true → (backTo pos (starEach es env)).any (·.1) = false
  | [], _ => rfl
  | e :: es, h => by
    rw [List.all_cons, Bool.and_eq_true] at h
    rw [star_cons h.1]
    have ih := star_any (env := env) (pos := pos) h.2
    simp only [backTo, List.map_cons, List.any_cons, Bool.false_or] at ih ⊢
    exact ih
theorem assign_len {env : Env} : ∀ {es : List Expr}, es.all noStar = true → (assignEach es env).length = es.length ∧ (assignEach es env).findIdx? (·.1) = none
  | [], _ => ⟨rfl, rfl⟩
  | e :: es, h => by
    rw [List.all_cons, Bool.and_eq_true] at h
    obtain ⟨h1, h2⟩ := assign_len (env := env) h.2
    rw [assign_cons h.1]
    refine ⟨by rw [List.length_cons, List.length_cons, h1], ?_⟩
    rw [List.findIdx?_cons, h2]
    rfl
def plainIter : Expr → Bool
  | .Set .. => false
  | .List .. => false
  | _ => true
theorem plain_fold {iter : Expr} {env : Env} (h : plainIter iter = true) : (∀ x, foldedSetIterable iter env x = pure x) ∧ ∀ x, genFold iter env x = pure x := by
  cases iter <;> first | exact ⟨fun _ => rfl, fun _ => rfl⟩ | (simp [plainIter] at h; done)
def plainT : Expr → Bool
  | .UnaryOp .Not _ _ => false
  | .BoolOp .. => false
  | .IfExp .. => false
  | .Compare .. => false
  | _ => true
theorem plainT_ok {e : Expr} {env : Env} (h : plainT e = true) : ∀ whole, isTrue e env whole = (do let v ← whole; standAt e.pos; holding [v] (truthy v)) := by
  intro whole
  cases e
  case UnaryOp op _ _ => cases op <;> first | rfl | (simp [plainT] at h; done)
  all_goals first | rfl | (simp [plainT] at h; done)
def isBoolOp : Expr → Bool
  | .BoolOp .. => true
  | _ => false

/-! ### a chain of tests -/
section
variable {X : Cx} {a b c : Expr} {pos : Pos}
def tIfT (t ta tb : TT) : TT := fun σ H Q => t σ H fun c H1 => if c = true then ta σ H1 Q else tb σ H1 Q
theorem pt_ife {tc ta tb : TT} (hc : PT X c tc) (ha : PT X a ta) (hb : PT X b tb) : PT X (.IfExp c a b pos) (tIfT tc ta tb) := by
  refine ⟨fun pins s σ H Q I h => ?_⟩
  show wpAny _ _ (do if ← isTrue c X.env (eval c X.env) then isTrue a X.env (eval a X.env) else isTrue b X.env (eval b X.env)) _ _ s
  refine wpAny_bind (thn (hc.run pins s σ H _ I h) fun d s1 ⟨H1, I1, q1⟩ => ?_)
  cases d with
  | true => exact ha.run pins s1 σ H1 Q I1 q1
  | false => exact hb.run pins s1 σ H1 Q I1 q1
theorem pi_seq {l tg : Expr} {tl : TE} (hl : PE X l tl) : PI X tg l (fun σ H R => tl σ H fun x H1 => (∃ a, x = .ref a ∧ (∃ xs, SqL X.K H1 a xs) ∧ R (Itl X.K a) H1) ∨ ∃ a, x = .ref a ∧ (∃ xs, SqT X.K H1 a xs) ∧ R (Itt X.K a) H1) := by
  refine ⟨fun pins s σ H R I h => ?_⟩
  refine thn (hl.run pins s σ H _ I h) fun v s1 ⟨x, H1, I1, r1, q1⟩ => ?_
  rcases q1 with ⟨a, e, ⟨xs, hq⟩, q⟩ | ⟨a, e, ⟨xs, hq⟩, q⟩
  · subst e
    cases r1
    obtain ⟨its, rv, p, hz⟩ := I1.list hq
    refine wpAny_pyIter_list p.isList ?_
    refine ⟨s1.heap.objs.size, [s1.heap.objs.size], _, _, H1, rfl, I1.kept (t' := s1.toks) fun b o e => Heap.get?_push_of_some _ e, turn_list a _, ⟨_, Heap.get?_push_size _ rfl, rfl, rfl⟩, fun b hb => ?_, q⟩
    have e : b = s1.heap.objs.size := by simpa using hb
    subst e
    exact I1.fpOk (Nat.le_refl _) (I1.hok.fresh (Nat.le_refl _))
  · subst e
    cases r1
    obtain ⟨its, rv, p, hz⟩ := I1.tuple hq
    refine wpAny_pyIter_tuple (show s1.heap.IsTuple a its.toArray from p) ?_
    refine ⟨s1.heap.objs.size, [s1.heap.objs.size], _, _, H1, rfl, I1.kept (t' := s1.toks) fun b o e => Heap.get?_push_of_some _ e, turn_tuple a _, ⟨_, Heap.get?_push_size _ rfl, rfl, rfl⟩, fun b hb => ?_, q⟩
    have e : b = s1.heap.objs.size := by simpa using hb
    subst e
    exact I1.fpOk (Nat.le_refl _) (I1.hok.fresh (Nat.le_refl _))
/-- a builtin's call -/
theorem pe_callF {f : Value} {x : Str} {e : Expr} {es : List Expr} {t : TA} {p : Pos} {r : List V → Hp → VK → Prop} (hf : (∃ id, f = .builtin id) ∨ ∃ T, f = .type T) (hc : CallR X f r) (hg : Gl X x) (hm : X.mg x = none) (hv : bootBuiltins x = some f)
    (hn : x ≠ "__name__") (hdb : (x == ("__debug__" : Str)) = false) (ha : PA X (e :: es) t) (hs : (e :: es).all noStar = true) : PE X (.Call (.Name x p) (e :: es) [] pos) (tCB r t) := by
  rw [List.all_cons, Bool.and_eq_true] at hs
  rcases hf with ⟨id, rfl⟩ | ⟨T, rfl⟩
  · exact pe_callB hc hg hm hv ha hn hdb (star_cons hs.1) (star_any hs.2)
  · exact pe_callTy hc hg hm hv ha hn hdb (star_cons hs.1) (star_any hs.2)
end

/-! ### the static side -/
structure Ctl where
  N : List Str
  fn : List (Str × Nat)
def visB (sc : Scope) (x : Str) : Bool := match sc.names.lookup x with
  | some .local => true
  | some .cell => true
  | some .free => true
  | _ => false
def stoB (sc : Scope) (fnb : Str → Bool) (x : Str) : Bool := match sc.names.lookup x with
  | some .local => true
  | some .cell => fnb x
  | _ => false
def glB (sc : Scope) (x : Str) : Bool := decide (sc.names.lookup x = some .globalImplicit)
def okN (x : Str) : Bool := !(x == ("__debug__" : Str)) && !(x == ("__classdict__" : Str)) && !(x == ("__name__" : Str))
theorem visB_ok {sc : Scope} {x : Str} (h : visB sc x = true) : Vis sc x := by
  unfold visB at h
  split at h <;> first | exact .inl ‹_› | exact .inr (.inl ‹_›) | exact .inr (.inr ‹_›) | cases h
theorem stoB_ok {sc : Scope} {fnb : Str → Bool} {x : Str} (h : stoB sc fnb x = true) : Loc sc x ∧ (fnb x = true ∨ sc.names.lookup x = some .local) := by
  unfold stoB at h
  split at h
  · exact ⟨.inl ‹_›, .inr ‹_›⟩
  · exact ⟨.inr ‹_›, .inl h⟩
  · cases h
theorem okN_ok {x : Str} (h : okN x = true) : (x == ("__debug__" : Str)) = false ∧ (x == ("__classdict__" : Str)) = false ∧ x ≠ ("__name__" : Str) := by
  simp only [okN, Bool.and_eq_true, Bool.not_eq_true'] at h
  refine ⟨h.1.1, h.1.2, fun e => ?_⟩
  rw [e] at h
  simp at h
def biNames : List Str := ["len", "abs", "int", "str", "tuple", "list", "sorted", "sum", "max", "min", "all", "any", "isinstance", "bool", "range", "enumerate", "zip", "reversed", "set", "dict"]
/-- what a def of the text promises -/
def spD (c : Cfg) (Φ : Fns) (f n : Nat) : Sp := fun vs H Q _ => vs.length = n ∧ ∃ F ds d, Ok c F H ∧ DpAll c.K F vs ds ∧ Φ f ds = some d ∧ ∀ v H' F', Ext c F H F' H' → Dp c.K F' v d → Q v H'
structure FnAt (c : Cfg) (Φ : Fns) (X : Cx) (lf : Nat) (x : Str) (f : Nat) : Prop where
  ex : ∃ (fd : FuncData) (a : Addr) (ps : List Str), X.mg x = some (.ref a) ∧ PySem.W.keepIn X.K (.ref a) = true ∧ Binds X.K fd ps [] ∧ FnOk X.prog X.w X.K X.mg X.base CX0 lf a fd ps (spD c Φ f ps.length) ∧ ∀ ds d, Φ f ds = some d → ds.length = ps.length
structure CtxOk (c : Cfg) (ct : Ctl) (Φ : Fns) (lf : Nat) (X : Cx) (sc : Scope) (fnb : Str → Bool) (g : Bool) : Prop where
  K : c.K = X.K
  calm : X.calm = true
  N : X.N = ct.N
  nd : ct.N.Nodup
  sc : X.env.scope = sc
  fn : ∀ x, X.fn x = fnb x
  room : Room (if g = true then lf + 1 else lf) X.A
  bi : ∀ x ∈ biNames, X.mg x = none
  fns : ∀ x f, ct.fn.lookup x = some f → FnAt c Φ X lf x f
  tb : g = true → ∃ P C, P ∈ c.T ∧ TabB X.base X.mg C P ∧ X.env.code = .ref C
section
variable {c : Cfg} {ct : Ctl} {Φ : Fns} {lf : Nat} {X : Cx} {sc : Scope} {fnb : Str → Bool} {g : Bool}
theorem CtxOk.room0 (h : CtxOk c ct Φ lf X sc fnb g) : Room lf X.A := h.room.mono (by split <;> omega)
theorem CtxOk.hu (h : CtxOk c ct Φ lf X sc fnb g) : X.A.units + 200 < cLine := by have := h.room0.un; omega
theorem CtxOk.blk (h : CtxOk c ct Φ lf X sc fnb g) (scope : Scope) (s : Shared) (H : Hp) (C : Addr) (cl : List (Str × Addr)) (fp : List Addr) :
    CtxOk c ct Φ lf (X.blk s H scope (compEnvC scope cl C X.env) fp) (relS scope sc) (fun x => scope.names.lookup x == some .cell) g where
  K := h.K
  calm := h.calm
  N := h.N
  nd := h.nd
  sc := by rw [← h.sc]; rfl
  fn := fun _ => rfl
  room := h.room
  bi := h.bi
  fns := fun x f e => ⟨(h.fns x f e).ex⟩
  tb := h.tb
theorem CtxOk.gen (h : CtxOk c ct Φ lf X sc fnb true) (scope : Scope) (s : Shared) (H : Hp) (C : Addr) (cl : List (Str × Addr)) (code : Value) (fp : List Addr) (go : Addr × Obj) :
    CtxOk c ct Φ lf (CxGen X s H (genEnv scope cl C code builtinsNs X.env) fp go) scope (fun _ => false) false where
  K := h.K
  calm := h.calm
  N := h.N
  nd := h.nd
  sc := rfl
  fn := fun _ => rfl
  room := by
    have q : Room (lf + 1) X.A := h.room
    exact ⟨q.hd, by have := q.dp; show X.A.depth + 1 + 3 * lf + 5 < _; omega, by have := q.un; show X.A.units + 1 + 1 + 3 + 16 * lf + 200 < _; omega⟩
  bi := h.bi
  fns := fun x f e => ⟨(h.fns x f e).ex⟩
  tb := fun z => by cases z
end
end Cs

set_option maxHeartbeats 4000000
/-! The text against the core language: the check. -/
noncomputable section
namespace Cs
open PySem PySem.Spec PyProof.Rows L2 GxR Ce Gx

def tyN : Tyn → Str
  | .int => "int" | .bool => "bool" | .str => "str" | .tuple => "tuple"
def b1N : B1 → Str
  | .len => "len" | .abs => "abs" | .int => "int" | .str => "str"
def biN : Bi → Str
  | .tuple => "tuple" | .list => "list" | .sorted => "sorted" | .sum => "sum" | .max => "max" | .min => "min" | .all => "all" | .any => "any"
def stN : Bool → Str
  | true => "len" | false => "sorted"
def b2N : B2 → Str
  | .max => "max" | .min => "min"
def gnN (b0 : Bool) : Str := if b0 = true then "all" else "any"
def cvN (l : Bool) : Str := if l = true then "list" else "tuple"
def ownOf (N : List Str) (is : List Nat) : List (Str × Nat) := is.map fun i => ((N[i]?).getD "", i)
theorem own_map (N : List Str) : ∀ is : List Nat, (ownOf N is).map (·.2) = is
  | [] => rfl
  | i :: is => by
    show i :: (ownOf N is).map (·.2) = i :: is
    rw [own_map N is]
def genC (N : List Str) (sc scope : Scope) (own : List (Str × Nat)) : Bool :=
  blkC N sc scope own && (!scope.isCoroutine && ((scope.names.all fun y => !decide (y.2 = .cell)) && decide (scope.names.lookup (".0" : Str) = some NameKind.local)))
theorem genC_ok {N : List Str} {sc scope : Scope} {own : List (Str × Nat)} (h : genC N sc scope own = true) : GenOk N sc scope own := by
  unfold genC at h
  rw [Bool.and_eq_true, Bool.and_eq_true, Bool.and_eq_true, decide_eq_true_eq, Bool.not_eq_true', List.all_eq_true] at h
  refine ⟨blkOk_by h.1, h.2.1, fun y hy e => ?_, h.2.2.2⟩
  have := h.2.2.1 y hy
  rw [e] at this
  simp at this
def fnB (scope : Scope) : Str → Bool := fun x => scope.names.lookup x == some .cell

mutual
def chkT (ct : Ctl) : Tg → Scope → (Str → Bool) → Expr → Bool
  | .nm i, sc, fnb, e => match xName e with
    | some x => decide (ct.N[i]? = some x) && stoB sc fnb x
    | none => false
  | .tp ts, sc, fnb, e => match dTup e with
    | some xs => xs.all noStar && chkTs ct ts sc fnb xs
    | none => false
def chkTs (ct : Ctl) : Tgs → Scope → (Str → Bool) → List Expr → Bool
  | .nil, _, _, [] => true
  | .cons t ts, sc, fnb, e :: es => chkT ct t sc fnb e && chkTs ct ts sc fnb es
  | _, _, _, _ => false
end
def chkB (sc : Scope) (x y : Str) : Bool := decide (x = y) && glB sc x
mutual
def chk (ct : Ctl) : Ex → Scope → (Str → Bool) → Bool → Expr → Bool
  | .var i, sc, _, _, e => match xName e with
    | some x => decide (ct.N[i]? = some x) && (visB sc x && okN x)
    | none => false
  | .int n, _, _, _, e => decide (dConst e = some (.int n))
  | .str n, _, _, _, e => decide (dConst e = some (.str n))
  | .bool n, _, _, _, e => decide (dConst e = some (.bool n))
  | .non, _, _, _, e => decide (dConst e = some .none)
  | .tup es, sc, fnb, g, e => match dTup e with
    | some xs => xs.all noStar && chks ct es sc fnb g xs
    | none => false
  | .lst es, sc, fnb, g, e => match dLst e with
    | some xs => xs.all noStar && chks ct es sc fnb g xs
    | none => false
  | .bin op a b, sc, fnb, g, e => match dBin e with
    | some (a', o, b') => decide (o = bopOf op) && (chk ct a sc fnb g a' && chk ct b sc fnb g b')
    | none => false
  | .neg a, sc, fnb, g, e => match dUn e with
    | some (o, a') => decide (o = .USub) && chk ct a sc fnb g a'
    | none => false
  | .not a, sc, fnb, g, e => match dUn e with
    | some (o, a') => decide (o = .Not) && chk ct a sc fnb g a'
    | none => false
  | .and a b, sc, fnb, g, e => match dBool e with
    | some (o, a', b') => decide (o = .And) && (chk ct a sc fnb g a' && chk ct b sc fnb g b')
    | none => false
  | .or a b, sc, fnb, g, e => match dBool e with
    | some (o, a', b') => decide (o = .Or) && (chk ct a sc fnb g a' && chk ct b sc fnb g b')
    | none => false
  | .cmp op a b, sc, fnb, g, e => match dCmp e with
    | some (a', o, b') => decide (o = copOf op) && (!behindInMarks o b' && (chk ct a sc fnb g a' && chk ct b sc fnb g b'))
    | none => false
  | .ch2 op op' a b c, sc, fnb, g, e => match dCmp2 e with
    | some (a', o, b', o', c') => (decide (o = copOf op) && decide (o' = copOf op')) && (!lastMarks [o, o'] [b', c'] && (chk ct a sc fnb g a' && (chk ct b sc fnb g b' && chk ct c sc fnb g c')))
    | none => false
  | .isn a, sc, fnb, g, e => match dCmp e with
    | some (a', o, b') => (decide (o = .Is) && decide (dConst b' = some .none)) && chk ct a sc fnb g a'
    | none => false
  | .nisn a, sc, fnb, g, e => match dCmp e with
    | some (a', o, b') => (decide (o = .IsNot) && decide (dConst b' = some .none)) && chk ct a sc fnb g a'
    | none => false
  | .ife c a b, sc, fnb, g, e => match dIf e with
    | some (c', a', b') => chk ct c sc fnb g c' && (chk ct a sc fnb g a' && chk ct b sc fnb g b')
    | none => false
  | .sub a i, sc, fnb, g, e => match dSub e with
    | some (a', i') => chk ct a sc fnb g a' && chk ct i sc fnb g i'
    | none => false
  | .sl a lo hi, sc, fnb, g, e => match dSl e with
    | some (a', lo', hi') => chk ct a sc fnb g a' && (chkp ct lo sc fnb g lo' && chkp ct hi sc fnb g hi')
    | none => false
  | .rev a, sc, fnb, g, e => match dRev e with
    | some a' => chk ct a sc fnb g a'
    | none => false
  | .call f es, sc, fnb, g, e => match dCall e with
    | some (x, xs) => (decide (ct.fn.lookup x = some f) && (glB sc x && okN x)) && (xs.all noStar && chks ct es sc fnb g xs)
    | none => false
  | .b1 b a, sc, fnb, g, e => match dOne (dCall e) with
    | some (x, a') => chkB sc x (b1N b) && (noStar a' && chk ct a sc fnb g a')
    | none => false
  | .bi b a, sc, fnb, g, e => match dOne (dCall e) with
    | some (x, a') => chkB sc x (biN b) && (noStar a' && chk ct a sc fnb g a')
    | none => false
  | .conv l i, sc, fnb, g, e => match dOne (dCall e) with
    | some (x, a') => chkB sc x (cvN l) && (noStar a' && chkR ct i sc fnb g a')
    | none => false
  | .b2 b a c, sc, fnb, g, e => match dTwo (dCall e) with
    | some (x, a', c') => chkB sc x (b2N b) && ((noStar a' && noStar c') && (chk ct a sc fnb g a' && chk ct c sc fnb g c'))
    | none => false
  | .isi T a, sc, fnb, g, e => match dTwo (dCall e) with
    | some (x, a', c') => (chkB sc x "isinstance" && match xName c' with
      | some y => chkB sc y (tyN T)
      | none => false) && (noStar a' && chk ct a sc fnb g a')
    | none => false
  | .lc el t i ifs, sc, fnb, g, e => match dLc e with
    | some m => (blkC ct.N sc m.scope (ownOf ct.N (slots t)) && plainIter m.iter) && ((chkI ct i sc fnb g m.tg m.iter && chkT ct t (relS m.scope sc) (fnB m.scope) m.tg) && (chk ct el (relS m.scope sc) (fnB m.scope) g m.elt && chko ct ifs (relS m.scope sc) (fnB m.scope) g m.ifs))
    | none => false
  | .gen b0 el t i ifs, sc, fnb, g, e => match dOne (dCall e) with
    | some (x, e') => (g && chkB sc x (gnN b0)) && match dGen e' with
      | some m => (genC ct.N sc m.scope (ownOf ct.N (slots t)) && plainIter m.iter) && ((chkI ct i sc fnb g m.tg m.iter && chkT ct t m.scope (fun _ => false) m.tg) && (chk ct el m.scope (fun _ => false) false m.elt && chko ct ifs m.scope (fun _ => false) false m.ifs))
      | none => false
    | none => false
  | .st l a, sc, fnb, g, e => match dOne (dCall e) with
    | some (x, e') => chkB sc x (stN l) && match dOne (dCall e') with
      | some (y, a') => chkB sc y "set" && (noStar a' && chk ct a sc fnb g a')
      | none => false
    | none => false
def chks (ct : Ctl) : Exs → Scope → (Str → Bool) → Bool → List Expr → Bool
  | .nil, _, _, _, [] => true
  | .cons e es, sc, fnb, g, x :: xs => chk ct e sc fnb g x && chks ct es sc fnb g xs
  | _, _, _, _, _ => false
/-- a slice's part -/
def chkp (ct : Ctl) : Exo → Scope → (Str → Bool) → Bool → Option Expr → Bool
  | .no, _, _, _, none => true
  | .yes e, sc, fnb, g, some x => chk ct e sc fnb g x
  | _, _, _, _, _ => false
/-- a comprehension's test -/
def chko (ct : Ctl) : Exo → Scope → (Str → Bool) → Bool → List Expr → Bool
  | .no, _, _, _, [] => true
  | .yes e, sc, fnb, g, [x] => chk ct e sc fnb g x
  | _, _, _, _, _ => false
def chkI (ct : Ctl) : Ce.It → Scope → (Str → Bool) → Bool → Expr → Expr → Bool
  | .ex a, sc, fnb, g, _, e => chk ct a sc fnb g e
  | .rng1 a, sc, fnb, g, _, e => match dOne (dCall e) with
    | some (x, a') => chkB sc x "range" && (noStar a' && chk ct a sc fnb g a')
    | none => false
  | .rng2 a b, sc, fnb, g, _, e => match dTwo (dCall e) with
    | some (x, a', b') => chkB sc x "range" && ((noStar a' && noStar b') && (chk ct a sc fnb g a' && chk ct b sc fnb g b'))
    | none => false
  | .enum a, sc, fnb, g, tg, e => match dOne (dCall e) with
    | some (x, a') => (chkB sc x "enumerate" && (dTup tg).isSome) && (noStar a' && chk ct a sc fnb g a')
    | none => false
/-- a range as an argument -/
def chkR (ct : Ctl) : Ce.It → Scope → (Str → Bool) → Bool → Expr → Bool
  | .rng1 a, sc, fnb, g, e => match dOne (dCall e) with
    | some (x, a') => chkB sc x "range" && (noStar a' && chk ct a sc fnb g a')
    | none => false
  | .rng2 a b, sc, fnb, g, e => match dTwo (dCall e) with
    | some (x, a', b') => chkB sc x "range" && ((noStar a' && noStar b') && (chk ct a sc fnb g a' && chk ct b sc fnb g b'))
    | none => false
  | _, _, _, _, _ => false
end

/-- what makes its value anew (or makes a value that is no list) -/
def isNew : Ex → Bool
  | .var _ => false
  | .and _ _ => false
  | .or _ _ => false
  | .sub _ _ => false
  | .call _ _ => false
  | .ife _ a b => isNew a && isNew b
  | _ => true

/-! ### readings -/
def tO (c : Cfg) (Φ : Fns) (o : Exo) : TT := fun σ H Q => ∃ F ρ b, StE c F H σ ρ ∧ tsto Φ o ρ = some b ∧ ∀ H' F', Ext c F H F' H' → Q b H'
def tP (c : Cfg) (Φ : Fns) (o : Exo) : TO := fun σ H Q => ∃ F ρ b, StE c F H σ ρ ∧ evo Φ o ρ = some b ∧ ∀ H' F', Ext c F H F' H' → Q b H'
structure Feeds (c : Cfg) (full : Bool) (F H : Hp) (J : L2.It) (ds : List PyData) : Prop where
  run : ∀ F1 H1, (if full = true then Ok c F1 H1 ∧ ∀ a o, F a = some o → F1 a = some o else Ext c F H F1 H1) → ∀ i, (i < ds.length → J.go i H1) ∧ (∀ d, ds[i]? = some d → ∀ x H2, J.yld i H1 x H2 → ∃ F2, Ext c F1 H1 F2 H2 ∧ Dp c.K F2 x d) ∧ (ds.length ≤ i → J.stop i H1)
def tI (c : Cfg) (Φ : Fns) (bor : Bool) (it : Ce.It) : TI := fun σ H R => ∃ F ρ ds, StE c F H σ ρ ∧ itms Φ it ρ bor = some ds ∧ ∀ J H' F', Ext c F H F' H' → Feeds c (!bor) F' H' J ds → R J H'
def tG (c : Cfg) (t : Tg) : TG := fun v σ H Q => ∃ F ρ d ρ', StE c F H σ ρ ∧ Dp c.K F v d ∧ bindT t d ρ = some ρ' ∧ ∀ σ', StE c F H σ' ρ' → (∀ vs, (∀ i ∈ slots t, i ∈ vs) → wipe σ' vs = wipe σ vs) → Q σ' H
def tGs (c : Cfg) (t : Tgs) : TGs := fun v σ H Q => ∃ F ρ d ρ', StE c F H σ ρ ∧ DpAll c.K F v d ∧ bindTs t d ρ = some ρ' ∧ ∀ σ', StE c F H σ' ρ' → (∀ vs, (∀ i ∈ slotss t, i ∈ vs) → wipe σ' vs = wipe σ vs) → Q σ' H
structure Good (c : Cfg) (Φ : Fns) (X : Cx) (e : Expr) (ex : Ex) : Prop where
  pe : ∀ m : Md, (m = .nw → isNew ex = true) → PE X e (tE c Φ m ex)
  pt : PT X e (tT c Φ ex)
  pw : isBoolOp e = true → PW X e (tT c Φ ex)
end Cs

set_option maxHeartbeats 4000000
/-! The text against the core language: each form. -/
noncomputable section
namespace Cs
open PySem PySem.Spec PyProof.Rows L2 GxR Ce Gx

theorem Fin.base {c : Cfg} {m : Md} {F H F1 H1 F' H' : Hp} {v : V} {d : PyData} (e : Ext c F H F1 H1) (h : Fin c m F1 H1 F' H' v d) : Fin c m F H F' H' v d := by
  cases m with
  | fr => exact h
  | bo => exact h
  | nw =>
    dsimp only [Fin] at h ⊢
    split
    · rename_i hm
      rw [if_pos hm] at h
      obtain ⟨a, o, h1, h2, h3, h4, h5⟩ := h
      exact ⟨a, o, h1, h2, e.grow a h3, h4, h5⟩
    · rename_i hm
      rw [if_neg hm] at h
      exact h
section
variable {c : Cfg} {Φ : Fns} {F H : Hp} {σ : L2.St} {ρ : Rho}
theorem kont {F1 H1 : Hp} {m : Md} {d : PyData} {Q : VK} (e : Ext c F H F1 H1) (k : ∀ v H' F', Ext c F H F' H' → Fin c m F H F' H' v d → Q v H') : ∀ v H' F', Ext c F1 H1 F' H' → Fin c m F1 H1 F' H' v d → Q v H' := fun v H' F' e3 f3 => k v H' F' (e.trans e3) (f3.base e)
theorem ev1 {a : Ex} {x : PyData} {R : V → Hp → Prop} (s : StE c F H σ ρ) (ea : ev Φ a ρ true = some x) (k : ∀ v F1 H1, Ext c F H F1 H1 → Rq c.K F1 H1 v x → R v H1) : tE c Φ .bo a σ H R := ⟨F, ρ, x, s, ea, fun v H1 F1 e r => k v F1 H1 e r⟩
theorem ev2 {a b : Ex} {x y : PyData} {R : V → V → Hp → Prop} (s : StE c F H σ ρ) (ea : ev Φ a ρ true = some x) (eb : ev Φ b ρ true = some y)
    (k : ∀ v w F1 H1, Ext c F H F1 H1 → Rq c.K F1 H1 v x → Rq c.K F1 H1 w y → R v w H1) : tE c Φ .bo a σ H fun v H1 => tE c Φ .bo b σ H1 fun w H2 => R v w H2 :=
  ev1 s ea fun v F1 H1 e r => ev1 (s.ext e) eb fun w F2 H2 e2 r2 => k v w F2 H2 (e.trans e2) (r.ext e2) r2
theorem wipe_set {σ : L2.St} {i : Nat} {x : Option V} {vs : List Nat} (h : i ∈ vs) : wipe (σ.set i x) vs = wipe σ vs := by
  induction vs with
  | nil => cases h
  | cons v vs ih =>
    unfold wipe
    by_cases hi : i ∈ vs
    · rw [ih hi]
    · have hv : i = v := by
        rcases List.mem_cons.mp h with z | z
        · exact z
        · exact absurd z hi
      subst hv
      have : ∀ (us : List Nat) , i ∉ us → wipe (σ.set i x) us = (wipe σ us).set i x := by
        intro us
        induction us with
        | nil => intro _; rfl
        | cons u us ih2 =>
          intro hn
          unfold wipe
          rw [ih2 (fun z => hn (List.mem_cons_of_mem _ z))]
          exact List.set_comm _ _ (fun e => hn (by rw [e]; exact List.mem_cons_self))
      rw [this vs hi, List.set_set]
theorem wipe_idem {σ : L2.St} (vs : List Nat) : wipe (wipe σ vs) vs = wipe σ vs := by
  have : ∀ us : List Nat, (∀ i ∈ us, i ∈ vs) → wipe (wipe σ us) vs = wipe σ vs := by
    intro us
    induction us with
    | nil => intro _; rfl
    | cons u us ih =>
      intro h
      show wipe ((wipe σ us).set u none) vs = _
      rw [wipe_set (h u List.mem_cons_self)]
      exact ih fun i hi => h i (List.mem_cons_of_mem _ hi)
  exact this vs fun i hi => hi
/-- the new list's place is written again -/
theorem Ext.put {F H F' H' : Hp} {D : Addr} {u0 : HO} (e : Ext c F H F' H') (hn : H D = none) (hf : F' D = none) (hd : H' D = some u0) (hu : ∀ ps, u0 ≠ .tbl ps) (u : HO) : Ext c F H F' (upd H' D u) := by
  have ne : ∀ a o, H a = some o → a ≠ D := fun a o q z => by rw [z, hn] at q; cases q
  refine ⟨fun a o h q => by rw [upd_ne (ne a o q)]; exact e.keep a o h q, e.fk, e.fn, fun a q => ?_, ⟨fun P hP => ?_, fun a o q => ?_, e.ok.nt⟩⟩
  · by_cases z : a = D
    · rw [z]; exact hn
    · rw [upd_ne z] at q; exact e.grow a q
  · obtain ⟨ps, q, r⟩ := e.ok.tab P hP
    have z : P ≠ D := fun z => by rw [z, hd] at q; cases q; exact hu _ rfl
    exact ⟨ps, by rw [upd_ne z]; exact q, r⟩
  · have z : a ≠ D := fun z => by rw [z, hf] at q; cases q
    rw [upd_ne z]; exact e.ok.fh a o q
/-- an object that is changed no more -/
theorem Ext.frz {F H F' H' : Hp} {D : Addr} {u : HO} (e : Ext c F H F' H') (hn : H D = none) (hf : F' D = none) (hd : H' D = some u) (hu : ∀ ps, u ≠ .tbl ps) : Ext c F H (upd F' D u) H' := by
  refine ⟨e.keep, fun a o q => ?_, fun a o q => ?_, e.grow, ⟨e.ok.tab, fun a o q => ?_, fun a ps q => ?_⟩⟩
  · have q' := e.fk a o q
    have z : a ≠ D := fun z => by rw [z, hf] at q'; cases q'
    rw [upd_ne z]; exact q'
  · by_cases z : a = D
    · rw [z]; exact .inr hn
    · rw [upd_ne z] at q; exact e.fn a o q
  · by_cases z : a = D
    · rw [z, upd_same] at q; cases q; rw [z]; exact hd
    · rw [upd_ne z] at q; exact e.ok.fh a o q
  · by_cases z : a = D
    · rw [z, upd_same] at q; cases q; exact hu ps rfl
    · rw [upd_ne z] at q; exact e.ok.nt a ps q
/-- the list at D, whole now -/
theorem fin_at {m : Md} {F H F' H' : Hp} {D : Addr} {acc : List V} {ys : List PyData} {Q : VK} (e : Ext c F H F' H') (hn : H D = none) (hf : F' D = none) (hd : H' D = some (.lst acc)) (h : DpAll c.K F' acc ys)
    (k : ∀ v H' F', Ext c F H F' H' → Fin c m F H F' H' v (.list ys) → Q v H') : Q (.ref D) H' := by
  have e2 := e.frz hn hf hd (fun ps z => by cases z)
  have up : ∀ a o, (∀ ps, o ≠ .tbl ps) → F' a = some o → upd F' D (.lst acc) a = some o := fun a o _ q => by
    have z : a ≠ D := fun z => by rw [z, hf] at q; cases q
    rw [upd_ne z]; exact q
  have hdp : Dp c.K (upd F' D (.lst acc)) (.ref D) (.list ys) := .lst (SqL.of upd_same) (dpAll_mono up _ _ h)
  cases m with
  | fr => exact k _ _ _ e2 hdp
  | bo => exact k _ _ _ e2 (.inl hdp)
  | nw =>
    refine k (.ref D) H' F' e ?_
    dsimp only [Fin]
    rw [if_pos (show isMut (PyData.list ys) = true from rfl)]
    exact ⟨D, .lst acc, rfl, hf, hn, hd, h⟩

/-! ### sources -/
theorem Feeds.weak {full : Bool} {J : L2.It} {ds : List PyData} (h : Feeds c true F H J ds) : Feeds c full F H J ds := by
  refine ⟨fun F1 H1 q => h.run F1 H1 ?_⟩
  cases full with
  | true => exact q
  | false =>
    have q : Ext c F H F1 H1 := q
    exact ⟨q.ok, q.fk⟩
theorem feeds_list {a : Addr} {xs : List V} {ds : List PyData} (hs : SqL c.K F a xs) (h : DpAll c.K F xs ds) : Feeds c true F H (Itl c.K a) ds := by
  refine ⟨fun F1 H1 q i => ?_⟩
  obtain ⟨o, fk⟩ : Ok c F1 H1 ∧ ∀ a o, F a = some o → F1 a = some o := q
  have fkT : ∀ a o, (∀ ps, o ≠ HO.tbl ps) → F a = some o → F1 a = some o := fun a o _ q => fk a o q
  have s1 : SqL c.K H1 a xs := sql_mono o.fhT (sql_mono fkT hs)
  have hl := DpAll.length h
  refine ⟨fun hi => ⟨xs, xs[i], s1, by simp [hl, hi]⟩, fun d hd x H2 y => ?_, fun hi => ⟨xs, s1, by omega⟩⟩
  obtain ⟨rfl, y⟩ : H2 = H1 ∧ ∀ xs, SqL c.K H1 a xs → xs[i]? = some x := y
  obtain ⟨d', h1, h2⟩ := DpAll.get h (y xs s1)
  rw [hd] at h1; cases h1
  exact ⟨F1, Ext.refl o, dp_mono fkT _ _ h2⟩
theorem feeds_listB {a : Addr} {xs : List V} {ds : List PyData} (hs : H a = some (.lst xs)) (h : DpAll c.K F xs ds) : Feeds c false F H (Itl c.K a) ds := by
  refine ⟨fun F1 H1 q i => ?_⟩
  have e : Ext c F H F1 H1 := q
  have s1 : SqL c.K H1 a xs := SqL.of (e.keep a _ (fun ps z => by cases z) hs)
  have hl := DpAll.length h
  refine ⟨fun hi => ⟨xs, xs[i], s1, by simp [hl, hi]⟩, fun d hd x H2 y => ?_, fun hi => ⟨xs, s1, by omega⟩⟩
  obtain ⟨rfl, y⟩ : H2 = H1 ∧ ∀ xs, SqL c.K H1 a xs → xs[i]? = some x := y
  obtain ⟨d', h1, h2⟩ := DpAll.get h (y xs s1)
  rw [hd] at h1; cases h1
  exact ⟨F1, Ext.refl e.ok, dp_mono e.fkT _ _ h2⟩
theorem feeds_tup {a : Addr} {xs : List V} {ds : List PyData} (hs : SqT c.K F a xs) (h : DpAll c.K F xs ds) : Feeds c true F H (Itt c.K a) ds := by
  refine ⟨fun F1 H1 q i => ?_⟩
  obtain ⟨o, fk⟩ : Ok c F1 H1 ∧ ∀ a o, F a = some o → F1 a = some o := q
  have fkT : ∀ a o, (∀ ps, o ≠ HO.tbl ps) → F a = some o → F1 a = some o := fun a o _ q => fk a o q
  have s1 : SqT c.K H1 a xs := sqt_mono o.fhT (sqt_mono fkT hs)
  have hl := DpAll.length h
  refine ⟨fun hi => ⟨xs, xs[i], s1, by simp [hl, hi]⟩, fun d hd x H2 y => ?_, fun hi => ⟨xs, s1, by omega⟩⟩
  obtain ⟨rfl, y⟩ : H2 = H1 ∧ ∀ xs, SqT c.K H1 a xs → xs[i]? = some x := y
  obtain ⟨d', h1, h2⟩ := DpAll.get h (y xs s1)
  rw [hd] at h1; cases h1
  exact ⟨F1, Ext.refl o, dp_mono fkT _ _ h2⟩
theorem feeds_rng {lo : Int} {n : Nat} : Feeds c true F H (Itr lo n) ((List.range n).map fun k => PyData.int (lo + (k : Nat))) := by
  refine ⟨fun F1 H1 q i => ?_⟩
  obtain ⟨o, fk⟩ : Ok c F1 H1 ∧ ∀ a o, F a = some o → F1 a = some o := q
  have hl : ((List.range n).map fun k => PyData.int (lo + (k : Nat))).length = n := by simp
  rw [hl]
  refine ⟨fun hi => hi, fun d hd x H2 y => ?_, fun hi => hi⟩
  obtain ⟨rfl, rfl⟩ : H2 = H1 ∧ x = .int (lo + i) := y
  have hi : i < n := by
    have := (List.getElem?_eq_some_iff.mp hd).1
    rw [hl] at this; exact this
  rw [List.getElem?_map, List.getElem?_range hi] at hd
  cases hd
  exact ⟨F1, Ext.refl o, .int _⟩
theorem feeds_enum {full : Bool} {a : Addr} {ds : List PyData} (h : Feeds c full F H (Itl c.K a) ds) : Feeds c full F H (Ite c.K a) (enumd ds) := by
  refine ⟨fun F1 H1 q i => ?_⟩
  obtain ⟨h1, h2, h3⟩ := h.run F1 H1 q i
  have hl : (enumd ds).length = ds.length := by simp [enumd]
  rw [hl]
  have o : Ok c F1 H1 := by
    cases full with
    | true => exact q.1
    | false => exact Ext.ok q
  refine ⟨fun hi => ?_, fun d hd x H2 y => ?_, fun hi => ?_⟩
  · obtain ⟨xs, x, a1, a2⟩ := h1 hi
    exact ⟨xs, x, a1, a2⟩
  · obtain ⟨T, x', rfl, hT, rfl, y⟩ : ∃ T x', x = V.ref T ∧ H1 T = none ∧ H2 = upd H1 T (.tup [.int (i : Nat), x']) ∧ ∀ xs, SqL c.K H1 a xs → xs[i]? = some x' := y
    have hi : i < ds.length := by
      have := (List.getElem?_eq_some_iff.mp hd).1
      rw [hl] at this; exact this
    have e : ds[i]? = some ds[i] := by simp [hi]
    have e2 : (enumd ds)[i]? = some (.tuple [.int i, ds[i]]) := by simp [enumd, hi]
    rw [e2] at hd; cases hd
    obtain ⟨F2, e3, dp⟩ := h2 _ e x' H1 ⟨rfl, y⟩
    have e4 := Ext.newF (u := .tup [.int (i : Nat), x']) e3.ok hT (fun ps z => by cases z)
    exact ⟨_, e3.trans e4, .tup (SqT.of upd_same) (.cons (.int _) (.cons (dp_mono e4.fkT _ _ dp) .nil))⟩
  · obtain ⟨xs, a1, a2⟩ := h3 hi
    exact ⟨xs, a1, a2⟩
theorem feeds_seq {full : Bool} {v : V} {d : PyData} {ds : List PyData} {R : L2.It → Hp → Prop} (o : Ok c F H) (hd : seq? d = some ds) (hf : if full = true then Dp c.K F v d else Rq c.K F H v d) (k : ∀ J, Feeds c full F H J ds → R J H) :
    (∃ a, v = .ref a ∧ (∃ xs, SqL c.K H a xs) ∧ R (Itl c.K a) H) ∨ ∃ a, v = .ref a ∧ (∃ xs, SqT c.K H a xs) ∧ R (Itt c.K a) H := by
  have main : Dp c.K F v d → (∃ a, v = .ref a ∧ (∃ xs, SqL c.K H a xs) ∧ R (Itl c.K a) H) ∨ ∃ a, v = .ref a ∧ (∃ xs, SqT c.K H a xs) ∧ R (Itt c.K a) H := fun hf => by
    cases d <;> simp [seq?] at hd
    · subst hd
      cases hf with
      | lst hs ha => exact .inl ⟨_, rfl, ⟨_, sql_mono o.fhT hs⟩, k _ (feeds_list hs ha).weak⟩
    · subst hd
      cases hf with
      | tup hs ha => exact .inr ⟨_, rfl, ⟨_, sqt_mono o.fhT hs⟩, k _ (feeds_tup hs ha).weak⟩
  cases full with
  | true => exact main hf
  | false =>
    have hf : Rq c.K F H v d := hf
    rcases hf with hf | ⟨a, xs, ds', rfl, rfl, h3, h4⟩
    · exact main hf
    · cases hd
      exact .inl ⟨a, rfl, ⟨xs, SqL.of h3⟩, k _ (feeds_listB h3 h4)⟩
end
end Cs

set_option maxHeartbeats 4000000
/-! The text against the core language: targets, comprehensions. -/
noncomputable section
namespace Cs
open PySem PySem.Spec PyProof.Rows L2 GxR Ce Gx
section
variable {c : Cfg} {ct : Ctl} {Φ : Fns} {lf : Nat}
theorem bindT_len : ∀ (t : Tg) (d : PyData) (ρ ρ' : Rho), bindT t d ρ = some ρ' → True := fun _ _ _ _ _ => trivial
mutual
theorem sG : ∀ (t : Tg) {X : Cx} {sc : Scope} {fnb : Str → Bool} {g : Bool} {e : Expr}, CtxOk c ct Φ lf X sc fnb g → chkT ct t sc fnb e = true → PG X e (tG c t)
  | .nm i, X, sc, fnb, g, e, C, h => by
    unfold chkT at h
    split at h
    · rename_i x hx
      rw [Bool.and_eq_true, decide_eq_true_eq] at h
      obtain ⟨p, rfl⟩ := xName_ok hx
      obtain ⟨h1, h2⟩ := stoB_ok h.2
      refine ⟨fun pins s σ H v u Q I r q => ?_⟩
      refine (pg_name (pos := p) (by rw [C.N]; exact C.nd) (by rw [C.N]; exact h.1) (by rw [C.sc]; exact h1) (by rw [C.sc, C.fn]; exact h2)).run pins s σ H v u Q I r ?_
      obtain ⟨F, ρ, d, ρ', st, hd, hb, k⟩ := q
      simp only [bindT] at hb
      split at hb <;> try (cases hb; done)
      cases hb
      exact k _ (st.set hd) fun vs hv => wipe_set (hv i (by simp [slots]))
    · cases h
  | .tp ts, X, sc, fnb, g, e, C, h => by
    unfold chkT at h
    split at h
    · rename_i xs hx
      rw [Bool.and_eq_true] at h
      obtain ⟨k, p, rfl⟩ := dTup_ok hx
      obtain ⟨l1, l2⟩ := assign_len (env := X.env) h.1
      refine ⟨fun pins s σ H v u Q I r q => ?_⟩
      refine (pg_tup (k := k) (pos := p) C.calm (sGs ts C h.2) l1 l2).run pins s σ H v u Q I r ?_
      obtain ⟨F, ρ, d, ρ', st, hd, hb, kk⟩ := q
      cases d <;> try (simp [bindT] at hb; done)
      rename_i ds
      simp only [bindT] at hb
      cases hd with
      | tup hs ha =>
        rename_i a vs
        refine ⟨a, vs, rfl, by rw [← C.K]; exact sqt_mono st.ok.fhT hs, ?_, F, ρ, ds, ρ', st, ha, hb, fun σ' s' hw => kk σ' s' fun us hu => hw us fun i hi => hu i (by simpa [slots] using hi)⟩
        rw [DpAll.length ha]
        have : ∀ (ts : Tgs) (ds : List PyData) (ρ ρ' : Rho) (xs : List Expr), bindTs ts ds ρ = some ρ' → chkTs ct ts sc fnb xs = true → ds.length = xs.length := by
          intro ts
          induction ts using Tgs.rec (motive_1 := fun _ => True) with
          | nm i => trivial
          | tp ts ih => trivial
          | nil =>
            intro ds ρ ρ' xs hb hc
            cases ds <;> simp [bindTs] at hb
            cases xs <;> simp [chkTs] at hc
            rfl
          | cons t ts ih1 ih2 =>
            intro ds ρ ρ' xs hb hc
            cases ds with
            | nil => simp [bindTs] at hb
            | cons d ds =>
              cases xs with
              | nil => simp [chkTs] at hc
              | cons x xs =>
                simp only [bindTs, Option.bind_eq_some_iff] at hb
                obtain ⟨ρ1, _, hb⟩ := hb
                simp only [chkTs, Bool.and_eq_true] at hc
                rw [List.length_cons, List.length_cons, ih2 ds ρ1 ρ' xs hb hc.2]
        exact this ts ds ρ ρ' xs hb h.2
    · cases h
theorem sGs : ∀ (t : Tgs) {X : Cx} {sc : Scope} {fnb : Str → Bool} {g : Bool} {es : List Expr}, CtxOk c ct Φ lf X sc fnb g → chkTs ct t sc fnb es = true → PGs X es (tGs c t)
  | .nil, X, sc, fnb, g, es, C, h => by
    cases es with
    | cons e es => simp [chkTs] at h
    | nil =>
      refine ⟨fun pins s σ H vs us Q I r q => ?_⟩
      refine pgs_nil.run pins s σ H vs us Q I r ?_
      obtain ⟨F, ρ, d, ρ', st, hd, hb, k⟩ := q
      cases d <;> simp [bindTs] at hb
      cases hd
      subst hb
      exact ⟨rfl, k σ st fun vs _ => rfl⟩
  | .cons t ts, X, sc, fnb, g, es, C, h => by
    cases es with
    | nil => simp [chkTs] at h
    | cons e es =>
      simp only [chkTs, Bool.and_eq_true] at h
      have ns : noStar e = true := by
        cases e <;> first | rfl | (cases t <;> simp [chkT, xName, dTup] at h; done)
      refine ⟨fun pins s σ H vs us Q I r q => ?_⟩
      refine (pgs_cons (sG t C h.1) (sGs ts C h.2) (by rw [assign_cons ns]; rfl)).run pins s σ H vs us Q I r ?_
      obtain ⟨F, ρ, d, ρ', st, hd, hb, k⟩ := q
      cases d with
      | nil => simp [bindTs] at hb
      | cons d ds =>
        simp only [bindTs, Option.bind_eq_some_iff] at hb
        obtain ⟨ρ1, hb1, hb2⟩ := hb
        cases hd with
        | cons h1 h2 =>
          refine ⟨_, _, rfl, F, ρ, d, ρ1, st, h1, hb1, fun σ1 s1 w1 => ⟨F, ρ1, ds, ρ', s1, h2, hb2, fun σ2 s2 w2 => k σ2 s2 fun us hu => ?_⟩⟩
          rw [w2 us fun i hi => hu i (by simp [slotss, hi]), w1 us fun i hi => hu i (by simp [slotss, hi])]
end

/-! ### a list comprehension's turns -/
theorem lc_go {Ex0 : Ex} {t : Tg} {ifs : Exo} {F H F1 H1 : Hp} {σ : L2.St} {ρ : Rho} {J : L2.It} {ds ys : List PyData} {m : Md} {Q : VK} (e1 : Ext c F H F1 H1) (s : StE c F H σ ρ) (fd : Feeds c false F1 H1 J ds) (hl : ds.length ≤ LIM)
    (hy : lcF (fun d => (bindT t d (wipeR ρ (slots t))).bind fun ρ1 => (tsto Φ ifs ρ1).bind fun b => if b = true then (ev Φ Ex0 ρ1 false).map some else some none) ds = some ys)
    (k : ∀ v H' F', Ext c F H F' H' → Fin c m F H F' H' v (.list ys) → Q v H') : ∀ D, H1 D = none → ∃ W : Nat → Nat → Hp → Prop, (∃ m, W 0 m (upd H1 D (.lst []))) ∧ ∀ i m H, W i m H →
      (J.stop i H ∧ Q (.ref D) H) ∨ (J.go i H ∧ ∃ Nx : Hp → Prop, (∀ H', Nx H' → ∃ m', m' < m ∧ W (i + 1) m' H') ∧ ∀ x H', J.yld i H x H' → tG c t x (wipe σ (slots t)) H' fun σ2 H2 => wipe σ2 (slots t) = wipe σ (slots t) ∧ tO c Φ ifs σ2 H2 fun b H3 =>
        if b = true then tE c Φ .fr Ex0 σ2 H3 fun y H4 => ∃ acc, H4 D = some (.lst acc) ∧ acc.length < sizeLine ∧ Nx (upd H4 D (.lst (acc ++ [y]))) else Nx H3) := by
  intro D hD
  generalize hf : (fun d => (bindT t d (wipeR ρ (slots t))).bind fun ρ1 => (tsto Φ ifs ρ1).bind fun b => if b = true then (ev Φ Ex0 ρ1 false).map some else some none) = f at hy
  have W0 : ∃ W : Nat → Nat → Hp → Prop, W = fun i m H' => ∃ F' acc done, m = ds.length - i ∧ i ≤ ds.length ∧ Ext c F1 H1 F' H' ∧ F' D = none ∧ H' D = some (.lst acc) ∧ DpAll c.K F' acc done ∧ acc.length ≤ i ∧ (lcF f (ds.drop i)).map (done ++ ·) = some ys := ⟨_, rfl⟩
  obtain ⟨W, hW⟩ := W0
  have fD : F1 D = none := by
    cases q : F1 D with
    | none => rfl
    | some u => rw [e1.ok.fh D u q] at hD; cases hD
  have nl : ∀ (xs : List V) ps, HO.lst xs ≠ .tbl ps := fun xs ps z => by cases z
  refine ⟨W, ⟨ds.length, ?_⟩, fun i n H' w => ?_⟩
  · rw [hW]
    exact ⟨F1, [], [], by simp, Nat.zero_le _, Ext.new e1.ok hD (nl _), fD, upd_same, .nil, Nat.zero_le _, by simp [hy]⟩
  · rw [hW] at w
    obtain ⟨F', acc, done, rfl, hi, e2, fD2, hD2, ha, hal, hr⟩ := w
    obtain ⟨r1, r2, r3⟩ := fd.run F' H' e2 i
    by_cases hlt : i < ds.length
    · refine .inr ⟨r1 hlt, W (i + 1) (ds.length - (i + 1)), fun H2 w2 => ⟨_, by omega, w2⟩, fun x H2 y => ?_⟩
      have hd : ds[i]? = some ds[i] := by simp [hlt]
      obtain ⟨F2, e3, dp⟩ := r2 _ hd x H2 y
      rw [List.drop_eq_getElem_cons hlt] at hr
      simp only [lcF] at hr
      rw [Option.map_eq_some_iff] at hr
      obtain ⟨rest, hr, hys⟩ := hr
      rw [Option.bind_eq_some_iff] at hr
      obtain ⟨r, hfr, hr⟩ := hr
      rw [← hf] at hfr
      simp only [Option.bind_eq_some_iff] at hfr
      obtain ⟨ρ1, hb, b, ht, hv⟩ := hfr
      have s2 : StE c F2 H2 (wipe σ (slots t)) (wipeR ρ (slots t)) := ((s.ext e1).ext (e2.trans e3)).wipe _
      refine ⟨F2, wipeR ρ (slots t), ds[i], ρ1, s2, dp, hb, fun σ2 s3 hw => ⟨by rw [hw _ (fun i hi => hi), wipe_idem], F2, ρ1, b, s3, ht, fun H3 F3 e4 => ?_⟩⟩
      have nxt : ∀ {F4 H4 : Hp}, Ext c F2 H2 F4 H4 → F4 D = none ∧ H4 D = some (.lst acc) ∧ Ext c F1 H1 F4 H4 ∧ DpAll c.K F4 acc done := fun {F4 H4} e5 => by
        have e6 := e3.trans e5
        refine ⟨?_, e6.keep D _ (nl _) hD2, e2.trans e6, dpAll_mono e6.fkT _ _ ha⟩
        cases q : F4 D with
        | none => rfl
        | some u =>
          rcases e6.fn D u q with z | z
          · rw [fD2] at z; cases z
          · rw [hD2] at z; cases z
      cases b with
      | false =>
        simp only [Bool.false_eq_true, if_false, Option.some.injEq] at hv ⊢
        subst hv
        obtain ⟨n1, n2, n3, n4⟩ := nxt e4
        rw [hW]
        have hr : lcF f (ds.drop (i + 1)) = some rest := hr
        exact ⟨F3, acc, done, rfl, hlt, n3, n1, n2, n4, Nat.le_succ_of_le hal, by rw [hr]; simp [hys]⟩
      | true =>
        simp only [if_true, Option.map_eq_some_iff] at hv ⊢
        obtain ⟨y0, hy0, rfl⟩ := hv
        refine ⟨F3, ρ1, y0, s3.ext e4, hy0, fun v H4 F4 e5 f5 => ?_⟩
        obtain ⟨n1, n2, n3, n4⟩ := nxt (e4.trans e5)
        simp only [Option.map_eq_some_iff] at hr
        obtain ⟨rest', hr', rfl⟩ := hr
        refine ⟨acc, n2, by rw [← lim_eq]; omega, ?_⟩
        rw [hW]
        exact ⟨F4, acc ++ [v], done ++ [y0], rfl, hlt, n3.put hD n1 n2 (nl _) _, n1, upd_same, DpAll.append n4 (.cons f5 .nil), by simp; omega, by rw [hr']; simp [← hys]⟩
    · have hi' : i = ds.length := by omega
      refine .inl ⟨r3 (by omega), ?_⟩
      subst hi'
      rw [List.drop_length] at hr
      simp only [lcF, Option.map_some, List.append_nil, Option.some.injEq] at hr
      subst hr
      have hDn : H D = none := e1.grow D hD
      exact fin_at (e1.trans e2) hDn fD2 hD2 ha k

/-! ### a generator's turns -/
theorem gen_go {Ex0 : Ex} {t : Tg} {ifs : Exo} {F H F1 H1 : Hp} {σ : L2.St} {ρ : Rho} {J : L2.It} {ds : List PyData} {b0 r : Bool} {m : Md} {Q : VK} (e1 : Ext c F H F1 H1) (s : StE c F H σ ρ) (fd : Feeds c false F1 H1 J ds)
    (hy : genF b0 (fun d => (bindT t d (wipeR ρ (slots t))).bind fun ρ1 => (tsto Φ ifs ρ1).bind fun b => if b = true then (ev Φ Ex0 ρ1 true).bind fun x => match x with
      | .bool r => some (some r)
      | _ => none
    else some none) ds = some r)
    (k : ∀ v H' F', Ext c F H F' H' → Fin c m F H F' H' v (.bool r) → Q v H') : ∀ H2 F2, Ext c F1 H1 F2 H2 → ∃ W : Nat → Nat → Hp → Prop, (∃ m, W 0 m H2) ∧ tTurn b0 J (tG c t) (tO c Φ ifs) (tE c Φ .bo Ex0) (wipe σ (slots t)) (slots t) W (Q (.bl b0)) (Q (.bl (!b0))) := by
  intro H2 F2 e2
  generalize hf : (fun d => (bindT t d (wipeR ρ (slots t))).bind fun ρ1 => (tsto Φ ifs ρ1).bind fun b => if b = true then (ev Φ Ex0 ρ1 true).bind fun x => match x with
      | .bool r => some (some r)
      | _ => none
    else some none) = f at hy
  have W0 : ∃ W : Nat → Nat → Hp → Prop, W = fun i m H' => ∃ F', m = ds.length - i ∧ i ≤ ds.length ∧ Ext c F1 H1 F' H' ∧ genF b0 f (ds.drop i) = some r := ⟨_, rfl⟩
  obtain ⟨W, hW⟩ := W0
  have done : ∀ {F' H'}, Ext c F1 H1 F' H' → Q (.bl r) H' := fun e => fin_val (e1.trans e) (.bl r) (fun _ => rfl) k
  refine ⟨W, ⟨ds.length, ?_⟩, fun i n H' w => ?_⟩
  · rw [hW]; exact ⟨F2, by simp, Nat.zero_le _, e2, hy⟩
  · rw [hW] at w
    obtain ⟨F', rfl, hi, e3, hr⟩ := w
    obtain ⟨r1, r2, r3⟩ := fd.run F' H' e3 i
    by_cases hlt : i < ds.length
    · refine .inr ⟨r1 hlt, W (i + 1) (ds.length - (i + 1)), fun H2 w2 => ⟨_, by omega, w2⟩, fun x H2 y => ?_⟩
      have hd : ds[i]? = some ds[i] := by simp [hlt]
      obtain ⟨F2, e4, dp⟩ := r2 _ hd x H2 y
      rw [List.drop_eq_getElem_cons hlt] at hr
      simp only [genF, Option.bind_eq_some_iff] at hr
      obtain ⟨z, hfr, hr⟩ := hr
      rw [← hf] at hfr
      simp only [Option.bind_eq_some_iff] at hfr
      obtain ⟨ρ1, hb, b, ht, hv⟩ := hfr
      have s2 : StE c F2 H2 (wipe σ (slots t)) (wipeR ρ (slots t)) := ((s.ext e1).ext (e3.trans e4)).wipe _
      refine ⟨F2, wipeR ρ (slots t), ds[i], ρ1, s2, dp, hb, fun σ2 s3 hw => ⟨by rw [hw _ (fun i hi => hi), wipe_idem], F2, ρ1, b, s3, ht, fun H3 F3 e5 => ?_⟩⟩
      cases b with
      | false =>
        simp only [Bool.false_eq_true, if_false, Option.some.injEq] at hv ⊢
        subst hv
        rw [hW]
        exact ⟨F3, rfl, hlt, e3.trans (e4.trans e5), hr⟩
      | true =>
        simp only [if_true] at hv ⊢
        rw [Option.bind_eq_some_iff] at hv
        obtain ⟨x0, hx0, hv⟩ := hv
        cases x0 <;> try (cases hv; done)
        rename_i r0
        cases hv
        refine ⟨F3, ρ1, .bool r0, s3.ext e5, hx0, fun v H4 F4 e6 f6 => ⟨r0, Rq.bl f6, ?_⟩⟩
        by_cases h0 : r0 = b0
        · rw [if_pos h0]
          simp only [h0, if_true] at hr
          rw [hW]
          exact ⟨F4, rfl, hlt, e3.trans (e4.trans (e5.trans e6)), hr⟩
        · rw [if_neg h0]
          simp only [h0, if_false, Option.some.injEq] at hr
          rw [hr]
          exact done (e3.trans (e4.trans (e5.trans e6)))
    · have hi' : i = ds.length := by omega
      refine .inl ⟨r3 (by omega), ?_⟩
      subst hi'
      rw [List.drop_length] at hr
      simp only [genF, Option.some.injEq] at hr
      rw [hr]
      exact done e3
end
end Cs

set_option maxHeartbeats 4000000
/-! x[::-1] of a list or a tuple. -/
noncomputable section
namespace HT
open PySem PySem.Spec PyProof.Rows
section
variable {prog : Program} {w : World} {A : Around} {E : Value → Shared → Prop} {s : Shared}
theorem adjust_rev (n : Nat) : Builtin.Slice.sliceAdjust none none (-1) (n : Int) = ((n : Int) - 1, -1) := by
  have h1 : ((-1 : Int) < 0) := by omega
  unfold Builtin.Slice.sliceAdjust
  simp only [h1, if_true]
theorem places_rev (n : Nat) : Builtin.Slice.slicePlaces ((n : Int) - 1) (-1) (-1) = n := by
  unfold Builtin.Slice.slicePlaces
  have h1 : ¬ ((-1 : Int) > 0) := by omega
  simp only [h1, if_false, Int.neg_neg, Int.ediv_one]
  split <;> omega
theorem sliceApplied_rev {sl : Addr} {vl vu vs : Value} {n : Nat} {Q : Int × Int × Nat → Shared → Prop} (hs : s.heap.IsSliceOf sl vl vu vs) (pl : IsPart vl none) (pu : IsPart vu none) (ps : IsPart vs (some (-1)))
    (h : Q ((n : Int) - 1, -1, n) s) : wpAny (model prog w) A (Builtin.Slice.sliceApplied (.ref sl) (pure (n : Int))) Q E s := by
  obtain ⟨os, hos, hcs, hds⟩ := id hs
  unfold Builtin.Slice.sliceApplied Builtin.Slice.sliceFields
  refine wpAny_bind (wpAny_bind (wpAny_field hos hds (x := vl) rfl (wpAny_bind (wpAny_field hos hds (x := vu) rfl (wpAny_bind (wpAny_field hos hds (x := vs) rfl (wpAny_pure ?_)))))))
  refine wpAny_bind (slicePart_ ps ?_)
  show wpAny _ _ (if ((-1 : Int) == 0) = true then _ else _) _ _ s
  rw [if_neg (by decide)]
  refine wpAny_bind (slicePart_ pl (wpAny_bind (slicePart_ pu (wpAny_bind (wpAny_pure ?_)))))
  show wpAny _ _ (match Builtin.Slice.sliceAdjust none none (-1) (n : Int) with | (lo, hi) => pure (lo, (-1 : Int), Builtin.Slice.slicePlaces lo hi (-1))) _ _ s
  rw [adjust_rev n]
  show wpAny _ _ (pure ((n : Int) - 1, (-1 : Int), Builtin.Slice.slicePlaces ((n : Int) - 1) (-1) (-1))) _ _ s
  rw [places_rev]
  exact wpAny_pure h
theorem filterMap_some {α β : Type} {f : α → Option β} {g : α → β} : ∀ {l : List α}, (∀ m ∈ l, f m = some (g m)) → l.filterMap f = l.map g
  | [], _ => rfl
  | m :: l, h => by
    rw [List.filterMap_cons, h m List.mem_cons_self, List.map_cons, filterMap_some fun k hk => h k (List.mem_cons_of_mem _ hk)]
theorem pick_rev (xs : Array Value) : ((List.range xs.size).filterMap fun (m : Nat) => xs[(((xs.size : Int) - 1) + (m : Int) * -1).toNat]?).toArray = xs.toList.reverse.toArray := by
  congr 1
  rw [filterMap_some (g := fun m => (xs.toList.reverse[m]?).getD default)]
  · refine List.ext_getElem (by simp) fun i h1 h2 => ?_
    rw [List.getElem_map, List.getElem_range, List.getElem?_eq_getElem h2]
    rfl
  · intro m hm
    have hm' : m < xs.size := List.mem_range.mp hm
    have e : (((xs.size : Int) - 1) + (m : Int) * -1).toNat = xs.size - 1 - m := by omega
    have hl : m < xs.toList.reverse.length := by simp; exact hm'
    rw [e, List.getElem?_eq_getElem hl, List.getElem_reverse]
    rw [Array.getElem?_eq_getElem (by omega)]
    simp
theorem getItem_tuple_rev {t sl : Addr} {items : Array Value} {vl vu vs : Value} {Q : Value → Shared → Prop} (ht : IsTup s.heap t items) (hs : s.heap.IsSliceOf sl vl vu vs) (pl : IsPart vl none) (pu : IsPart vu none) (ps : IsPart vs (some (-1)))
    (h : Q (.ref s.heap.objs.size) { s with heap := s.heap.push { cls := .type "tuple", data := .seq items.toList.reverse.toArray } })
    (hsz : items.size ≤ sizeLine) : wpAny (model prog w) A (getItem (.ref t) (.ref sl)) Q E s := by
  have htake : sizeOk (.seq items.toList.reverse.toArray) := by
    show items.toList.reverse.toArray.size ≤ sizeLine
    rw [List.size_toArray, List.length_reverse, Array.length_toList]
    exact hsz
  obtain ⟨os, hos, hcs, hds⟩ := id hs
  have hTs : s.TypeIs (.ref sl) "slice" := ⟨os, hos, hcs⟩
  unfold getItem
  try with_reducible refine wpAny_holding ?_
  first | refine wpAny_bind (wpAny_pure ?_) | skip
  refine wpAny_bind (wpAny_sequenceKey ht.typeIs (by decide) ?_)
  refine wpAny_bind (wpAny_callSpecial?_slot (name := Str.ofString "__getitem__") ht.typeIs PyProof.Rows.slot_tuple_getitem
    (wpAny_call_entry PyProof.Rows.slot_tuple_getitem ht.typeIs entry_tuple_getitem ?_ (args_tuple_getitem _ _)))
  show wpAny _ _ (Builtin.Tuple.tupleItemsOf (.ref t) >>= _) _ _ s
  refine wpAny_bind (tupleItemsOf_ ht ?_)
  refine wpAny_bind (wpAny_typeOf hTs ?_)
  rw [if_pos (by decide)]
  refine wpAny_bind (sliceApplied_rev hs pl pu ps ?_)
  have hno : ¬ ((((items.size : Int) - 1) == 0 && (-1 : Int) == 1 && items.size == items.size) = true) := by
    intro q
    rw [Bool.and_eq_true, Bool.and_eq_true] at q
    exact absurd q.1.2 (by decide)
  show wpAny _ _ (if (((items.size : Int) - 1) == 0 && (-1 : Int) == 1 && items.size == items.size) = true then _ else _) _ _ s
  rw [if_neg hno, pick_rev]
  first
    | exact wpAny_bind (m := Builtin.Tuple.tupleExact _) (wpAny_newObj_type (wpAny_pure ⟨_, rfl, wpAny_pure h⟩) htake)
    | exact wpAny_bind (m := Builtin.Tuple.tupleExact _) (wpAny_newObj_type (wpAny_bind (wpAny_pure (wpAny_pure ⟨_, rfl, wpAny_pure h⟩))) htake)
    | exact wpAny_bind (wpAny_bind (m := Builtin.Tuple.tupleExact _) (wpAny_newObj_type (wpAny_pure (wpAny_pure ⟨_, rfl, wpAny_pure h⟩)) htake))
    | exact wpAny_bind (wpAny_bind (m := Builtin.Tuple.tupleExact _) (wpAny_newObj_type (wpAny_pure ⟨_, rfl, wpAny_pure h⟩) htake))
end
end HT
namespace Cs
open PySem PySem.Spec PyProof.Rows L2 GxR Ce Gx
section
variable {X : Cx}
def tRevA (K : PySem.W.Frag) (te : TE) : TE := fun σ H Q => te σ H fun x H1 => ∃ a xs, x = .ref a ∧ ((SqL K H1 a xs ∧ ∀ p, H1 p = none → Q (.ref p) (upd H1 p (.lst xs.reverse))) ∨ (SqT K H1 a xs ∧ ∀ p, H1 p = none → Q (.ref p) (upd H1 p (.tup xs.reverse))))
theorem pe_revA {e : Expr} {te : TE} {k : Nat} {p1 p2 p3 pos : Pos} (he : PE X e te) : PE X (.Subscript e (.Slice none none (some (.UnaryOp .USub (.Constant (.int 1) k p1) p2)) p3) pos) (tRevA X.K te) := by
  refine ⟨fun pins s σ H Q I h => ?_⟩
  refine Subscript_ (thn (he.run pins s σ H _ I h) fun v s1 ⟨x, H1, I1, r1, q1⟩ => ?_)
  obtain ⟨a, xs, ex, q⟩ := q1
  subst ex
  cases r1
  have hst : PO X (some (.UnaryOp .USub (.Constant (.int 1) k p1) p2)) (tPart (tUn (rU fun i => .int (-i)) (tC (.int 1)))) := po_some (pe_un un_neg pe_int)
  refine wpAny_Slice (thn (po_none.run pins s1 σ H1 (fun o H2 => o = none ∧ H2 = H1) I1 ⟨rfl, rfl⟩) fun vl s2 ⟨l, H2, I2, pl, el, e2⟩ => ?_)
  subst el e2
  refine thn (po_none.run pins s2 σ H2 (fun o H3 => o = none ∧ H3 = H2) I2 ⟨rfl, rfl⟩) fun vu s3 ⟨u, H3, I3, pu, eu, e3⟩ => ?_
  subst eu e3
  refine thn (hst.run pins s3 σ H3 (fun o H4 => o = some (-1) ∧ H4 = H3) I3 ⟨1, rfl, -1, rfl, rfl, rfl⟩) fun vs s4 ⟨o, H4, I4, ps, eo, e4⟩ => ?_
  subst eo e4
  have I5 : Inv X pins σ H4 { s4 with heap := s4.heap.push { cls := .type "slice", data := .fields #[vl, vu, vs] } } := I4.kept (t' := s4.toks) fun b ob q => Heap.get?_push_of_some _ q
  show wpAny (model X.prog X.w) X.A (subscriptTail e (.Slice none none (some (.UnaryOp .USub (.Constant (.int 1) k p1) p2)) p3) (.ref a) (.ref s4.heap.objs.size)) (EP X pins σ Q) X.xe { s4 with heap := s4.heap.push { cls := .type "slice", data := .fields #[vl, vu, vs] } }
  rcases q with ⟨hx, q⟩ | ⟨hx, q⟩
  · obtain ⟨its, r, ht, hz⟩ := I5.list hx
    have hlen := r.length
    refine tail_any (ops := [.ref a, .ref s4.heap.objs.size]) ht.isList.typeIs (PySem.slot_list_getitem.lookup) ?_ (by with_unfolding_all rfl)
    refine wpAny_getItem_list_slice ht.isList (Heap.IsSliceOf.new _ vl vu vs) pl pu ps (by decide) ?_ (by rw [List.size_toArray]; omega)
    rw [PySem.W.krv_pick]
    refine ⟨.ref _, _, I5.laid (t' := s4.toks) (o := .lst xs.reverse) (fun b ob q => Heap.get?_push_of_some _ q) (Nat.le_refl _) ?_, rfl, q _ (I5.hok.fresh (Nat.le_refl _))⟩
    exact ⟨by rw [List.length_reverse]; exact hz, _, 0, r.reverse, Heap.get?_push_size _ rfl⟩
  · obtain ⟨its, r, ht, hz⟩ := I5.tuple hx
    have hlen := r.length
    refine tail_any (ops := [.ref a, .ref s4.heap.objs.size]) ht.typeIs (PyProof.Rows.slot_tuple_getitem.lookup) ?_ (by with_unfolding_all rfl)
    refine HT.getItem_tuple_rev ht (Heap.IsSliceOf.new _ vl vu vs) pl pu ps ?_ (by rw [List.size_toArray]; omega)
    refine ⟨.ref _, _, I5.laid (t' := s4.toks) (o := .tup xs.reverse) (fun b ob q => Heap.get?_push_of_some _ q) (Nat.le_refl _) ?_, rfl, q _ (I5.hok.fresh (Nat.le_refl _))⟩
    exact ⟨by rw [List.length_reverse]; exact hz, _, r.reverse, IsTup.new _ _⟩
end
end Cs

set_option maxHeartbeats 4000000
/-! enumerate of a list or a tuple. -/
noncomputable section
namespace PySem
open Sem (wp)
theorem meets_enumerate_newB1 {v : Value} {o : Obj} {H : Heap → Prop} (B : Begins v o H) :
    Meets (Builtin.«enumerate.__new__» ⟨[.type "enumerate", v], []⟩) (fun _ R s => H s.heap ∧
      R (.ok (.ret (.ref (s.heap.push o).objs.size))) { s with heap := (s.heap.push o).push { cls := .type "enumerate", data := .fields #[.none, .bool false, .ref s.heap.objs.size, rawInt 0, .none, .none] } }) :=
  .of_wp fun prog w A R s h => by
    obtain ⟨hp, g, d, tk, os⟩ := s; obtain ⟨h1, h⟩ := h
    have hsub := sub_enumerate
    have q1 : ∀ {A' : Around} {E : Value → Shared → Prop} {Q : Value → Shared → Prop}, Q (.ref hp.objs.size) ⟨hp.push o, g, d, tk, os⟩ → wpAny (model prog w) A' (pyIter v) Q E ⟨hp, g, d, tk, os⟩ :=
      fun q => B.iter prog w _ _ ⟨hp, g, d, tk, os⟩ _ h1 q
    wp_walk using q1
    refine wpAny_stack_any fun st => wpAny_pure ?_
    split
    · rename_i c _ _ _ _ _
      cases (c == Value.type "enumerate")
      · wp_walk using q1
        exact ⟨_, rfl, h⟩
      · wp_walk using q1
        exact ⟨_, rfl, h⟩
    · wp_walk using q1
      exact ⟨_, rfl, h⟩
theorem enum_begins1 {prog : Program} {w : World} {A : Around} {E : Value → Shared → Prop} {s : Shared} {v : Value} {o : Obj} {H : Heap → Prop} {Q : Value → Shared → Prop} (B : Begins v o H) (h1 : H s.heap)
    (h : ∀ h', IsEnum h' (s.heap.objs.size + 1) s.heap.objs.size 0 .none → h'.get? s.heap.objs.size = some o → h'.objs.size = s.heap.objs.size + 2 →
      (∀ b o, s.heap.get? b = some o → h'.get? b = some o) → Q (.ref (s.heap.objs.size + 1)) { s with heap := h' }) :
    wpAny (model prog w) A (call (.type "enumerate") [v]) Q E s := by
  refine callType_new F.called_enumerate (by decide) (F.typeCall_enumerate_1 _) (F.newCall_enumerate_1 _) (fun obj => F.args_object_init_2 obj _) F.entry_enumerate_new
    (meets_enumerate_newB1 B) ⟨h1, ?_⟩
  have hz : (s.heap.push o).objs.size = s.heap.objs.size + 1 := Heap.size_push ..
  show _ ∧ _
  rw [hz]
  have he : IsEnum ((s.heap.push o).push { cls := .type "enumerate", data := .fields #[.none, .bool false, .ref s.heap.objs.size, rawInt 0, .none, .none] }) (s.heap.objs.size + 1) s.heap.objs.size 0 .none := by
    have := Heap.get?_push_size (s.heap.push o) (o := { cls := .type "enumerate", data := .fields #[.none, .bool false, .ref s.heap.objs.size, rawInt 0, .none, .none] }) rfl
    rw [hz] at this; exact this
  refine ⟨⟨_, he, rfl⟩, h _ he (Heap.get?_push_of_some _ (Heap.get?_push_size _ B.free)) (by rw [Heap.size_push, hz]) fun b o x => Heap.get?_push_of_some _ (Heap.get?_push_of_some _ x)⟩
end PySem
namespace Cs
open PySem PySem.Spec PyProof.Rows L2 GxR Ce Gx
/-- the tuple at a, each item in a new pair -/
def IteT (K : PySem.W.Frag) (a : Addr) : L2.It :=
  ⟨fun i H => ∃ (xs : List V) (x : V), SqT K H a xs ∧ xs[i]? = some x, fun i H v H' => ∃ T x, v = .ref T ∧ H T = none ∧ H' = upd H T (.tup [.int (i : Nat), x]) ∧ ∀ xs, SqT K H a xs → xs[i]? = some x, fun i H => ∃ xs : List V, SqT K H a xs ∧ xs.length ≤ i⟩
theorem iter_apart {h : Heap} {a it : Addr} {i : Nat} {items : Array Value} (p : IsTup h a items) (hit : h.IsTupleIter it a i) : a ≠ it := by
  intro e
  subst e
  obtain ⟨o, ho, hc, _⟩ := p
  obtain ⟨o', ho', hc', _⟩ := hit
  rw [ho] at ho'
  cases ho'
  rw [hc] at hc'
  injection hc' with q
  exact absurd q (by decide)
theorem turn_enumT {P : Program} {w : World} {K : PySem.W.Frag} {elts : List Expr} {kk : Nat} {tpos : Pos} (a e it : Addr) :
    Turn P w K (.Tuple elts kk tpos) (IteT K a) [e, it] e (fun i h => (∃ old, IsEnum h e it ((i : Nat) : Int) old) ∧ h.IsTupleIter it a i ∧ e ≠ it) where
  mem := by simp
  obj := fun i h st b hb => by
    obtain ⟨⟨old, he⟩, ⟨o, ho, hc, hd⟩, _⟩ := st
    have e' : b = e ∨ b = it := by simpa using hb
    rcases e' with z | z
    · rw [z]; exact ⟨_, he, fun v q => nomatch q⟩
    · rw [z]; exact ⟨o, ho, fun v q => by rw [hd] at q; cases q⟩
  keep := fun i h h' st k => let ⟨⟨old, he⟩, hi, hne⟩ := st; ⟨⟨old, k e (by simp) _ he⟩, hi.at fun o q => k it (by simp) o q, hne⟩
  item := by
    intro X hP hw hK hc i pins s σ H E I hf st hg
    subst hP hw hK
    obtain ⟨⟨old, he⟩, hit, hne⟩ := st
    obtain ⟨xs, x, hq, hx⟩ := hg
    obtain ⟨its, rv, p, hz⟩ := I.tuple hq
    obtain ⟨u, hu, ru⟩ := rv.get hx
    have hel : e < s.heap.objs.size := Heap.lt_size he
    have hil : it < s.heap.objs.size := by obtain ⟨_, q, _⟩ := hit; exact Heap.lt_size q
    have hat := iter_apart p hit
    have hlt : i < its.toArray.size := by
      have := (List.getElem?_eq_some_iff.mp hu).1
      simpa using this
    have hea : e ≠ a := by
      intro z
      subst z
      obtain ⟨o, ho, hc, _⟩ := p
      rw [he] at ho
      cases ho
      injection hc with q
      exact absurd q (by decide)
    refine wpAny_pyNext_enum_itemD (Draws.tuple (A := X.A.in1) (I.ok.hd hc) it a hat its.toArray) he ⟨hit, p⟩ hlt hne (by simp [hne, hea]) fun y h' tk hy ho hst' hT hsz hk => ?_
    have ey : y = u := by
      have : its.toArray[i]? = some u := by simpa using hu
      rw [this] at hy
      exact (Option.some.inj hy).symm
    subst ey
    obtain ⟨hit', _⟩ := hst'
    refine ⟨_, rfl, wpAny_letOwnedTupleGo_enum (s := { s with heap := h', toks := tk + 1 }) ho fun h'' he' sb => ?_⟩
    have hT2 : h''.get? s.heap.objs.size = some { cls := .type "tuple", data := .seq #[.int i tk, y] } := (sb.2 _ (Nat.ne_of_gt hel)).trans hT
    have new : ObjOk X.prog X.w (upd H s.heap.objs.size (.tup [.int (i : Nat), x])) h'' s.heap.objs.size (.tup [.int (i : Nat), x]) :=
      ⟨by show 2 ≤ sizeLine; decide, [.int i tk, y], .cons ⟨_, rfl⟩ (.cons ru .nil), ⟨_, hT2, rfl, _, rfl⟩⟩
    have I1 : Inv X pins σ (upd H s.heap.objs.size (.tup [.int (i : Nat), x])) { s with heap := h'', toks := tk + 1 } :=
      I.turnedNew (ch := [e, it]) (fun b ob hb q => (sb.2 b (fun z => hb (by simp [z]))).trans (hk b ob (fun z => hb (by simp [z])) (fun z => hb (by simp [z])) q)) hf (Nat.le_refl _) new
    refine ⟨.ref s.heap.objs.size, _, I1, rfl, ⟨_, x, rfl, I.hok.fresh (Nat.le_refl _), rfl, fun ys hy => by rw [I.tuple_inj hy hq]; exact hx⟩, ⟨⟨y, ?_⟩, hit'.at fun o q => (sb.2 it (Ne.symm hne)).trans q, hne⟩, fun b hb => ?_⟩
    · have e1 : ((i + 1 : Nat) : Int) = (i : Int) + 1 := by omega
      rw [e1]; exact he'
    · have hb' : b < s.heap.objs.size := by
        have e' : b = e ∨ b = it := by simpa using hb
        rcases e' with z | z
        · rw [z]; exact hel
        · rw [z]; exact hil
      rw [upd_ne (Nat.ne_of_lt hb')]
      exact (hf b hb).1
  done := by
    intro X hP hw hK hc i pins s σ H E I hf st hg
    subst hP hw hK
    obtain ⟨⟨old, he⟩, hit, hne⟩ := st
    obtain ⟨xs, hq, hx⟩ := hg
    obtain ⟨its, rv, p, hz⟩ := I.tuple hq
    obtain ⟨f0, f1, f2, f3, f4, f5⟩ := hf it (by simp)
    have hl := rv.length
    have hat := iter_apart p hit
    have hT : s.TypeIs (.ref e) "enumerate" := ⟨_, he, rfl⟩
    unfold pyNext
    refine wpAny_bind (wpAny_attempt (wpAny_callSpecial?_slot (name := Str.ofString "__next__") hT F.slot_enumerate_next
      (wpAny_call_entry F.slot_enumerate_next hT F.entry_enumerate_next ?_ (F.args_enumerate_next_1 _))))
    show wpAny _ _ (field (.ref e) 2 >>= _) _ _ _
    refine wpAny_bind (wpAny_field he rfl (x := .ref it) rfl ?_)
    refine wpAny_bind (wpAny_nextOf_tuple_end (I.ok.hd hc) hit p (by simp; omega) fun h' x he' hx' => ?_)
    obtain ⟨o, ho, hc⟩ := hx'
    refine wpAny_bind (wpAny_isInstance (T := "StopIteration") (b := true) ⟨o, ho, hc⟩ isSubtype_stop ?_)
    exact wpAny_pure ⟨rfl, I.turned (t' := s.toks) (fun b o hb q => he' b o hb q) f0 f1 f3 f4 f5⟩
  self := fun A i s Q E st h => let ⟨⟨_, he⟩, _⟩ := st; wpAny_pyIter_enum he h
/-- .. of a list or a tuple -/
def iEnumA (K : PySem.W.Frag) (ta : TA) : TI := fun σ H R => ta σ H fun vs H1 => ∃ a, vs = [.ref a] ∧ (((∃ xs, SqL K H1 a xs) ∧ R (Ite K a) H1) ∨ ((∃ xs, SqT K H1 a xs) ∧ R (IteT K a) H1))
theorem pi_enumA {X : Cx} {e : Expr} {ta : TA} {p pos tpos : Pos} {elts : List Expr} {kk : Nat} (hg : Gl X "enumerate") (hm : X.mg "enumerate" = none) (ha : PA X [e] ta) (hs : starEach [e] X.env = [(false, eval e X.env)]) :
    PI X (.Tuple elts kk tpos) (.Call (.Name "enumerate" p) [e] [] pos) (iEnumA X.K ta) := by
  refine ⟨fun pins s σ H R I h => ?_⟩
  refine Call_ (ld_blt I hg hm boot_enumerate (PyProof.Rows.callWith_type1 (thn (ha.run pos pins s σ H _ I h) fun us s1 ⟨vs, H1, I1, r1, q1⟩ => ?_) hs rfl))
  obtain ⟨a, ex, q1⟩ := q1
  subst ex
  cases r1 with
  | cons r rr =>
    cases rr
    cases r
    have fp2 : ∀ b ∈ [s1.heap.objs.size + 1, s1.heap.objs.size], FpOk X pins H1 b := fun b hb => by
      have e' : b = s1.heap.objs.size + 1 ∨ b = s1.heap.objs.size := by simpa using hb
      have hle : s1.heap.objs.size ≤ b := by
        rcases e' with z | z
        · rw [z]; exact Nat.le_add_right _ _
        · rw [z]; exact Nat.le_refl _
      exact I1.fpOk hle (I1.hok.fresh hle)
    rcases q1 with ⟨⟨xs, hq⟩, q⟩ | ⟨⟨xs, hq⟩, q⟩
    · obtain ⟨its, rv, p', hz⟩ := I1.list hq
      refine call_enumerate_list p'.isList fun h' he hit hsz hk => wpAny_pyIter_enum he ?_
      have I2 : Inv X pins σ H1 { s1 with heap := h' } := I1.kept (t' := s1.toks) hk
      exact ⟨s1.heap.objs.size + 1, [s1.heap.objs.size + 1, s1.heap.objs.size], _, _, H1, rfl, I2, turn_enum a (s1.heap.objs.size + 1) s1.heap.objs.size, ⟨⟨.none, he⟩, hit, Nat.succ_ne_self _⟩, fp2, q⟩
    · obtain ⟨its, rv, p', hz⟩ := I1.tuple hq
      refine enum_begins1 (begins_tuple a its.toArray) p' fun h' he hit hsz hk => wpAny_pyIter_enum he ?_
      have I2 : Inv X pins σ H1 { s1 with heap := h' } := I1.kept (t' := s1.toks) hk
      exact ⟨s1.heap.objs.size + 1, [s1.heap.objs.size + 1, s1.heap.objs.size], _, _, H1, rfl, I2, turn_enumT a (s1.heap.objs.size + 1) s1.heap.objs.size, ⟨⟨.none, he⟩, ⟨_, hit, rfl, rfl⟩, Nat.succ_ne_self _⟩, fp2, q⟩
theorem feeds_enumT {c : Cfg} {F H : Hp} {full : Bool} {a : Addr} {ds : List PyData} (h : Feeds c full F H (Itt c.K a) ds) : Feeds c full F H (IteT c.K a) (enumd ds) := by
  refine ⟨fun F1 H1 q i => ?_⟩
  obtain ⟨h1, h2, h3⟩ := h.run F1 H1 q i
  have hl : (enumd ds).length = ds.length := by simp [enumd]
  rw [hl]
  refine ⟨fun hi => ?_, fun d hd x H2 y => ?_, fun hi => ?_⟩
  · obtain ⟨xs, x, a1, a2⟩ := h1 hi
    exact ⟨xs, x, a1, a2⟩
  · obtain ⟨T, x', rfl, hT, rfl, y⟩ : ∃ T x', x = V.ref T ∧ H1 T = none ∧ H2 = upd H1 T (.tup [.int (i : Nat), x']) ∧ ∀ xs, SqT c.K H1 a xs → xs[i]? = some x' := y
    have hi : i < ds.length := by
      have := (List.getElem?_eq_some_iff.mp hd).1
      rw [hl] at this; exact this
    have e : ds[i]? = some ds[i] := by simp [hi]
    have e2 : (enumd ds)[i]? = some (.tuple [.int i, ds[i]]) := by simp [enumd, hi]
    rw [e2] at hd; cases hd
    obtain ⟨F2, e3, dp⟩ := h2 _ e x' H1 ⟨rfl, y⟩
    have e4 := Ext.newF (u := .tup [.int (i : Nat), x']) e3.ok hT (fun ps z => by cases z)
    exact ⟨_, e3.trans e4, .tup (SqT.of upd_same) (.cons (.int _) (.cons (dp_mono e4.fkT _ _ dp) .nil))⟩
  · obtain ⟨xs, a1, a2⟩ := h3 hi
    exact ⟨xs, a1, a2⟩
end Cs

set_option maxHeartbeats 8000000
/-! The text against the core language: expressions. -/
noncomputable section
namespace Cs
open PySem PySem.Spec PyProof.Rows L2 GxR Ce Gx
section
variable {c : Cfg} {ct : Ctl} {Φ : Fns} {lf : Nat} {X : Cx} {sc : Scope} {fnb : Str → Bool} {g : Bool}

theorem pt_of (C : CtxOk c ct Φ lf X sc fnb g) {e : Expr} {ex : Ex} (h : PE X e (tE c Φ .bo ex)) (hp : plainT e = true) : PT X e (tT c Φ ex) :=
  PT.imp (pt_truth h (plainT_ok hp)) fun σ H Q ⟨F, ρ, b, s, hb, k⟩ => by
    unfold tst at hb
    rw [Option.bind_eq_some_iff] at hb
    obtain ⟨x, ea, hb⟩ := hb
    exact ev1 s ea fun v F1 H1 e r => ⟨b, tru_data C.K e.ok r hb, k H1 F1 e⟩
theorem good_of (C : CtxOk c ct Φ lf X sc fnb g) {e : Expr} {ex : Ex} (h : ∀ m : Md, (m = .nw → isNew ex = true) → PE X e (tE c Φ m ex)) (hp : plainT e = true) : Good c Φ X e ex :=
  ⟨h, pt_of C (h .bo (fun z => by cases z)) hp, fun z => by cases e <;> first | (cases z; done) | (simp [plainT] at hp; done)⟩

theorem good_const (C : CtxOk c ct Φ lf X sc fnb g) {e : Expr} {k0 : Const} {v : V} {d : PyData} {ex : Ex} (h : dConst e = some k0) (hp : ∀ k p, PE X (.Constant k0 k p) (tC v)) (hd : ∀ F, Dp c.K F v d) (hm : isMut d = false) (he : ∀ ρ b, ev Φ ex ρ b = some d) : Good c Φ X e ex := by
  obtain ⟨k, p, rfl⟩ := dConst_ok h
  refine good_of C (fun m _ => PE.imp (hp k p) fun σ H Q ⟨F, ρ, d', s, h, kk⟩ => ?_) rfl
  rw [he] at h
  cases h
  exact fin_val (Ext.refl s.ok) (hd F) (fun _ => hm) kk
theorem good_var (C : CtxOk c ct Φ lf X sc fnb g) {i : Nat} {e : Expr} (h : chk ct (.var i) sc fnb g e = true) : Good c Φ X e (.var i) := by
  unfold chk at h
  split at h
  · rename_i x hx
    rw [Bool.and_eq_true, Bool.and_eq_true, decide_eq_true_eq] at h
    obtain ⟨p, rfl⟩ := xName_ok hx
    obtain ⟨n1, n2, n3⟩ := okN_ok h.2.2
    refine good_of C (fun m hm => PE.imp (pe_var (by rw [C.N]; exact h.1) (by rw [C.sc]; exact visB_ok h.2.1) n1 n2) fun σ H Q ⟨F, ρ, d, s, h, k⟩ => ?_) rfl
    simp only [ev] at h
    split at h
    · rename_i d' hd'
      cases h
      obtain ⟨v, h1, h2⟩ := s.slot i d hd'
      refine ⟨v, h1, fin_val (Ext.refl s.ok) h2 (fun z => absurd (hm z) (by simp [isNew])) k⟩
    · rename_i d' hd'
      split at h <;> try (cases h; done)
      rename_i hb
      cases h
      obtain ⟨a, o, h1, h2, h3, h4⟩ := s.own i d hd'
      refine ⟨.ref a, h1, ?_⟩
      cases m <;> try (cases hb; done)
      refine k _ _ _ (Ext.refl s.ok) ?_
      cases o <;> try exact h4.elim
      cases d <;> try exact h4.elim
      exact .inr ⟨a, _, _, rfl, rfl, h3, h4⟩
    · cases h
  · cases h
theorem good_bin (C : CtxOk c ct Φ lf X sc fnb g) {op : Bop} {a b : Ex} {e : Expr} (iha : ∀ e, chk ct a sc fnb g e = true → Good c Φ X e a) (ihb : ∀ e, chk ct b sc fnb g e = true → Good c Φ X e b) (h : chk ct (.bin op a b) sc fnb g e = true) : Good c Φ X e (.bin op a b) := by
  unfold chk at h
  split at h
  · rename_i a' o b' hx
    rw [Bool.and_eq_true, Bool.and_eq_true, decide_eq_true_eq] at h
    obtain ⟨rfl, h1, h2⟩ := h
    obtain ⟨p, rfl⟩ := dBin_ok hx
    refine good_of C (fun m _ => PE.imp (pe_op (op_bin C.K op (m := m)) ((iha _ h1).pe .bo (fun z => by cases z)) ((ihb _ h2).pe .bo (fun z => by cases z))) fun σ H Q ⟨F, ρ, d, s, h, k⟩ => ?_) rfl
    simp only [ev, Option.bind_eq_some_iff] at h
    obtain ⟨x, ea, y, eb, hf⟩ := h
    exact ev2 s ea eb fun v w F2 H2 e r1 r2 => ⟨F2, x, y, d, e.ok, r1, r2, hf, kont e k⟩
  · cases h
theorem good_neg (C : CtxOk c ct Φ lf X sc fnb g) {a : Ex} {e : Expr} (iha : ∀ e, chk ct a sc fnb g e = true → Good c Φ X e a) (h : chk ct (.neg a) sc fnb g e = true) : Good c Φ X e (.neg a) := by
  unfold chk at h
  split at h
  · rename_i o a' hx
    rw [Bool.and_eq_true, decide_eq_true_eq] at h
    obtain ⟨rfl, h1⟩ := h
    obtain ⟨p, rfl⟩ := dUn_ok hx
    refine good_of C (fun m _ => PE.imp (pe_un un_neg ((iha _ h1).pe .bo (fun z => by cases z))) fun σ H Q ⟨F, ρ, d, s, h, k⟩ => ?_) rfl
    simp only [ev, Option.bind_eq_some_iff] at h
    obtain ⟨x, ea, hf⟩ := h
    cases x <;> try (cases hf; done)
    cases hf
    exact ev1 s ea fun v F1 H1 e r => by
      cases r.int
      exact ⟨_, rfl, fin_int e.ok (kont e k)⟩
  · cases h
theorem good_not (C : CtxOk c ct Φ lf X sc fnb g) {a : Ex} {e : Expr} (iha : ∀ e, chk ct a sc fnb g e = true → Good c Φ X e a) (h : chk ct (.not a) sc fnb g e = true) : Good c Φ X e (.not a) := by
  unfold chk at h
  split at h
  · rename_i o a' hx
    rw [Bool.and_eq_true, decide_eq_true_eq] at h
    obtain ⟨rfl, h1⟩ := h
    obtain ⟨p, rfl⟩ := dUn_ok hx
    refine ⟨fun m _ => PE.imp (pe_notT ((iha _ h1).pe .bo (fun z => by cases z))) fun σ H Q ⟨F, ρ, d, s, h, k⟩ => ?_, PT.imp (pt_not (iha _ h1).pt) fun σ H Q ⟨F, ρ, b, s, h, k⟩ => ?_, fun z => by cases z⟩
    · simp only [ev, Option.bind_eq_some_iff, Option.map_eq_some_iff] at h
      obtain ⟨x, ea, b, hb, rfl⟩ := h
      exact ev1 s ea fun v F1 H1 e r => ⟨b, tru_data C.K e.ok r hb, fin_bl e.ok (kont e k)⟩
    · simp only [tst, ev, Option.bind_eq_some_iff, Option.map_eq_some_iff] at h
      obtain ⟨y, ⟨x, ea, t, hb, rfl⟩, hy⟩ := h
      cases hy
      exact ⟨F, ρ, t, s, by simp only [tst, Option.bind_eq_some_iff]; exact ⟨x, ea, hb⟩, fun H' F' e => k H' F' e⟩
  · cases h
theorem good_and (C : CtxOk c ct Φ lf X sc fnb g) {a b : Ex} {e : Expr} (iha : ∀ e, chk ct a sc fnb g e = true → Good c Φ X e a) (ihb : ∀ e, chk ct b sc fnb g e = true → Good c Φ X e b) (h : chk ct (.and a b) sc fnb g e = true) : Good c Φ X e (.and a b) := by
  unfold chk at h
  split at h
  · rename_i o a' b' hx
    rw [Bool.and_eq_true, Bool.and_eq_true, decide_eq_true_eq] at h
    obtain ⟨rfl, h1, h2⟩ := h
    have ga := iha _ h1
    have gb := ihb _ h2
    have main : ∃ x y r p, e = .BoolOp .And (x :: y :: r) p ∧ x = a' ∧ (∀ m : Md, (m = .nw → isNew b = true) → PE X (.BoolOp .And (y :: r) p) (tE c Φ m b)) ∧ PW X (.BoolOp .And (y :: r) p) (tT c Φ b) := by
      rcases dBool_ok hx with ⟨p, rfl⟩ | ⟨p, y, c', r, rfl, rfl⟩
      · exact ⟨_, _, _, _, rfl, rfl, fun m hm => pe_one (gb.pe m hm), pw_and1 gb.pt⟩
      · exact ⟨_, _, _, _, rfl, rfl, fun m hm => gb.pe m hm, gb.pw rfl⟩
    obtain ⟨x, y, r, p, rfl, rfl, pb, wb⟩ := main
    have W : PW X (.BoolOp .And (x :: y :: r) p) (tT c Φ (.and a b)) := PW.imp (pw_and ga.pt wb) fun σ H Q ⟨F, ρ, t, s, h, k⟩ => by
      simp only [tst, ev, Option.bind_eq_some_iff] at h
      obtain ⟨z, ⟨x0, ea, hz⟩, ht⟩ := h
      cases x0 <;> try (cases hz; done)
      rename_i b0
      refine ⟨F, ρ, b0, s, by simp only [tst, Option.bind_eq_some_iff]; exact ⟨_, ea, rfl⟩, fun H1 F1 e1 => ?_⟩
      cases b0 with
      | false =>
        cases hz; cases ht
        exact k _ _ e1
      | true => exact ⟨F1, ρ, t, s.ext e1, by simp only [tst, Option.bind_eq_some_iff]; exact ⟨z, hz, ht⟩, fun H' F' e2 => k _ _ (e1.trans e2)⟩
    refine ⟨fun m hm => PE.imp (pe_and (ga.pe .bo (fun z => by cases z)) (pb m (fun z => absurd (hm z) (by simp [isNew])))) fun σ H Q ⟨F, ρ, d, s, h, k⟩ => ?_, W.pt, fun _ => W⟩
    simp only [ev, Option.bind_eq_some_iff] at h
    obtain ⟨x0, ea, hz⟩ := h
    cases x0 <;> try (cases hz; done)
    rename_i b0
    refine ev1 s ea fun v F1 H1 e1 r1 => ⟨b0, r1.bl, ?_⟩
    cases b0 with
    | false => cases hz; exact fin_bl e1.ok (kont e1 k)
    | true => exact ⟨F1, ρ, d, s.ext e1, hz, kont e1 k⟩
  · cases h
theorem good_or (C : CtxOk c ct Φ lf X sc fnb g) {a b : Ex} {e : Expr} (iha : ∀ e, chk ct a sc fnb g e = true → Good c Φ X e a) (ihb : ∀ e, chk ct b sc fnb g e = true → Good c Φ X e b) (h : chk ct (.or a b) sc fnb g e = true) : Good c Φ X e (.or a b) := by
  unfold chk at h
  split at h
  · rename_i o a' b' hx
    rw [Bool.and_eq_true, Bool.and_eq_true, decide_eq_true_eq] at h
    obtain ⟨rfl, h1, h2⟩ := h
    have ga := iha _ h1
    have gb := ihb _ h2
    have main : ∃ x y r p, e = .BoolOp .Or (x :: y :: r) p ∧ x = a' ∧ (∀ m : Md, (m = .nw → isNew b = true) → PE X (.BoolOp .Or (y :: r) p) (tE c Φ m b)) ∧ PW X (.BoolOp .Or (y :: r) p) (tT c Φ b) := by
      rcases dBool_ok hx with ⟨p, rfl⟩ | ⟨p, y, c', r, rfl, rfl⟩
      · exact ⟨_, _, _, _, rfl, rfl, fun m hm => pe_one (gb.pe m hm), pw_or1 gb.pt⟩
      · exact ⟨_, _, _, _, rfl, rfl, fun m hm => gb.pe m hm, gb.pw rfl⟩
    obtain ⟨x, y, r, p, rfl, rfl, pb, wb⟩ := main
    have W : PW X (.BoolOp .Or (x :: y :: r) p) (tT c Φ (.or a b)) := PW.imp (pw_or ga.pt wb) fun σ H Q ⟨F, ρ, t, s, h, k⟩ => by
      simp only [tst, ev, Option.bind_eq_some_iff] at h
      obtain ⟨z, ⟨x0, ea, hz⟩, ht⟩ := h
      cases x0 <;> try (cases hz; done)
      rename_i b0
      refine ⟨F, ρ, b0, s, by simp only [tst, Option.bind_eq_some_iff]; exact ⟨_, ea, rfl⟩, fun H1 F1 e1 => ?_⟩
      cases b0 with
      | true =>
        cases hz; cases ht
        exact k _ _ e1
      | false => exact ⟨F1, ρ, t, s.ext e1, by simp only [tst, Option.bind_eq_some_iff]; exact ⟨z, hz, ht⟩, fun H' F' e2 => k _ _ (e1.trans e2)⟩
    refine ⟨fun m hm => PE.imp (pe_or (ga.pe .bo (fun z => by cases z)) (pb m (fun z => absurd (hm z) (by simp [isNew])))) fun σ H Q ⟨F, ρ, d, s, h, k⟩ => ?_, W.pt, fun _ => W⟩
    simp only [ev, Option.bind_eq_some_iff] at h
    obtain ⟨x0, ea, hz⟩ := h
    cases x0 <;> try (cases hz; done)
    rename_i b0
    refine ev1 s ea fun v F1 H1 e1 r1 => ⟨b0, r1.bl, ?_⟩
    cases b0 with
    | true => cases hz; exact fin_bl e1.ok (kont e1 k)
    | false => exact ⟨F1, ρ, d, s.ext e1, hz, kont e1 k⟩
  · cases h
theorem good_cmp (C : CtxOk c ct Φ lf X sc fnb g) {op : Cop} {a b : Ex} {e : Expr} (iha : ∀ e, chk ct a sc fnb g e = true → Good c Φ X e a) (ihb : ∀ e, chk ct b sc fnb g e = true → Good c Φ X e b) (h : chk ct (.cmp op a b) sc fnb g e = true) : Good c Φ X e (.cmp op a b) := by
  unfold chk at h
  split at h
  · rename_i a' o b' hx
    rw [Bool.and_eq_true, Bool.and_eq_true, Bool.and_eq_true, decide_eq_true_eq, Bool.not_eq_true'] at h
    obtain ⟨rfl, hm, h1, h2⟩ := h
    obtain ⟨p, rfl⟩ := dCmp_ok hx
    have pa := (iha _ h1).pe .bo (fun z => by cases z)
    have pb := (ihb _ h2).pe .bo (fun z => by cases z)
    have hu := C.hu
    refine ⟨fun m _ => PE.imp (pe_cmpR (op_cmp C.K (by omega) op) pa pb hm) fun σ H Q ⟨F, ρ, d, s, h, k⟩ => ?_, PT.imp (pt_cmpR (op_cmp C.K (by omega) op) pa pb hm) fun σ H Q ⟨F, ρ, t, s, h, k⟩ => ?_, fun z => by cases z⟩
    · simp only [ev, Option.bind_eq_some_iff, Option.map_eq_some_iff] at h
      obtain ⟨x, ea, y, eb, t, hf, rfl⟩ := h
      exact ev2 s ea eb fun v w F2 H2 e r1 r2 => ⟨F2, x, y, t, e.ok, r1, r2, hf, fin_bl e.ok (kont e k)⟩
    · simp only [tst, ev, Option.bind_eq_some_iff, Option.map_eq_some_iff] at h
      obtain ⟨z, ⟨x, ea, y, eb, t', hf, rfl⟩, ht⟩ := h
      cases ht
      exact ev2 s ea eb fun v w F2 H2 e r1 r2 => ⟨F2, x, y, t, e.ok, r1, r2, hf, t, rfl, k _ _ e⟩
  · cases h
theorem good_ch2 (C : CtxOk c ct Φ lf X sc fnb g) {op op' : Cop} {a b d0 : Ex} {e : Expr} (iha : ∀ e, chk ct a sc fnb g e = true → Good c Φ X e a) (ihb : ∀ e, chk ct b sc fnb g e = true → Good c Φ X e b) (ihc : ∀ e, chk ct d0 sc fnb g e = true → Good c Φ X e d0) (h : chk ct (.ch2 op op' a b d0) sc fnb g e = true) : Good c Φ X e (.ch2 op op' a b d0) := by
  unfold chk at h
  split at h
  · rename_i a' o b' o' c' hx
    rw [Bool.and_eq_true, Bool.and_eq_true, Bool.and_eq_true, Bool.and_eq_true, Bool.and_eq_true, decide_eq_true_eq, decide_eq_true_eq, Bool.not_eq_true'] at h
    obtain ⟨⟨rfl, rfl⟩, hm, h1, h2, h3⟩ := h
    obtain ⟨p, rfl⟩ := dCmp2_ok hx
    have pa := (iha _ h1).pe .bo (fun z => by cases z)
    have pb := (ihb _ h2).pe .bo (fun z => by cases z)
    have pc := (ihc _ h3).pe .bo (fun z => by cases z)
    have hu := C.hu
    have cmn : ∀ {σ H} {F ρ} {t : Bool} {Q : VK}, StE c F H σ ρ → ((ev Φ a ρ true).bind fun x => (ev Φ b ρ true).bind fun y => (cmpop op x y).bind fun t => if t = true then (ev Φ d0 ρ true).bind fun z => (cmpop op' y z).map PyData.bool else some (.bool false)) = some (.bool t) → (∀ F' H', Ext c F H F' H' → Q (.bl t) H') →
        tChain (rC c op) (rC c op') (tE c Φ .bo a) (tE c Φ .bo b) (tE c Φ .bo d0) σ H Q := fun {σ H F ρ t Q} s h k => by
      simp only [Option.bind_eq_some_iff] at h
      obtain ⟨x, ea, y, eb, t0, hf, hz⟩ := h
      refine ev2 s ea eb fun v w F2 H2 e r1 r2 => ⟨F2, x, y, t0, e.ok, r1, r2, hf, t0, rfl, ?_⟩
      cases t0 with
      | false => cases hz; exact k _ _ e
      | true =>
        simp only [if_true, Option.bind_eq_some_iff, Option.map_eq_some_iff, PyData.bool.injEq] at hz ⊢
        obtain ⟨z, ec, t1, hf2, rfl⟩ := hz
        exact ev1 (s.ext e) ec fun u F3 H3 e3 r3 => ⟨F3, y, z, t1, e3.ok, r2.ext e3, r3, hf2, k _ _ (e.trans e3)⟩
    refine ⟨fun m _ => PE.imp (pe_chain (op_cmp C.K (by omega) op) (op_cmp C.K (by omega) op') pa pb pc hm) fun σ H Q ⟨F, ρ, d, s, h, k⟩ => ?_, PT.imp (pt_chain (op_cmp C.K (by omega) op) (op_cmp C.K (by omega) op') pa pb pc hm) fun σ H Q ⟨F, ρ, t, s, h, k⟩ => ?_, fun z => by cases z⟩
    · simp only [ev] at h
      have hd : ∃ t, d = .bool t := by
        simp only [Option.bind_eq_some_iff] at h
        obtain ⟨x, ea, y, eb, t0, hf, hz⟩ := h
        cases t0 with
        | false => cases hz; exact ⟨_, rfl⟩
        | true =>
          simp only [if_true, Option.bind_eq_some_iff, Option.map_eq_some_iff] at hz
          obtain ⟨z, ec, t1, hf2, rfl⟩ := hz
          exact ⟨_, rfl⟩
      obtain ⟨t, rfl⟩ := hd
      exact cmn s h fun F' H' e => fin_bl e.ok (kont e k)
    · simp only [tst, Option.bind_eq_some_iff] at h
      obtain ⟨z, hz, ht⟩ := h
      simp only [ev] at hz
      have hd : ∃ t, z = .bool t := by
        simp only [Option.bind_eq_some_iff] at hz
        obtain ⟨x, ea, y, eb, t0, hf, hz⟩ := hz
        cases t0 with
        | false => cases hz; exact ⟨_, rfl⟩
        | true =>
          simp only [if_true, Option.bind_eq_some_iff, Option.map_eq_some_iff] at hz
          obtain ⟨z, ec, t1, hf2, rfl⟩ := hz
          exact ⟨_, rfl⟩
      obtain ⟨t', rfl⟩ := hd
      cases ht
      exact cmn s hz fun F' H' e => ⟨t, rfl, k _ _ e⟩
  · cases h
theorem good_isn (C : CtxOk c ct Φ lf X sc fnb g) {a : Ex} {e : Expr} (iha : ∀ e, chk ct a sc fnb g e = true → Good c Φ X e a) (h : chk ct (.isn a) sc fnb g e = true) : Good c Φ X e (.isn a) := by
  unfold chk at h
  split at h
  · rename_i a' o b' hx
    rw [Bool.and_eq_true, Bool.and_eq_true, decide_eq_true_eq, decide_eq_true_eq] at h
    obtain ⟨⟨rfl, hb⟩, h1⟩ := h
    obtain ⟨p, rfl⟩ := dCmp_ok hx
    obtain ⟨k0, p0, rfl⟩ := dConst_ok hb
    have pa := (iha _ h1).pe .bo (fun z => by cases z)
    refine ⟨fun m _ => PE.imp (pe_cmp (pc_isN pa)) fun σ H Q ⟨F, ρ, d, s, h, k⟩ => ?_, PT.imp (pt_cmp (pc_isN pa)) fun σ H Q ⟨F, ρ, t, s, h, k⟩ => ?_, fun z => by cases z⟩
    · simp only [ev, Option.map_eq_some_iff] at h
      obtain ⟨x, ea, rfl⟩ := h
      exact ev1 s ea fun v F1 H1 e r => by rw [r.non_iff]; exact fin_bl e.ok (kont e k)
    · simp only [tst, ev, Option.bind_eq_some_iff, Option.map_eq_some_iff] at h
      obtain ⟨z, ⟨x, ea, rfl⟩, ht⟩ := h
      cases ht
      exact ev1 s ea fun v F1 H1 e r => ⟨_, rfl, by rw [r.non_iff]; exact k _ _ e⟩
  · cases h
theorem good_nisn (C : CtxOk c ct Φ lf X sc fnb g) {a : Ex} {e : Expr} (iha : ∀ e, chk ct a sc fnb g e = true → Good c Φ X e a) (h : chk ct (.nisn a) sc fnb g e = true) : Good c Φ X e (.nisn a) := by
  unfold chk at h
  split at h
  · rename_i a' o b' hx
    rw [Bool.and_eq_true, Bool.and_eq_true, decide_eq_true_eq, decide_eq_true_eq] at h
    obtain ⟨⟨rfl, hb⟩, h1⟩ := h
    obtain ⟨p, rfl⟩ := dCmp_ok hx
    obtain ⟨k0, p0, rfl⟩ := dConst_ok hb
    have pa := (iha _ h1).pe .bo (fun z => by cases z)
    refine ⟨fun m _ => PE.imp (pe_cmp (pc_notN pa)) fun σ H Q ⟨F, ρ, d, s, h, k⟩ => ?_, PT.imp (pt_cmp (pc_notN pa)) fun σ H Q ⟨F, ρ, t, s, h, k⟩ => ?_, fun z => by cases z⟩
    · simp only [ev, Option.map_eq_some_iff] at h
      obtain ⟨x, ea, rfl⟩ := h
      exact ev1 s ea fun v F1 H1 e r => by rw [r.non_iff]; exact fin_bl e.ok (kont e k)
    · simp only [tst, ev, Option.bind_eq_some_iff, Option.map_eq_some_iff] at h
      obtain ⟨z, ⟨x, ea, rfl⟩, ht⟩ := h
      cases ht
      exact ev1 s ea fun v F1 H1 e r => ⟨_, rfl, by rw [r.non_iff]; exact k _ _ e⟩
  · cases h
theorem good_ife (C : CtxOk c ct Φ lf X sc fnb g) {d0 a b : Ex} {e : Expr} (ihc : ∀ e, chk ct d0 sc fnb g e = true → Good c Φ X e d0) (iha : ∀ e, chk ct a sc fnb g e = true → Good c Φ X e a) (ihb : ∀ e, chk ct b sc fnb g e = true → Good c Φ X e b) (h : chk ct (.ife d0 a b) sc fnb g e = true) : Good c Φ X e (.ife d0 a b) := by
  unfold chk at h
  split at h
  · rename_i c' a' b' hx
    rw [Bool.and_eq_true, Bool.and_eq_true] at h
    obtain ⟨h1, h2, h3⟩ := h
    obtain ⟨p, rfl⟩ := dIf_ok hx
    have gc := ihc _ h1
    have ga := iha _ h2
    have gb := ihb _ h3
    refine ⟨fun m hm => PE.imp (pe_ifExp gc.pt (ga.pe m (fun z => ?_)) (gb.pe m (fun z => ?_))) fun σ H Q ⟨F, ρ, d, s, h, k⟩ => ?_, PT.imp (pt_ife gc.pt ga.pt gb.pt) fun σ H Q ⟨F, ρ, t, s, h, k⟩ => ?_, fun z => by cases z⟩
    · have := hm z
      simp only [isNew, Bool.and_eq_true] at this
      exact this.1
    · have := hm z
      simp only [isNew, Bool.and_eq_true] at this
      exact this.2
    · simp only [ev, Option.bind_eq_some_iff] at h
      obtain ⟨x, ec, t, ht, hz⟩ := h
      refine ⟨F, ρ, t, s, by simp only [tst, Option.bind_eq_some_iff]; exact ⟨x, ec, ht⟩, fun H1 F1 e1 => ?_⟩
      cases t with
      | true => exact ⟨F1, ρ, d, s.ext e1, hz, kont e1 k⟩
      | false => exact ⟨F1, ρ, d, s.ext e1, hz, kont e1 k⟩
    · simp only [tst, ev, Option.bind_eq_some_iff] at h
      obtain ⟨z, ⟨x, ec, t0, ht, hz⟩, hw⟩ := h
      refine ⟨F, ρ, t0, s, by simp only [tst, Option.bind_eq_some_iff]; exact ⟨x, ec, ht⟩, fun H1 F1 e1 => ?_⟩
      cases t0 with
      | true => exact ⟨F1, ρ, t, s.ext e1, by simp only [tst, Option.bind_eq_some_iff]; exact ⟨z, hz, hw⟩, fun H' F' e2 => k _ _ (e1.trans e2)⟩
      | false => exact ⟨F1, ρ, t, s.ext e1, by simp only [tst, Option.bind_eq_some_iff]; exact ⟨z, hz, hw⟩, fun H' F' e2 => k _ _ (e1.trans e2)⟩
  · cases h
theorem good_sub (C : CtxOk c ct Φ lf X sc fnb g) {a b : Ex} {e : Expr} (iha : ∀ e, chk ct a sc fnb g e = true → Good c Φ X e a) (ihb : ∀ e, chk ct b sc fnb g e = true → Good c Φ X e b) (h : chk ct (.sub a b) sc fnb g e = true) : Good c Φ X e (.sub a b) := by
  unfold chk at h
  split at h
  · rename_i a' b' hx
    rw [Bool.and_eq_true] at h
    obtain ⟨h1, h2⟩ := h
    obtain ⟨⟨p, rfl⟩, hp⟩ := dSub_ok hx
    refine good_of C (fun m hm => ?_) rfl
    have hm' : m ≠ .nw := fun z => absurd (hm z) (by simp [isNew])
    refine PE.imp (pe_ix (ixr_data C.K (m := m)) ((iha _ h1).pe .bo (fun z => by cases z)) ((ihb _ h2).pe .bo (fun z => by cases z)) hp) fun σ H Q ⟨F, ρ, d, s, h, k⟩ => ?_
    simp only [ev, Option.bind_eq_some_iff] at h
    obtain ⟨x, ea, y, eb, hf⟩ := h
    refine ev2 s ea eb fun v w F2 H2 e r1 r2 => ⟨F2, x, y, d, e.ok, r1, r2, hf, ?_⟩
    cases m with
    | fr => exact kont e k
    | bo => exact kont e k
    | nw => exact absurd rfl hm'
  · cases h
theorem good_sl (C : CtxOk c ct Φ lf X sc fnb g) {a : Ex} {lo hi : Exo} {e : Expr} (iha : ∀ e, chk ct a sc fnb g e = true → Good c Φ X e a) (ihl : ∀ e, chkp ct lo sc fnb g e = true → PO X e (tP c Φ lo)) (ihh : ∀ e, chkp ct hi sc fnb g e = true → PO X e (tP c Φ hi)) (h : chk ct (.sl a lo hi) sc fnb g e = true) : Good c Φ X e (.sl a lo hi) := by
  unfold chk at h
  split at h
  · rename_i a' l' h' hx
    rw [Bool.and_eq_true, Bool.and_eq_true] at h
    obtain ⟨h1, h2, h3⟩ := h
    obtain ⟨p, q, rfl⟩ := dSl_ok hx
    refine good_of C (fun m hm => PE.imp (pe_slice (slr_data C.K (m := m)) ((iha _ h1).pe .bo (fun z => by cases z)) (ihl _ h2) (ihh _ h3)) fun σ H Q ⟨F, ρ, d, s, h, k⟩ => ?_) rfl
    simp only [ev, Option.bind_eq_some_iff] at h
    obtain ⟨x, ea, l, el, u, eu, hf⟩ := h
    exact ev1 s ea fun v F1 H1 e1 r1 => ⟨F1, ρ, l, s.ext e1, el, fun H2 F2 e2 => ⟨F2, ρ, u, (s.ext e1).ext e2, eu, fun H3 F3 e3 => ⟨F3, x, d, e3.ok, (r1.ext e2).ext e3, hf, kont (e1.trans (e2.trans e3)) k⟩⟩⟩
  · cases h
theorem good_b1 (C : CtxOk c ct Φ lf X sc fnb g) {b : B1} {a : Ex} {e : Expr} (iha : ∀ e, chk ct a sc fnb g e = true → Good c Φ X e a) (h : chk ct (.b1 b a) sc fnb g e = true) : Good c Φ X e (.b1 b a) := by
  unfold chk at h
  split at h
  · rename_i x a' hx
    rw [Bool.and_eq_true, Bool.and_eq_true] at h
    obtain ⟨hb, hs, h1⟩ := h
    obtain ⟨p, q, rfl⟩ := dOne_ok hx
    rw [chkB, Bool.and_eq_true, decide_eq_true_eq, glB, decide_eq_true_eq] at hb
    obtain ⟨rfl, hg⟩ := hb
    refine good_of C (fun m hm => ?_) rfl
    have pa := pa_cons ((iha _ h1).pe .bo (fun z => by cases z)) pa_nil (star_cons hs)
    have hall : [a'].all noStar = true := by simp [hs]
    have key : PE X (.Call (.Name (b1N b) p) [a'] [] q) (tCB (rB1 c m b) (tCons (tE c Φ .bo a) tNil)) := by
      refine pe_callF (f := b1Of b) ?_ (cr_b1 C.K b) (show X.env.scope.names.lookup _ = _ by rw [C.sc]; exact hg) (C.bi _ (by cases b <;> decide)) ?_ (by cases b <;> decide) (by cases b <;> decide) pa hall
      · cases b <;> first | exact .inl ⟨_, rfl⟩ | exact .inr ⟨_, rfl⟩
      · cases b <;> kernel_rfl
    refine PE.imp key fun σ H Q ⟨F, ρ, d, s, h, k⟩ => ?_
    simp only [ev, Option.bind_eq_some_iff] at h
    obtain ⟨x, ea, hf⟩ := h
    exact ev1 s ea fun v F1 H1 e r => ⟨F1, v, x, d, rfl, e.ok, r, hf, kont e k⟩
  · cases h
theorem good_bi (C : CtxOk c ct Φ lf X sc fnb g) {b : Bi} {a : Ex} {e : Expr} (iha : ∀ e, chk ct a sc fnb g e = true → Good c Φ X e a) (h : chk ct (.bi b a) sc fnb g e = true) : Good c Φ X e (.bi b a) := by
  unfold chk at h
  split at h
  · rename_i x a' hx
    rw [Bool.and_eq_true, Bool.and_eq_true] at h
    obtain ⟨hb, hs, h1⟩ := h
    obtain ⟨p, q, rfl⟩ := dOne_ok hx
    rw [chkB, Bool.and_eq_true, decide_eq_true_eq, glB, decide_eq_true_eq] at hb
    obtain ⟨rfl, hg⟩ := hb
    refine good_of C (fun m hm => ?_) rfl
    have pa := pa_cons ((iha _ h1).pe .bo (fun z => by cases z)) pa_nil (star_cons hs)
    have hall : [a'].all noStar = true := by simp [hs]
    have key : PE X (.Call (.Name (biN b) p) [a'] [] q) (tCB (rBi c m b) (tCons (tE c Φ .bo a) tNil)) := by
      refine pe_callF (f := biOf b) ?_ (cr_bi C.K C.calm C.hu b) (show X.env.scope.names.lookup _ = _ by rw [C.sc]; exact hg) (C.bi _ (by cases b <;> decide)) ?_ (by cases b <;> decide) (by cases b <;> decide) pa hall
      · cases b <;> first | exact .inl ⟨_, rfl⟩ | exact .inr ⟨_, rfl⟩
      · cases b <;> kernel_rfl
    refine PE.imp key fun σ H Q ⟨F, ρ, d, s, h, k⟩ => ?_
    simp only [ev, Option.bind_eq_some_iff] at h
    obtain ⟨x, ea, hf⟩ := h
    exact ev1 s ea fun v F1 H1 e r => ⟨F1, v, x, d, rfl, e.ok, r, hf, kont e k⟩
  · cases h
theorem good_st (C : CtxOk c ct Φ lf X sc fnb g) {l : Bool} {a : Ex} {e : Expr} (iha : ∀ e, chk ct a sc fnb g e = true → Good c Φ X e a) (h : chk ct (.st l a) sc fnb g e = true) : Good c Φ X e (.st l a) := by
  unfold chk at h
  split at h
  · rename_i x e' hx
    rw [Bool.and_eq_true] at h
    obtain ⟨hb, h⟩ := h
    split at h
    · rename_i y a' hy
      rw [Bool.and_eq_true, Bool.and_eq_true] at h
      obtain ⟨hb2, hs, h1⟩ := h
      obtain ⟨p, q, rfl⟩ := dOne_ok hx
      obtain ⟨p2, q2, rfl⟩ := dOne_ok hy
      rw [chkB, Bool.and_eq_true, decide_eq_true_eq, glB, decide_eq_true_eq] at hb hb2
      obtain ⟨rfl, hg⟩ := hb
      obtain ⟨rfl, hg2⟩ := hb2
      refine good_of C (fun m hm => ?_) rfl
      have pa := pa_cons ((iha _ h1).pe .bo (fun z => by cases z)) pa_nil (star_cons hs)
      have hall : [a'].all noStar = true := by simp [hs]
      have inner : PE X (.Call (.Name "set" p2) [a'] [] q2) (tCB (rSet c X.prog X.w) (tCons (tE c Φ .bo a) tNil)) :=
        pe_callF (f := .type "set") (.inr ⟨_, rfl⟩) (cr_setD C.K C.calm C.hu) (show X.env.scope.names.lookup _ = _ by rw [C.sc]; exact hg2) (C.bi _ (by decide)) (by kernel_rfl) (by decide) (by decide) pa hall
      have pb := pa_cons inner pa_nil (by rfl)
      have key : PE X (.Call (.Name (stN l) p) [.Call (.Name "set" p2) [a'] [] q2] [] q) (tCB (fun xs H Q => rSetQ c X.prog X.w l Q H xs) (tCons (tCB (rSet c X.prog X.w) (tCons (tE c Φ .bo a) tNil)) tNil)) := by
        cases l with
        | true => exact pe_callF (f := .builtin "len") (.inl ⟨_, rfl⟩) (cr_setL C.K C.calm C.hu) (show X.env.scope.names.lookup _ = _ by rw [C.sc]; exact hg) (C.bi _ (by decide)) (by kernel_rfl) (by decide) (by decide) pb (by rfl)
        | false => exact pe_callF (f := .builtin "sorted") (.inl ⟨_, rfl⟩) (cr_setS C.K C.calm C.hu) (show X.env.scope.names.lookup _ = _ by rw [C.sc]; exact hg) (C.bi _ (by decide)) (by kernel_rfl) (by decide) (by decide) pb (by rfl)
      refine PE.imp key fun σ H Q ⟨F, ρ, d, s, h, k⟩ => ?_
      simp only [ev, Option.bind_eq_some_iff, Option.map_eq_some_iff] at h
      obtain ⟨x, ea, ds, hs1, es, hd, rfl⟩ := h
      refine ev1 s ea fun v F1 H1 e r => ⟨F1, v, x, ds, es, rfl, e.ok, r, hs1, hd, fun p o hn nt so => ?_⟩
      have e2 := Ext.new (u := o) e.ok hn nt
      refine ⟨F1, p, o, es, rfl, upd_same, e2.ok, so, ?_⟩
      cases l with
      | true => exact fin_int e2.ok (kont (e.trans e2) k)
      | false => exact fun q ys hn2 hy => fin_lst (Ext.refl e2.ok) hn2 hy (kont (e.trans e2) k)
    · cases h
  · cases h
theorem good_b2 (C : CtxOk c ct Φ lf X sc fnb g) {b : B2} {a a2 : Ex} {e : Expr} (iha : ∀ e, chk ct a sc fnb g e = true → Good c Φ X e a) (ihb : ∀ e, chk ct a2 sc fnb g e = true → Good c Φ X e a2) (h : chk ct (.b2 b a a2) sc fnb g e = true) : Good c Φ X e (.b2 b a a2) := by
  unfold chk at h
  split at h
  · rename_i x a' b' hx
    rw [Bool.and_eq_true, Bool.and_eq_true, Bool.and_eq_true, Bool.and_eq_true] at h
    obtain ⟨hb, ⟨hs, hs2⟩, h1, h2⟩ := h
    obtain ⟨p, q, rfl⟩ := dTwo_ok hx
    rw [chkB, Bool.and_eq_true, decide_eq_true_eq, glB, decide_eq_true_eq] at hb
    obtain ⟨rfl, hg⟩ := hb
    refine good_of C (fun m hm => ?_) rfl
    have pa := pa_cons ((iha _ h1).pe .bo (fun z => by cases z)) (pa_cons ((ihb _ h2).pe .bo (fun z => by cases z)) pa_nil (star_cons hs2)) (star_cons hs)
    have hall : [a', b'].all noStar = true := by simp [hs, hs2]
    have key : PE X (.Call (.Name (b2N b) p) [a', b'] [] q) (tCB (rB2 c m b) (tCons (tE c Φ .bo a) (tCons (tE c Φ .bo a2) tNil))) := by
      refine pe_callF (f := b2Of b) ?_ (cr_b2 C.calm b) (show X.env.scope.names.lookup _ = _ by rw [C.sc]; exact hg) (C.bi _ (by cases b <;> decide)) ?_ (by cases b <;> decide) (by cases b <;> decide) pa hall
      · cases b <;> first | exact .inl ⟨_, rfl⟩ | exact .inr ⟨_, rfl⟩
      · cases b <;> kernel_rfl
    refine PE.imp key fun σ H Q ⟨F, ρ, d, s, h, k⟩ => ?_
    simp only [ev, Option.bind_eq_some_iff] at h
    obtain ⟨x, ea, y, eb, hf⟩ := h
    exact ev2 s ea eb fun v w F1 H1 e r r2 => ⟨F1, v, w, x, y, d, rfl, e.ok, r, r2, hf, kont e k⟩
  · cases h
theorem good_isi (C : CtxOk c ct Φ lf X sc fnb g) {T : Tyn} {a : Ex} {e : Expr} (iha : ∀ e, chk ct a sc fnb g e = true → Good c Φ X e a) (h : chk ct (.isi T a) sc fnb g e = true) : Good c Φ X e (.isi T a) := by
  unfold chk at h
  split at h
  · rename_i x a' b' hx
    rw [Bool.and_eq_true, Bool.and_eq_true, Bool.and_eq_true] at h
    obtain ⟨⟨hb, hb2⟩, hs, h1⟩ := h
    obtain ⟨p, q, rfl⟩ := dTwo_ok hx
    rw [chkB, Bool.and_eq_true, decide_eq_true_eq, glB, decide_eq_true_eq] at hb
    obtain ⟨rfl, hg⟩ := hb
    split at hb2 <;> try (cases hb2; done)
    rename_i y hy
    obtain ⟨p2, rfl⟩ := xName_ok hy
    rw [chkB, Bool.and_eq_true, decide_eq_true_eq, glB, decide_eq_true_eq] at hb2
    obtain ⟨rfl, hg2⟩ := hb2
    refine good_of C (fun m hm => ?_) rfl
    have ty : PE X (.Name (tyN T) p2) (tC (.ty (tyName T))) := pe_bltn (u := .type (tyName T)) (show X.env.scope.names.lookup _ = _ by rw [C.sc]; exact hg2) (C.bi _ (by cases T <;> decide)) (by cases T <;> kernel_rfl) (by rfl) (by cases T <;> decide) (by cases T <;> decide)
    have pa := pa_cons ((iha _ h1).pe .bo (fun z => by cases z)) (pa_cons ty pa_nil rfl) (star_cons hs)
    have hall : [a', .Name (tyN T) p2].all noStar = true := by rw [List.all_cons, hs]; rfl
    have key : PE X (.Call (.Name "isinstance" p) [a', .Name (tyN T) p2] [] q) (tCB (rIsT c T) (tCons (tE c Φ .bo a) (tCons (tC (.ty (tyName T))) tNil))) :=
      pe_callF (f := .builtin "isinstance") (.inl ⟨_, rfl⟩) (cr_isT C.K T) (show X.env.scope.names.lookup _ = _ by rw [C.sc]; exact hg) (C.bi _ (by decide)) (by kernel_rfl) (by decide) (by decide) pa hall
    refine PE.imp key fun σ H Q ⟨F, ρ, d, s, h, k⟩ => ?_
    simp only [ev, Option.bind_eq_some_iff, Option.map_eq_some_iff] at h
    obtain ⟨x, ea, t, hf, rfl⟩ := h
    exact ev1 s ea fun v F1 H1 e r => ⟨F1, v, x, t, rfl, e.ok, r, hf, fin_bl e.ok (kont e k)⟩
  · cases h
theorem good_tup (C : CtxOk c ct Φ lf X sc fnb g) {es : Exs} {e : Expr} (ih : ∀ xs, chks ct es sc fnb g xs = true → PA X xs (tA c Φ es)) (h : chk ct (.tup es) sc fnb g e = true) : Good c Φ X e (.tup es) := by
  unfold chk at h
  split at h
  · rename_i xs hx
    rw [Bool.and_eq_true] at h
    obtain ⟨k0, p, rfl⟩ := dTup_ok hx
    refine good_of C (fun m _ => PE.imp (pe_tup (ih _ h.2)) fun σ H Q ⟨F, ρ, d, s, h, k⟩ => ?_) rfl
    simp only [ev, Option.bind_eq_some_iff] at h
    obtain ⟨ds, hds, hd⟩ := h
    rw [gd_some] at hd
    obtain ⟨hl, hd⟩ := hd
    cases hd
    exact ⟨F, ρ, ds, s, hds, fun vs H1 F1 e1 a1 => ⟨by rw [DpAll.length a1, ← lim_eq]; exact hl, fun p hn => fin_tup e1 hn a1 k⟩⟩
  · cases h
theorem good_lst (C : CtxOk c ct Φ lf X sc fnb g) {es : Exs} {e : Expr} (ih : ∀ xs, chks ct es sc fnb g xs = true → PA X xs (tA c Φ es)) (h : chk ct (.lst es) sc fnb g e = true) : Good c Φ X e (.lst es) := by
  unfold chk at h
  split at h
  · rename_i xs hx
    rw [Bool.and_eq_true] at h
    obtain ⟨p, rfl⟩ := dLst_ok hx
    refine good_of C (fun m _ => PE.imp (pe_lst (ih _ h.2)) fun σ H Q ⟨F, ρ, d, s, h, k⟩ => ?_) rfl
    simp only [ev, Option.bind_eq_some_iff] at h
    obtain ⟨ds, hds, hd⟩ := h
    rw [gd_some] at hd
    obtain ⟨hl, hd⟩ := hd
    cases hd
    exact ⟨F, ρ, ds, s, hds, fun vs H1 F1 e1 a1 => ⟨by rw [DpAll.length a1, ← lim_eq]; exact hl, fun p hn => fin_lst e1 hn a1 k⟩⟩
  · cases h
theorem passes0 (X : Cx) : Passes CX0 X (fun _ _ _ => False) := fun _ _ _ _ _ _ _ h => h.elim
theorem good_call (C : CtxOk c ct Φ lf X sc fnb g) {f : Nat} {es : Exs} {e : Expr} (ih : ∀ xs, chks ct es sc fnb g xs = true → PA X xs (tA c Φ es)) (h : chk ct (.call f es) sc fnb g e = true) : Good c Φ X e (.call f es) := by
  unfold chk at h
  split at h
  · rename_i x xs hx
    rw [Bool.and_eq_true, Bool.and_eq_true, Bool.and_eq_true, Bool.and_eq_true, decide_eq_true_eq, glB, decide_eq_true_eq] at h
    obtain ⟨⟨hf, hg, hn⟩, hs, h1⟩ := h
    obtain ⟨p, q, rfl⟩ := dCall_ok hx
    obtain ⟨n1, n2, n3⟩ := okN_ok hn
    obtain ⟨fd, a, ps, m1, m2, m3, m4, m5⟩ := (C.fns x f hf).ex
    have hg' : Gl X x := show X.env.scope.names.lookup _ = _ by rw [C.sc]; exact hg
    refine good_of C (fun m hm => ?_) rfl
    have hm' : m ≠ .nw := fun z => absurd (hm z) (by simp [isNew])
    have key : PE X (.Call (.Name x p) xs [] q) (tCall (spD c Φ f ps.length) [] (fun _ _ _ => False) (tA c Φ es)) := by
      cases xs with
      | nil =>
        refine PE.imp (pe_call0 m4 C.room0 hg' m1 m2 m3 .nil (passes0 X) n1) fun σ H Q h => ?_
        obtain ⟨F, ρ, ds, s, hds, k⟩ := h
        have : ds = [] := by
          cases es with
          | nil => cases hds; rfl
          | cons e es => simp [chks] at h1
        subst this
        exact k [] H F (Ext.refl s.ok) .nil
      | cons x0 xs =>
        have hs' := hs
        rw [List.all_cons, Bool.and_eq_true] at hs'
        exact pe_call m4 C.room0 hg' m1 m2 m3 .nil (passes0 X) (ih _ h1) n1 (star_cons hs'.1) (star_any hs'.2)
    refine PE.imp key fun σ H Q ⟨F, ρ, d, s, h, k⟩ => ?_
    simp only [ev, Option.bind_eq_some_iff] at h
    obtain ⟨ds, hds, hd⟩ := h
    refine ⟨F, ρ, ds, s, hds, fun vs H1 F1 e1 a1 => ⟨by rw [List.append_nil, DpAll.length a1]; exact m5 _ _ hd, F1, ds, d, e1.ok, by rw [List.append_nil]; exact a1, hd, fun v H' F' e2 dp => k v H' F' (e1.trans e2) ?_⟩⟩
    cases m with
    | fr => exact dp
    | bo => exact .inl dp
    | nw => exact absurd rfl hm'
  · cases h
end
end Cs

set_option maxHeartbeats 8000000
/-! The text against the core language: the whole of expressions. -/
noncomputable section
namespace Cs
open PySem PySem.Spec PyProof.Rows L2 GxR Ce Gx
section
variable {c : Cfg} {ct : Ctl} {Φ : Fns} {lf : Nat} {X : Cx} {sc : Scope} {fnb : Str → Bool} {g : Bool}
theorem good_rev (C : CtxOk c ct Φ lf X sc fnb g) {a : Ex} {e : Expr} (iha : ∀ e, chk ct a sc fnb g e = true → Good c Φ X e a) (h : chk ct (.rev a) sc fnb g e = true) : Good c Φ X e (.rev a) := by
  unfold chk at h
  split at h
  · rename_i a' hx
    obtain ⟨k0, p1, p2, p3, p, rfl⟩ := dRev_ok hx
    refine good_of C (fun m hm => PE.imp (pe_revA ((iha _ h).pe .bo (fun z => by cases z))) fun σ H Q ⟨F, ρ, d, s, h, k⟩ => ?_) rfl
    simp only [ev, Option.bind_eq_some_iff] at h
    obtain ⟨x, ea, hf⟩ := h
    refine ev1 s ea fun v F1 H1 e r => ?_
    cases x <;> try (simp [revd] at hf; done)
    · cases hf
      obtain ⟨a, xs, rfl, s1, a1⟩ := r.lst e.ok
      exact ⟨a, xs, rfl, .inl ⟨C.K ▸ s1, fun p hn => fin_lst e hn (DpAll.reverse a1) k⟩⟩
    · cases hf
      obtain ⟨a, xs, rfl, s1, a1, _⟩ := r.tup e.ok
      exact ⟨a, xs, rfl, .inr ⟨C.K ▸ s1, fun p hn => fin_tup e hn (DpAll.reverse a1) k⟩⟩
  · cases h
theorem rng_some {a b : Int} {ds : List PyData} (h : rng a b = some ds) : (-(2 ^ 62) ≤ a ∧ a < 2 ^ 62 ∧ -(2 ^ 62) ≤ b ∧ b < 2 ^ 62) ∧ (b - a).toNat ≤ LIM ∧ ds = (List.range (b - a).toNat).map fun k => PyData.int (a + (k : Nat)) := by
  unfold rng at h
  rw [gd_some] at h
  obtain ⟨hz, h⟩ := h
  cases h
  exact ⟨hz.1, hz.2, rfl⟩
theorem rgV_dp {K : PySem.W.Frag} {F : Hp} (a b : Int) : DpAll K F (rgV a b) ((List.range (b - a).toNat).map fun k => PyData.int (a + (k : Nat))) := by
  unfold rgV
  generalize List.range (b - a).toNat = l
  induction l with
  | nil => exact .nil
  | cons x l ih => exact .cons (.int _) ih
/-- a range as an argument -/
def tR (c : Cfg) (Φ : Fns) (i : Ce.It) : L2.St → Hp → (Int → Int → Hp → Prop) → Prop := fun σ H Q => ∃ F ρ ds, StE c F H σ ρ ∧ itms Φ i ρ true = some ds ∧ ∀ a b F' H', Ext c F H F' H' → rng a b = some ds → Q a b H'
theorem PRg.imp {X : Cx} {e : Expr} {t t' : L2.St → Hp → (Int → Int → Hp → Prop) → Prop} (h : PRg X e t) (i : ∀ σ H Q, t' σ H Q → t σ H Q) : PRg X e t' := fun pins s σ H Q I q => h pins s σ H Q I (i σ H Q q)
theorem good_conv (C : CtxOk c ct Φ lf X sc fnb g) {l : Bool} {i : Ce.It} {e : Expr} (ih : ∀ e, chkR ct i sc fnb g e = true → PRg X e (tR c Φ i)) (h : chk ct (.conv l i) sc fnb g e = true) : Good c Φ X e (.conv l i) := by
  unfold chk at h
  split at h
  · rename_i x a' hx
    rw [Bool.and_eq_true, Bool.and_eq_true] at h
    obtain ⟨hb, hs, h1⟩ := h
    obtain ⟨p, q, rfl⟩ := dOne_ok hx
    rw [chkB, Bool.and_eq_true, decide_eq_true_eq, glB, decide_eq_true_eq] at hb
    obtain ⟨rfl, hg⟩ := hb
    refine good_of C (fun m hm => ?_) rfl
    have hg' : Gl X (cvN l) := show X.env.scope.names.lookup _ = _ by rw [C.sc]; exact hg
    cases l with
    | true =>
      refine PE.imp (pe_listRg C.calm hg' (C.bi _ (by decide)) (ih _ h1) (star_cons hs)) fun σ H Q ⟨F, ρ, d, s, h, k⟩ => ?_
      simp only [ev, Option.map_eq_some_iff, if_true] at h
      obtain ⟨ds, hds, rfl⟩ := h
      refine ⟨F, ρ, ds, s, hds, fun a b F' H' e hr => ?_⟩
      obtain ⟨⟨b1, b2, b3, b4⟩, b5, rfl⟩ := rng_some hr
      exact ⟨⟨b1, b2, b3, b4, b5⟩, fun q hn => fin_lst e hn (rgV_dp a b) k⟩
    | false =>
      refine PE.imp (pe_tupRg C.calm hg' (C.bi _ (by decide)) (ih _ h1) (star_cons hs)) fun σ H Q ⟨F, ρ, d, s, h, k⟩ => ?_
      simp only [ev, Option.map_eq_some_iff, Bool.false_eq_true, if_false] at h
      obtain ⟨ds, hds, rfl⟩ := h
      refine ⟨F, ρ, ds, s, hds, fun a b F' H' e hr => ?_⟩
      obtain ⟨⟨b1, b2, b3, b4⟩, b5, rfl⟩ := rng_some hr
      exact ⟨⟨b1, b2, b3, b4, b5⟩, fun q hn => fin_tup e hn (rgV_dp a b) k⟩
  · cases h
theorem lc_imp {el : Ex} {t : Tg} {i : Ce.It} {ifs : Exo} {m : Md} {σ : L2.St} {H : Hp} {Q : VK} (h : tE c Φ m (.lc el t i ifs) σ H Q) (N : List Str) : tLc (tI c Φ true i) (tG c t) (tO c Φ ifs) (tE c Φ .fr el) ((ownOf N (slots t)).map (·.2)) σ H Q := by
  obtain ⟨F, ρ, d, s, h, k⟩ := h
  simp only [ev, Option.bind_eq_some_iff] at h
  obtain ⟨ds, hds, h⟩ := h
  rw [gd_some] at h
  obtain ⟨hl, h⟩ := h
  rw [Option.map_eq_some_iff] at h
  obtain ⟨ys, hy, rfl⟩ := h
  refine ⟨F, ρ, ds, s, hds, fun J H1 F1 e1 fd => ?_⟩
  rw [own_map]
  exact lc_go e1 s fd hl hy k
theorem good_lc (C : CtxOk c ct Φ lf X sc fnb g) {el : Ex} {t : Tg} {i : Ce.It} {ifs : Exo} {e : Expr}
    (ihe : ∀ {X sc fnb g e}, CtxOk c ct Φ lf X sc fnb g → chk ct el sc fnb g e = true → Good c Φ X e el) (ihi : ∀ tg e, chkI ct i sc fnb g tg e = true → PI X tg e (tI c Φ true i))
    (iho : ∀ {X sc fnb g es}, CtxOk c ct Φ lf X sc fnb g → chko ct ifs sc fnb g es = true → PTs X es (tO c Φ ifs)) (h : chk ct (.lc el t i ifs) sc fnb g e = true) : Good c Φ X e (.lc el t i ifs) := by
  unfold chk at h
  split at h
  · rename_i m0 hx
    simp only [Bool.and_eq_true] at h
    obtain ⟨⟨h1, h2⟩, ⟨h3, h4⟩, h5, h6⟩ := h
    obtain ⟨p, rfl⟩ := dLc_ok hx
    have ok := blkOk_by h1
    rw [← C.sc, ← C.N] at ok
    refine good_of C (fun m _ => PE.imp (pe_lc C.calm (by rw [C.N]; exact C.nd) (ihi _ _ h3) ok (fun s H c0 cl fp => sG t (C.blk m0.scope s H c0 cl fp) h4) (fun s H c0 cl fp => iho (C.blk m0.scope s H c0 cl fp) h6) (fun s H c0 cl fp => (ihe (C.blk m0.scope s H c0 cl fp) h5).pe .fr (fun z => by cases z)) (plain_fold h2).1) fun σ H Q h => lc_imp h _) rfl
  · cases h
theorem good_gen (C : CtxOk c ct Φ lf X sc fnb g) {b0 : Bool} {el : Ex} {t : Tg} {i : Ce.It} {ifs : Exo} {e : Expr}
    (ihe : ∀ {X sc fnb g e}, CtxOk c ct Φ lf X sc fnb g → chk ct el sc fnb g e = true → Good c Φ X e el) (ihi : ∀ tg e, chkI ct i sc fnb g tg e = true → PI X tg e (tI c Φ true i))
    (iho : ∀ {X sc fnb g es}, CtxOk c ct Φ lf X sc fnb g → chko ct ifs sc fnb g es = true → PTs X es (tO c Φ ifs)) (h : chk ct (.gen b0 el t i ifs) sc fnb g e = true) : Good c Φ X e (.gen b0 el t i ifs) := by
  unfold chk at h
  split at h
  · rename_i x e' hx
    rw [Bool.and_eq_true, Bool.and_eq_true] at h
    obtain ⟨⟨hgt, hb⟩, h⟩ := h
    subst hgt
    split at h
    · rename_i m0 hx2
      simp only [Bool.and_eq_true] at h
      obtain ⟨⟨h1, h2⟩, ⟨h3, h4⟩, h5, h6⟩ := h
      obtain ⟨p, q, rfl⟩ := dOne_ok hx
      obtain ⟨gp, rfl⟩ := dGen_ok hx2
      rw [chkB, Bool.and_eq_true, decide_eq_true_eq, glB, decide_eq_true_eq] at hb
      obtain ⟨rfl, hg⟩ := hb
      have S : GenOk X.N X.env.scope m0.scope (ownOf ct.N (slots t)) := by rw [C.sc, C.N]; exact genC_ok h1
      obtain ⟨P, Cd, hP, TB, hcode⟩ := C.tb rfl
      have hg' : Gl X (gnN b0) := show X.env.scope.names.lookup _ = _ by rw [C.sc]; exact hg
      have key : PE X (.Call (.Name (gnN b0) p) [.GeneratorExp m0.elt [⟨m0.tg, m0.iter, m0.ifs, 0⟩] m0.scope gp] [] q) (tGen b0 P (tI c Φ true i) (tG c t) (tO c Φ ifs) (tE c Φ .bo el) ((ownOf ct.N (slots t)).map (·.2))) := by
        have pg : ∀ (s : Shared) (H : Hp) (C0 : Addr) (code : Value) (fp : List Addr) (go : Addr × Obj), PG (CxGen X s H (genEnv m0.scope (cloFrom X.env.cells m0.scope.names []) C0 code builtinsNs X.env) fp go) m0.tg (tG c t) := fun s H C0 code fp go => sG t (C.gen m0.scope s H C0 _ code fp go) h4
        have pt : ∀ (s : Shared) (H : Hp) (C0 : Addr) (code : Value) (fp : List Addr) (go : Addr × Obj), PTs (CxGen X s H (genEnv m0.scope (cloFrom X.env.cells m0.scope.names []) C0 code builtinsNs X.env) fp go) m0.ifs (tO c Φ ifs) := fun s H C0 code fp go => iho (C.gen m0.scope s H C0 _ code fp go) h6
        have pe : ∀ (s : Shared) (H : Hp) (C0 : Addr) (code : Value) (fp : List Addr) (go : Addr × Obj), PE (CxGen X s H (genEnv m0.scope (cloFrom X.env.cells m0.scope.names []) C0 code builtinsNs X.env) fp go) m0.elt (tE c Φ .bo el) := fun s H C0 code fp go => (ihe (C.gen m0.scope s H C0 _ code fp go) h5).pe .bo (fun z => by cases z)
        cases b0 with
        | true => exact pe_allG C.room C.calm (by rw [C.N]; exact C.nd) hg' (C.bi _ (by decide)) TB hcode S (ihi _ _ h3) pg pt pe (plain_fold h2).2
        | false => exact pe_anyG C.room C.calm (by rw [C.N]; exact C.nd) hg' (C.bi _ (by decide)) TB hcode S (ihi _ _ h3) pg pt pe (plain_fold h2).2
      refine good_of C (fun m _ => PE.imp key fun σ H Q ⟨F, ρ, d, s, h, k⟩ => ?_) rfl
      simp only [ev, Option.bind_eq_some_iff] at h
      obtain ⟨ds, hds, h⟩ := h
      rw [Option.map_eq_some_iff] at h
      obtain ⟨r, hy, rfl⟩ := h
      refine ⟨F, ρ, ds, s, hds, fun J H1 F1 e1 fd => ⟨e1.ok.tab P hP, fun H2 tb => ?_⟩⟩
      rw [own_map]
      exact gen_go e1 s fd hy k H2 F1 (Ext.tabbed e1.ok hP tb)
    · cases h
  · cases h

/-! ### the whole -/
theorem pi_ex (C : CtxOk c ct Φ lf X sc fnb g) {a : Ex} {tg e : Expr} (G : Good c Φ X e a) (bor : Bool) : PI X tg e (tI c Φ bor (.ex a)) := by
  refine PI.imp (pi_seq (G.pe (if bor = true then .bo else .fr) (fun z => by cases bor <;> cases z))) fun σ H R ⟨F, ρ, ds, s, h, k⟩ => ?_
  simp only [itms, Option.bind_eq_some_iff] at h
  obtain ⟨d, hd, hs⟩ := h
  cases bor with
  | true =>
    refine ⟨F, ρ, d, s, hd, fun v H1 F1 e1 f1 => ?_⟩
    rw [← C.K]
    exact feeds_seq (full := false) e1.ok hs f1 fun J fd => k J H1 F1 e1 fd
  | false =>
    refine ⟨F, ρ, d, s, hd, fun v H1 F1 e1 f1 => ?_⟩
    rw [← C.K]
    exact feeds_seq (full := true) e1.ok hs f1 fun J fd => k J H1 F1 e1 fd
theorem pi_r1 (C : CtxOk c ct Φ lf X sc fnb g) {a : Ex} {tg a' : Expr} {p q : Pos} (G : Good c Φ X a' a) (hg : sc.names.lookup ("range" : Str) = some NameKind.globalImplicit) (hs : noStar a' = true) (bor : Bool) : PI X tg (.Call (.Name "range" p) [a'] [] q) (tI c Φ bor (.rng1 a)) := by
  refine PI.imp (pi_range1 (show X.env.scope.names.lookup _ = _ by rw [C.sc]; exact hg) (C.bi _ (by decide)) (pa_cons (G.pe .bo (fun z => by cases z)) pa_nil (star_cons hs)) (star_cons hs)) fun σ H R ⟨F, ρ, ds, s, h, k⟩ => ?_
  simp only [itms, Option.bind_eq_some_iff] at h
  obtain ⟨d, hd, h⟩ := h
  cases d <;> try (cases h; done)
  obtain ⟨⟨b1, b2, b3, b4⟩, b5, rfl⟩ := rng_some h
  refine ev1 s hd fun v F1 H1 e1 r1 => ⟨_, by rw [r1.int], b3, b4, k _ H1 F1 e1 ?_⟩
  have := feeds_rng (c := c) (F := F1) (H := H1) (lo := 0) (n := (‹Int› - 0).toNat)
  rw [Int.sub_zero] at this ⊢
  exact this.weak
theorem pi_r2 (C : CtxOk c ct Φ lf X sc fnb g) {a b : Ex} {tg a' b' : Expr} {p q : Pos} (G : Good c Φ X a' a) (G2 : Good c Φ X b' b) (hg : sc.names.lookup ("range" : Str) = some NameKind.globalImplicit) (hs : noStar a' = true) (hs2 : noStar b' = true) (bor : Bool) : PI X tg (.Call (.Name "range" p) [a', b'] [] q) (tI c Φ bor (.rng2 a b)) := by
  refine PI.imp (pi_range2 (show X.env.scope.names.lookup _ = _ by rw [C.sc]; exact hg) (C.bi _ (by decide)) (pa_cons (G.pe .bo (fun z => by cases z)) (pa_cons (G2.pe .bo (fun z => by cases z)) pa_nil (star_cons hs2)) (star_cons hs)) (by rw [star_cons hs, star_cons hs2]; rfl) (by rw [star_cons hs2]; rfl)) fun σ H R ⟨F, ρ, ds, s, h, k⟩ => ?_
  simp only [itms, Option.bind_eq_some_iff] at h
  obtain ⟨d, hd, d2, hd2, h⟩ := h
  cases d <;> cases d2 <;> try (cases h; done)
  obtain ⟨⟨b1, b2, b3, b4⟩, b5, rfl⟩ := rng_some h
  exact ev2 s hd hd2 fun v w F1 H1 e1 r1 r2 => ⟨_, _, by rw [r1.int, r2.int], ⟨b1, b2, b3, b4⟩, k _ H1 F1 e1 feeds_rng.weak⟩
theorem pi_en (C : CtxOk c ct Φ lf X sc fnb g) {a : Ex} {tg a' : Expr} {p q : Pos} (G : Good c Φ X a' a) (hg : sc.names.lookup ("enumerate" : Str) = some NameKind.globalImplicit) (hs : noStar a' = true) (ht : (dTup tg).isSome = true) (bor : Bool) : PI X tg (.Call (.Name "enumerate" p) [a'] [] q) (tI c Φ bor (.enum a)) := by
  obtain ⟨es, he⟩ := Option.isSome_iff_exists.mp ht
  obtain ⟨k0, tp, rfl⟩ := dTup_ok he
  refine PI.imp (pi_enumA (show X.env.scope.names.lookup _ = _ by rw [C.sc]; exact hg) (C.bi _ (by decide)) (pa_cons (G.pe (if bor = true then .bo else .fr) (fun z => by cases bor <;> cases z)) pa_nil (star_cons hs)) (star_cons hs)) fun σ H R ⟨F, ρ, ds, s, h, k⟩ => ?_
  simp only [itms, Option.bind_eq_some_iff, Option.map_eq_some_iff] at h
  obtain ⟨d, hd, ds0, hs, rfl⟩ := h
  cases bor with
  | true =>
    refine ⟨F, ρ, d, s, hd, fun v H1 F1 e1 f1 => ?_⟩
    have f1 : Rq c.K F1 H1 v d := f1
    rcases f1 with f1 | ⟨a0, xs, ds', rfl, rfl, h3, h4⟩
    · cases d <;> simp [seq?] at hs
      · subst hs
        cases f1 with
        | lst hs ha => exact ⟨_, rfl, .inl ⟨⟨_, C.K ▸ sql_mono e1.ok.fhT hs⟩, k _ H1 F1 e1 (C.K ▸ feeds_enum (full := false) (feeds_list hs ha).weak)⟩⟩
      · subst hs
        cases f1 with
        | tup hs ha => exact ⟨_, rfl, .inr ⟨⟨_, C.K ▸ sqt_mono e1.ok.fhT hs⟩, k _ H1 F1 e1 (C.K ▸ feeds_enumT (full := false) (feeds_tup hs ha).weak)⟩⟩
    · cases hs
      exact ⟨_, rfl, .inl ⟨⟨_, SqL.of h3⟩, k _ H1 F1 e1 (C.K ▸ feeds_enum (full := false) (feeds_listB h3 h4))⟩⟩
  | false =>
    refine ⟨F, ρ, d, s, hd, fun v H1 F1 e1 f1 => ?_⟩
    have f1 : Dp c.K F1 v d := f1
    cases d <;> simp [seq?] at hs
    · subst hs
      cases f1 with
      | lst hs ha => exact ⟨_, rfl, .inl ⟨⟨_, C.K ▸ sql_mono e1.ok.fhT hs⟩, k _ H1 F1 e1 (C.K ▸ feeds_enum (full := true) (feeds_list hs ha))⟩⟩
    · subst hs
      cases f1 with
      | tup hs ha => exact ⟨_, rfl, .inr ⟨⟨_, C.K ▸ sqt_mono e1.ok.fhT hs⟩, k _ H1 F1 e1 (C.K ▸ feeds_enumT (full := true) (feeds_tup hs ha))⟩⟩
theorem prg_r1 (C : CtxOk c ct Φ lf X sc fnb g) {a : Ex} {a' : Expr} {p q : Pos} (G : Good c Φ X a' a) (hg : sc.names.lookup ("range" : Str) = some NameKind.globalImplicit) (hs : noStar a' = true) : PRg X (.Call (.Name "range" p) [a'] [] q) (tR c Φ (.rng1 a)) := by
  refine PRg.imp (prg_1 (show X.env.scope.names.lookup _ = _ by rw [C.sc]; exact hg) (C.bi _ (by decide)) (G.pe .bo (fun z => by cases z)) (star_cons hs)) fun σ H R ⟨F, ρ, ds, s, h, k⟩ => ?_
  simp only [itms, Option.bind_eq_some_iff] at h
  obtain ⟨d, hd, h⟩ := h
  cases d <;> try (cases h; done)
  exact ev1 s hd fun v F1 H1 e1 r1 => ⟨_, r1.int, k _ _ F1 H1 e1 h⟩
theorem prg_r2 (C : CtxOk c ct Φ lf X sc fnb g) {a b : Ex} {a' b' : Expr} {p q : Pos} (G : Good c Φ X a' a) (G2 : Good c Φ X b' b) (hg : sc.names.lookup ("range" : Str) = some NameKind.globalImplicit) (hs : noStar a' = true) (hs2 : noStar b' = true) : PRg X (.Call (.Name "range" p) [a', b'] [] q) (tR c Φ (.rng2 a b)) := by
  refine PRg.imp (prg_2 (show X.env.scope.names.lookup _ = _ by rw [C.sc]; exact hg) (C.bi _ (by decide)) (G.pe .bo (fun z => by cases z)) (G2.pe .bo (fun z => by cases z)) (star_cons hs) (star_cons hs2) (by rw [star_cons hs2]; rfl)) fun σ H R ⟨F, ρ, ds, s, h, k⟩ => ?_
  simp only [itms, Option.bind_eq_some_iff] at h
  obtain ⟨d, hd, d2, hd2, h⟩ := h
  cases d <;> cases d2 <;> try (cases h; done)
  exact ev2 s hd hd2 fun v w F1 H1 e1 r1 r2 => ⟨_, _, r1.int, r2.int, k _ _ F1 H1 e1 h⟩
theorem chkB_range {x y : Str} (h : chkB sc x y = true) : x = y ∧ sc.names.lookup y = some .globalImplicit := by
  rw [chkB, Bool.and_eq_true, decide_eq_true_eq, glB, decide_eq_true_eq] at h
  exact ⟨h.1, h.1 ▸ h.2⟩
end
section
variable {c : Cfg} {ct : Ctl} {Φ : Fns} {lf : Nat}
mutual
theorem chk_ok : ∀ (ex : Ex) {X : Cx} {sc : Scope} {fnb : Str → Bool} {g : Bool} {e : Expr}, CtxOk c ct Φ lf X sc fnb g → chk ct ex sc fnb g e = true → Good c Φ X e ex
  | .var i, _, _, _, _, _, C, h => good_var C h
  | .int n, _, _, _, _, _, C, h => good_const C (v := .int n) (d := .int n) (by unfold chk at h; exact of_decide_eq_true h) (fun _ _ => pe_int) (fun _ => .int n) rfl (fun _ _ => rfl)
  | .str n, _, _, _, _, _, C, h => good_const C (v := .str n) (d := .str n) (by unfold chk at h; exact of_decide_eq_true h) (fun _ _ => pe_str) (fun _ => .str n) rfl (fun _ _ => rfl)
  | .bool n, _, _, _, _, _, C, h => good_const C (v := .bl n) (d := .bool n) (by unfold chk at h; exact of_decide_eq_true h) (fun _ _ => pe_bl) (fun _ => .bl n) rfl (fun _ _ => rfl)
  | .non, _, _, _, _, _, C, h => good_const C (v := .non) (d := .none) (by unfold chk at h; exact of_decide_eq_true h) (fun _ _ => pe_non) (fun _ => .non) rfl (fun _ _ => rfl)
  | .tup es, _, _, _, _, _, C, h => good_tup C (fun xs hx => chks_ok es C hx) h
  | .lst es, _, _, _, _, _, C, h => good_lst C (fun xs hx => chks_ok es C hx) h
  | .bin op a b, _, _, _, _, _, C, h => good_bin C (fun e he => chk_ok a C he) (fun e he => chk_ok b C he) h
  | .neg a, _, _, _, _, _, C, h => good_neg C (fun e he => chk_ok a C he) h
  | .not a, _, _, _, _, _, C, h => good_not C (fun e he => chk_ok a C he) h
  | .and a b, _, _, _, _, _, C, h => good_and C (fun e he => chk_ok a C he) (fun e he => chk_ok b C he) h
  | .or a b, _, _, _, _, _, C, h => good_or C (fun e he => chk_ok a C he) (fun e he => chk_ok b C he) h
  | .cmp op a b, _, _, _, _, _, C, h => good_cmp C (fun e he => chk_ok a C he) (fun e he => chk_ok b C he) h
  | .ch2 op op' a b d, _, _, _, _, _, C, h => good_ch2 C (fun e he => chk_ok a C he) (fun e he => chk_ok b C he) (fun e he => chk_ok d C he) h
  | .isn a, _, _, _, _, _, C, h => good_isn C (fun e he => chk_ok a C he) h
  | .nisn a, _, _, _, _, _, C, h => good_nisn C (fun e he => chk_ok a C he) h
  | .ife d a b, _, _, _, _, _, C, h => good_ife C (fun e he => chk_ok d C he) (fun e he => chk_ok a C he) (fun e he => chk_ok b C he) h
  | .sub a i, _, _, _, _, _, C, h => good_sub C (fun e he => chk_ok a C he) (fun e he => chk_ok i C he) h
  | .sl a lo hi, _, _, _, _, _, C, h => good_sl C (fun e he => chk_ok a C he) (fun e he => chkp_ok lo C he) (fun e he => chkp_ok hi C he) h
  | .rev a, _, _, _, _, _, C, h => good_rev C (fun e he => chk_ok a C he) h
  | .call f es, _, _, _, _, _, C, h => good_call C (fun xs hx => chks_ok es C hx) h
  | .b1 b a, _, _, _, _, _, C, h => good_b1 C (fun e he => chk_ok a C he) h
  | .bi b a, _, _, _, _, _, C, h => good_bi C (fun e he => chk_ok a C he) h
  | .conv l i, _, _, _, _, _, C, h => good_conv C (fun e he => chkR_ok i C he) h
  | .b2 b a d, _, _, _, _, _, C, h => good_b2 C (fun e he => chk_ok a C he) (fun e he => chk_ok d C he) h
  | .isi T a, _, _, _, _, _, C, h => good_isi C (fun e he => chk_ok a C he) h
  | .lc el t i ifs, _, _, _, _, _, C, h => good_lc C (fun C' h' => chk_ok el C' h') (fun tg e he => chkI_ok i C he true) (fun C' h' => chko_ok ifs C' h') h
  | .gen b0 el t i ifs, _, _, _, _, _, C, h => good_gen C (fun C' h' => chk_ok el C' h') (fun tg e he => chkI_ok i C he true) (fun C' h' => chko_ok ifs C' h') h
  | .st l a, _, _, _, _, _, C, h => good_st C (fun e he => chk_ok a C he) h
theorem chks_ok : ∀ (es : Exs) {X : Cx} {sc : Scope} {fnb : Str → Bool} {g : Bool} {xs : List Expr}, CtxOk c ct Φ lf X sc fnb g → chks ct es sc fnb g xs = true → PA X xs (tA c Φ es)
  | .nil, _, _, _, _, xs, C, h => by
    cases xs with
    | cons x xs => simp [chks] at h
    | nil =>
      refine PA.imp pa_nil fun σ H Q ⟨F, ρ, ds, s, h, k⟩ => ?_
      cases h
      exact k [] H F (Ext.refl s.ok) .nil
  | .cons e es, _, _, _, _, xs, C, h => by
    cases xs with
    | nil => simp [chks] at h
    | cons x xs =>
      simp only [chks, Bool.and_eq_true] at h
      have G := chk_ok e C h.1
      have ns : noStar x = true := by
        cases x <;> first | rfl | skip
        exfalso
        have h1 := h.1
        cases e <;> simp [chk, xName, dConst, dTup, dLst, dBin, dUn, dBool, dCmp, dCmp2, dIf, dSub, dSl, dRev, dCall, dOne, dTwo, dLc] at h1
      refine PA.imp (pa_cons (G.pe .fr (fun z => by cases z)) (chks_ok es C h.2) (star_cons ns)) fun σ H Q ⟨F, ρ, ds, s, h, k⟩ => ?_
      simp only [evs, Option.bind_eq_some_iff, Option.map_eq_some_iff] at h
      obtain ⟨d, he, ds', hes, rfl⟩ := h
      exact ⟨F, ρ, d, s, he, fun v H1 F1 e1 f1 => ⟨F1, ρ, ds', s.ext e1, hes, fun vs H2 F2 e2 a2 => k (v :: vs) H2 F2 (e1.trans e2) (.cons (dp_mono e2.fkT _ _ f1) a2)⟩⟩
theorem chkp_ok : ∀ (o : Exo) {X : Cx} {sc : Scope} {fnb : Str → Bool} {g : Bool} {e : Option Expr}, CtxOk c ct Φ lf X sc fnb g → chkp ct o sc fnb g e = true → PO X e (tP c Φ o)
  | .no, _, _, _, _, e, C, h => by
    cases e with
    | some e => simp [chkp] at h
    | none =>
      refine ⟨fun pins s σ H Q I q => po_none.run pins s σ H Q I ?_⟩
      obtain ⟨F, ρ, b, st, hb, k⟩ := q
      cases hb
      exact k H F (Ext.refl st.ok)
  | .yes ex, _, _, _, _, e, C, h => by
    cases e with
    | none => simp [chkp] at h
    | some e =>
      simp only [chkp] at h
      refine ⟨fun pins s σ H Q I q => (po_some ((chk_ok ex C h).pe .bo (fun z => by cases z))).run pins s σ H Q I ?_⟩
      obtain ⟨F, ρ, b, st, hb, k⟩ := q
      simp only [evo, Option.bind_eq_some_iff] at hb
      obtain ⟨x, ea, hb⟩ := hb
      cases x <;> try (cases hb; done)
      cases hb
      exact ev1 st ea fun v F1 H1 e r => ⟨_, r.int, k H1 F1 e⟩
theorem chko_ok : ∀ (o : Exo) {X : Cx} {sc : Scope} {fnb : Str → Bool} {g : Bool} {es : List Expr}, CtxOk c ct Φ lf X sc fnb g → chko ct o sc fnb g es = true → PTs X es (tO c Φ o)
  | .no, _, _, _, _, es, C, h => by
    cases es with
    | cons e es => simp [chko] at h
    | nil =>
      refine ⟨fun pins s σ H Q I q => pts_nil.run pins s σ H Q I ?_⟩
      obtain ⟨F, ρ, b, st, hb, k⟩ := q
      cases hb
      exact k H F (Ext.refl st.ok)
  | .yes ex, _, _, _, _, es, C, h => by
    cases es with
    | nil => simp [chko] at h
    | cons e es =>
      cases es with
      | cons e2 es => simp [chko] at h
      | nil =>
        simp only [chko] at h
        refine ⟨fun pins s σ H Q I q => (pts_one (chk_ok ex C h).pt).run pins s σ H Q I ?_⟩
        obtain ⟨F, ρ, b, st, hb, k⟩ := q
        exact ⟨F, ρ, b, st, hb, k⟩
theorem chkI_ok : ∀ (i : Ce.It) {X : Cx} {sc : Scope} {fnb : Str → Bool} {g : Bool} {tg e : Expr}, CtxOk c ct Φ lf X sc fnb g → chkI ct i sc fnb g tg e = true → ∀ bor, PI X tg e (tI c Φ bor i)
  | .ex a, _, _, _, _, _, _, C, h => fun bor => by
    simp only [chkI] at h
    exact pi_ex C (chk_ok a C h) bor
  | .rng1 a, _, _, _, _, _, _, C, h => fun bor => by
    simp only [chkI] at h
    split at h <;> try (cases h; done)
    rename_i x a' hx
    simp only [Bool.and_eq_true] at h
    obtain ⟨p, q, rfl⟩ := dOne_ok hx
    obtain ⟨rfl, hg⟩ := chkB_range h.1
    exact pi_r1 C (chk_ok a C h.2.2) hg h.2.1 bor
  | .rng2 a b, _, _, _, _, _, _, C, h => fun bor => by
    simp only [chkI] at h
    split at h <;> try (cases h; done)
    rename_i x a' b' hx
    simp only [Bool.and_eq_true] at h
    obtain ⟨p, q, rfl⟩ := dTwo_ok hx
    obtain ⟨rfl, hg⟩ := chkB_range h.1
    exact pi_r2 C (chk_ok a C h.2.2.1) (chk_ok b C h.2.2.2) hg h.2.1.1 h.2.1.2 bor
  | .enum a, _, _, _, _, _, _, C, h => fun bor => by
    simp only [chkI] at h
    split at h <;> try (cases h; done)
    rename_i x a' hx
    simp only [Bool.and_eq_true] at h
    obtain ⟨p, q, rfl⟩ := dOne_ok hx
    obtain ⟨rfl, hg⟩ := chkB_range h.1.1
    exact pi_en C (chk_ok a C h.2.2) hg h.2.1 h.1.2 bor
theorem chkR_ok : ∀ (i : Ce.It) {X : Cx} {sc : Scope} {fnb : Str → Bool} {g : Bool} {e : Expr}, CtxOk c ct Φ lf X sc fnb g → chkR ct i sc fnb g e = true → PRg X e (tR c Φ i)
  | .ex a, _, _, _, _, _, C, h => by simp [chkR] at h
  | .enum a, _, _, _, _, _, C, h => by simp [chkR] at h
  | .rng1 a, _, _, _, _, _, C, h => by
    simp only [chkR] at h
    split at h <;> try (cases h; done)
    rename_i x a' hx
    simp only [Bool.and_eq_true] at h
    obtain ⟨p, q, rfl⟩ := dOne_ok hx
    obtain ⟨rfl, hg⟩ := chkB_range h.1
    exact prg_r1 C (chk_ok a C h.2.2) hg h.2.1
  | .rng2 a b, _, _, _, _, _, C, h => by
    simp only [chkR] at h
    split at h <;> try (cases h; done)
    rename_i x a' b' hx
    simp only [Bool.and_eq_true] at h
    obtain ⟨p, q, rfl⟩ := dTwo_ok hx
    obtain ⟨rfl, hg⟩ := chkB_range h.1
    exact prg_r2 C (chk_ok a C h.2.2.1) (chk_ok b C h.2.2.2) hg h.2.1.1 h.2.1.2
end
end
end Cs

set_option maxHeartbeats 8000000
/-! The text against the core language: statements. -/
noncomputable section
namespace Cs
open PySem PySem.Spec PyProof.Rows L2 GxR Ce Gx

/-! ### taking statements apart -/
def dAsg : Stmt → Option (Expr × Expr × Pos)
  | .Assign [t] e p => some (t, e, p)
  | _ => none
def dRet : Stmt → Option Expr
  | .Return (some e) _ => some e
  | _ => none
def dIfS : Stmt → Option (Expr × List Stmt × List Stmt)
  | .If c a b _ => some (c, a, b)
  | _ => none
def dFor : Stmt → Option (Expr × Expr × List Stmt)
  | .For t i b [] _ => some (t, i, b)
  | _ => none
def dWhl : Stmt → Option (Expr × List Stmt)
  | .While c b [] _ => some (c, b)
  | _ => none
def dAug : Stmt → Option (Str × Operator × Expr)
  | .AugAssign (.Name x _) o e _ => some (x, o, e)
  | _ => none
/-- x.m(e) as a statement -/
def dMt : Stmt → Option (Str × Str × Expr)
  | .Expr (.Call (.Attribute (.Name x _) m apos) [e] [] cpos) _ => if apos.endLine == cpos.line then some (x, m, e) else none
  | _ => none
theorem dAsg_ok {s : Stmt} {t e : Expr} {p : Pos} (h : dAsg s = some (t, e, p)) : s = .Assign [t] e p := by
  unfold dAsg at h
  split at h
  · cases h; rfl
  · cases h
theorem dRet_ok {s : Stmt} {e : Expr} (h : dRet s = some e) : ∃ p, s = .Return (some e) p := by
  unfold dRet at h
  split at h
  · cases h; exact ⟨_, rfl⟩
  · cases h
theorem dIfS_ok {s : Stmt} {c : Expr} {a b : List Stmt} (h : dIfS s = some (c, a, b)) : ∃ p, s = .If c a b p := by
  unfold dIfS at h
  split at h
  · cases h; exact ⟨_, rfl⟩
  · cases h
theorem dFor_ok {s : Stmt} {t i : Expr} {b : List Stmt} (h : dFor s = some (t, i, b)) : ∃ p, s = .For t i b [] p := by
  unfold dFor at h
  split at h
  · cases h; exact ⟨_, rfl⟩
  · cases h
theorem dWhl_ok {s : Stmt} {c : Expr} {b : List Stmt} (h : dWhl s = some (c, b)) : ∃ p, s = .While c b [] p := by
  unfold dWhl at h
  split at h
  · cases h; exact ⟨_, rfl⟩
  · cases h
theorem dAug_ok {s : Stmt} {x : Str} {o : Operator} {e : Expr} (h : dAug s = some (x, o, e)) : ∃ q p, s = .AugAssign (.Name x q) o e p := by
  unfold dAug at h
  split at h
  · cases h; exact ⟨_, _, rfl⟩
  · cases h
theorem dMt_ok {s : Stmt} {x m : Str} {e : Expr} (h : dMt s = some (x, m, e)) : ∃ q a c p, s = .Expr (.Call (.Attribute (.Name x q) m a) [e] [] c) p ∧ (a.endLine == c.line) = true := by
  unfold dMt at h
  split at h
  · split at h
    · rename_i hl
      cases h; exact ⟨_, _, _, _, rfl, hl⟩
    · cases h
  · cases h
/-- no comprehension -/
def noLc : Expr → Bool
  | .ListComp .. => false
  | .SetComp .. => false
  | .DictComp .. => false
  | _ => true
theorem noLc_ok {e : Expr} {o : Option Expr} {l : Nat} {env : Env} (h : noLc e = true) : swapsWith e o l env = pure false := by
  cases e <;> first | rfl | (simp [noLc] at h; done)
def noTup : Expr → Bool
  | .Tuple .. => false
  | _ => true
/-- a plain store: no swap of stores -/
def plainSt (t e : Expr) : Bool := match t with
  | .Name .. => true
  | .Tuple .. => noTup e
  | _ => false
theorem plainSt_ok {t e : Expr} {env : Env} (h : plainSt t e = true) : swappedStores [t] e env = pure none := by
  unfold plainSt at h
  split at h
  · cases e <;> rfl
  · cases e <;> first | rfl | (simp [noTup] at h; done)
  · cases h
theorem one_store {t e : Expr} {env : Env} (h : plainSt t e = true) : (assignEach [t] env).map (·.2) = [assign t env] := by
  unfold plainSt at h
  split at h
  · rfl
  · rfl
  · cases h
/-- x = [..] on one line, x a local -/
def lcSt (sc : Scope) (t e : Expr) : Bool := match t, e with
  | .Name x p, .ListComp _ _ s p2 => decide (sc.kind = .function) && (decide (sc.names.lookup x = some .local) && ((p.line == p2.line) && !(s.names.any fun (n, k) => n == x && (k == .local || k == .cell))))
  | _, _ => false
/-- a way to store -/
def asgB (sc : Scope) (t e : Expr) : Bool := (noLc e && plainSt t e) || lcSt sc t e

mutual
def chS (ct : Ctl) : Sm → Scope → (Str → Bool) → Stmt → Bool
  | .asg t e, sc, fnb, s => match dAsg s with
    | some (t', e', _) => asgB sc t' e' && (chkT ct t sc fnb t' && chk ct e sc fnb true e')
    | none => false
  | .own i e, sc, fnb, s => match dAsg s with
    | some (t', e', _) => asgB sc t' e' && (chkT ct (.nm i) sc fnb t' && (isNew e && chk ct e sc fnb true e'))
    | none => false
  | .ret e, sc, fnb, s => match dRet s with
    | some e' => chk ct e sc fnb true e'
    | none => false
  | .ife c a b, sc, fnb, s => match dIfS s with
    | some (c', a', b') => chk ct c sc fnb true c' && (chSs ct a sc fnb a' && chSs ct b sc fnb b')
    | none => false
  | .for t i b, sc, fnb, s => match dFor s with
    | some (t', i', b') => (plainIter i' && chkT ct t sc fnb t') && (chkI ct i sc fnb true t' i' && chSs ct b sc fnb b')
    | none => false
  | .whl c b, sc, fnb, s => match dWhl s with
    | some (c', b') => chk ct c sc fnb true c' && chSs ct b sc fnb b'
    | none => false
  | .app i e, sc, fnb, s => match dMt s with
    | some (x, m, e') => (decide (m = "append") && (decide (ct.N[i]? = some x) && (visB sc x && okN x))) && (noStar e' && chk ct e sc fnb true e')
    | none => false
  | .aug i b e, sc, fnb, s => match dAug s with
    | some (x, o, e') => (decide (o = if b = true then .Add else .Sub) && (decide (ct.N[i]? = some x) && stoB sc fnb x)) && chk ct e sc fnb true e'
    | none => false
  | .frz _ s', sc, fnb, s => chS ct s' sc fnb s
  | .cont, _, _, s => match s with
    | .Continue _ => true
    | _ => false
  | .brk, _, _, s => match s with
    | .Break _ => true
    | _ => false
  | .pass, _, _, s => match s with
    | .Pass _ => true
    | _ => false
def chSs (ct : Ctl) : Sms → Scope → (Str → Bool) → List Stmt → Bool
  | .nil, _, _, [] => true
  | .cons s r, sc, fnb, t :: ts => chS ct s sc fnb t && chSs ct r sc fnb ts
  | _, _, _, _ => false
end

/-! ### the state between statements -/
/-- beside StE: what the def owns is new since its entry (F0, H0), no object is owned twice -/
structure StB (c : Cfg) (F0 H0 F H : Hp) (σ : L2.St) (ρ : Rho) : Prop where
  st : StE c F H σ ρ
  ext : Ext c F0 H0 F H
  own : ∀ (i : Nat) (d : PyData) (a : Addr), ρ[i]? = some (.ow d) → σ[i]? = some (some (.ref a)) → H0 a = none
  one : ∀ (i j : Nat) (d e : PyData) (a : Addr), ρ[i]? = some (.ow d) → ρ[j]? = some (.ow e) → σ[i]? = some (some (.ref a)) → σ[j]? = some (some (.ref a)) → i = j
def Sub (F F' : Hp) : Prop := ∀ a o, F a = some o → F' a = some o
theorem Sub.refl (F : Hp) : Sub F F := fun _ _ e => e
theorem Sub.trans {F F1 F2 : Hp} (a : Sub F F1) (b : Sub F1 F2) : Sub F F2 := fun p o e => b p o (a p o e)
theorem Sub.t {F F1 : Hp} (a : Sub F F1) : ∀ p o, (∀ ps, o ≠ .tbl ps) → F p = some o → F1 p = some o := fun p o _ e => a p o e
theorem StB.step {c : Cfg} {F0 H0 F H F' H' : Hp} {σ : L2.St} {ρ : Rho} (s : StB c F0 H0 F H σ ρ) (e : Ext c F H F' H') : StB c F0 H0 F' H' σ ρ := ⟨s.st.ext e, s.ext.trans e, s.own, s.one⟩
/-- readings of statements -/
def RQ (c : Cfg) (F0 H0 F : Hp) (D : Ends) : Res → Prop
  | .nx ρ' => ∀ σ' H' F', StB c F0 H0 F' H' σ' ρ' → Sub F F' → D.nx σ' H'
  | .ct ρ' => ∀ σ' H' F', StB c F0 H0 F' H' σ' ρ' → Sub F F' → D.ct σ' H'
  | .bk ρ' => ∀ σ' H' F', StB c F0 H0 F' H' σ' ρ' → Sub F F' → D.bk σ' H'
  | .rt d => ∀ v H' F', Ext c F0 H0 F' H' → Dp c.K F' v d → D.rt v H'
def tS (c : Cfg) (Φ : Fns) (n : Nat) (s : Sm) : TS := fun D σ H => ∃ F0 H0 F ρ r, StB c F0 H0 F H σ ρ ∧ exS Φ n s ρ = some r ∧ RQ c F0 H0 F D r
def tSs (c : Cfg) (Φ : Fns) (n : Nat) (s : Sms) : TS := fun D σ H => ∃ F0 H0 F ρ r, StB c F0 H0 F H σ ρ ∧ exSs Φ n s ρ = some r ∧ RQ c F0 H0 F D r
theorem RQ.sub {c : Cfg} {F0 H0 F F1 : Hp} {D : Ends} {r : Res} (h : RQ c F0 H0 F D r) (e : Sub F F1) : RQ c F0 H0 F1 D r := by
  cases r with
  | nx ρ' => exact fun σ' H' F' s e' => h σ' H' F' s (e.trans e')
  | ct ρ' => exact fun σ' H' F' s e' => h σ' H' F' s (e.trans e')
  | bk ρ' => exact fun σ' H' F' s e' => h σ' H' F' s (e.trans e')
  | rt d => exact h

/-! a store -/
mutual
theorem bindT_own : ∀ (t : Tg) (d : PyData) (ρ ρ' : Rho), bindT t d ρ = some ρ' → ρ'.length = ρ.length ∧ ∀ i e, ρ'[i]? = some (.ow e) → i ∉ slots t ∧ ρ[i]? = some (.ow e)
  | .nm j, d, ρ, ρ', h => by
    simp only [bindT] at h
    split at h <;> try (cases h; done)
    rename_i hj
    cases h
    refine ⟨List.length_set, fun i e he => ?_⟩
    by_cases hij : j = i
    · subst hij
      rw [List.getElem?_set_self hj] at he
      cases he
    · rw [List.getElem?_set_ne hij] at he
      exact ⟨by simp [slots]; exact fun z => hij z.symm, he⟩
  | .tp ts, d, ρ, ρ', h => by
    cases d <;> try (simp [bindT] at h; done)
    simp only [bindT] at h
    have := bindTs_own ts _ ρ ρ' h
    simpa [slots] using this
theorem bindTs_own : ∀ (t : Tgs) (d : List PyData) (ρ ρ' : Rho), bindTs t d ρ = some ρ' → ρ'.length = ρ.length ∧ ∀ i e, ρ'[i]? = some (.ow e) → i ∉ slotss t ∧ ρ[i]? = some (.ow e)
  | .nil, d, ρ, ρ', h => by
    cases d <;> simp [bindTs] at h
    subst h
    exact ⟨rfl, fun i e he => ⟨by simp [slotss], he⟩⟩
  | .cons t ts, d, ρ, ρ', h => by
    cases d with
    | nil => simp [bindTs] at h
    | cons d ds =>
      simp only [bindTs, Option.bind_eq_some_iff] at h
      obtain ⟨ρ1, h1, h2⟩ := h
      obtain ⟨l1, k1⟩ := bindT_own t d ρ ρ1 h1
      obtain ⟨l2, k2⟩ := bindTs_own ts ds ρ1 ρ' h2
      refine ⟨l2.trans l1, fun i e he => ?_⟩
      obtain ⟨a1, a2⟩ := k2 i e he
      obtain ⟨b1, b2⟩ := k1 i e a2
      exact ⟨by simp [slotss, a1, b1], b2⟩
end
theorem StB.asg {c : Cfg} {F0 H0 F H : Hp} {σ σ' : L2.St} {ρ ρ' : Rho} {t : Tg} {d : PyData} (s : StB c F0 H0 F H σ ρ) (hb : bindT t d ρ = some ρ') (s' : StE c F H σ' ρ') (hw : ∀ vs, (∀ i ∈ slots t, i ∈ vs) → wipe σ' vs = wipe σ vs) : StB c F0 H0 F H σ' ρ' := by
  obtain ⟨l, k⟩ := bindT_own t d ρ ρ' hb
  have eq : ∀ i, i ∉ slots t → σ'[i]? = σ[i]? := fun i hi => by
    have := hw (slots t) (fun i hi => hi)
    rw [← wipe_out (σ := σ') hi, ← wipe_out (σ := σ) hi, this]
  refine ⟨s', s.ext, fun i e a h1 h2 => ?_, fun i j e e2 a h1 h2 h3 h4 => ?_⟩
  · obtain ⟨n1, n2⟩ := k i e h1
    rw [eq i n1] at h2
    exact s.own i e a n2 h2
  · obtain ⟨n1, n2⟩ := k i e h1
    obtain ⟨m1, m2⟩ := k j e2 h2
    rw [eq i n1] at h3
    rw [eq j m1] at h4
    exact s.one i j e e2 a n2 m2 h3 h4
/-- an owned object's contents change -/
theorem StB.put {c : Cfg} {F0 H0 F H : Hp} {σ : L2.St} {ρ : Rho} {x : Nat} {a : Addr} {d d' : PyData} {o : HO} (s : StB c F0 H0 F H σ ρ) (hx : ρ[x]? = some (.ow d)) (ha : σ[x]? = some (some (.ref a))) (ho : OwnOf c.K F o d') : StB c F0 H0 F (upd H a o) σ (ρ.set x (.ow d')) := by
  obtain ⟨a', u, e1, hF, hH, hO⟩ := s.st.own x d hx
  rw [ha] at e1; cases e1
  have hxl : x < ρ.length := (List.getElem?_eq_some_iff.mp hx).1
  have e := s.ext.put (s.own x d a hx ha) hF hH hO.nt o
  have gs : ∀ (i : Nat), x ≠ i → (ρ.set x (.ow d'))[i]? = ρ[i]? := fun i h => List.getElem?_set_ne h
  have gx : (ρ.set x (.ow d'))[x]? = some (.ow d') := List.getElem?_set_self hxl
  refine ⟨⟨e.ok, by rw [List.length_set]; exact s.st.len, fun i v h => ?_, fun i v h => ?_⟩, e, fun i v b h1 h2 => ?_, fun i j v v2 b h1 h2 h3 h4 => ?_⟩
  · by_cases hi : x = i
    · subst hi; rw [gx] at h; cases h
    · rw [gs i hi] at h; exact s.st.slot i v h
  · by_cases hi : x = i
    · subst hi
      rw [gx] at h; cases h
      exact ⟨a, o, ha, hF, upd_same, ho⟩
    · rw [gs i hi] at h
      obtain ⟨b, w, q1, q2, q3, q4⟩ := s.st.own i v h
      refine ⟨b, w, q1, q2, ?_, q4⟩
      have : b ≠ a := fun z => hi (s.one x i d v a hx h ha (by rw [q1, z]))
      rw [upd_ne this]; exact q3
  · by_cases hi : x = i
    · subst hi; rw [ha] at h2; cases h2; exact s.own x d a hx ha
    · rw [gs i hi] at h1; exact s.own i v b h1 h2
  · by_cases hi : x = i
    · by_cases hj : x = j
      · rw [← hi, ← hj]
      · subst hi
        rw [gs j hj] at h2
        exact s.one x j d v2 b hx h2 h3 h4
    · rw [gs i hi] at h1
      by_cases hj : x = j
      · subst hj
        exact s.one i x v d b h1 hx h3 h4
      · rw [gs j hj] at h2
        exact s.one i j v v2 b h1 h2 h3 h4
/-- a new object in a slot of its own -/
theorem StB.new {c : Cfg} {F0 H0 F H F' H' : Hp} {σ : L2.St} {ρ : Rho} {i : Nat} {a : Addr} {d : PyData} {o : HO} (s : StB c F0 H0 F H σ ρ) (e : Ext c F H F' H') (hi : i < ρ.length) (hF : F' a = none) (hn : H a = none) (hH : H' a = some o) (ho : OwnOf c.K F' o d) : StB c F0 H0 F' H' (σ.set i (some (.ref a))) (ρ.set i (.ow d)) := by
  have s1 := s.step e
  have hl : i < σ.length := by rw [s.st.len]; exact hi
  have ne : ∀ (j : Nat) (v : PyData) (b : Addr), ρ[j]? = some (Sl.ow v) → σ[j]? = some (some (V.ref b)) → b ≠ a := fun j v b h1 h2 z => by
    obtain ⟨b', w, q1, q2, q3, q4⟩ := s.st.own j v h1
    rw [h2] at q1; cases q1
    rw [z, hn] at q3; cases q3
  refine ⟨⟨s1.st.ok, by rw [List.length_set, List.length_set]; exact s1.st.len, fun j v h => ?_, fun j v h => ?_⟩, s1.ext, fun j v b h1 h2 => ?_, fun j k v v2 b h1 h2 h3 h4 => ?_⟩
  · by_cases hj : i = j
    · subst hj; rw [List.getElem?_set_self hi] at h; cases h
    · rw [List.getElem?_set_ne hj] at h ⊢; exact s1.st.slot j v h
  · by_cases hj : i = j
    · subst hj
      rw [List.getElem?_set_self hi] at h; cases h
      exact ⟨a, o, List.getElem?_set_self hl, hF, hH, ho⟩
    · rw [List.getElem?_set_ne hj] at h ⊢; exact s1.st.own j v h
  · by_cases hj : i = j
    · subst hj
      rw [List.getElem?_set_self hl] at h2; cases h2
      exact s.ext.grow a hn
    · rw [List.getElem?_set_ne hj] at h1 h2; exact s.own j v b h1 h2
  · by_cases hj : i = j
    · by_cases hk : i = k
      · rw [← hj, ← hk]
      · subst hj
        rw [List.getElem?_set_self hl] at h3; cases h3
        rw [List.getElem?_set_ne hk] at h2 h4
        exact absurd rfl (ne k v2 a h2 h4)
    · rw [List.getElem?_set_ne hj] at h1 h3
      by_cases hk : i = k
      · subst hk
        rw [List.getElem?_set_self hl] at h4; cases h4
        exact absurd rfl (ne j v a h1 h3)
      · rw [List.getElem?_set_ne hk] at h2 h4
        exact s.one j k v v2 b h1 h2 h3 h4
/-- owned slots are changed no more -/
theorem StB.frz {c : Cfg} {F0 H0 H : Hp} {σ : L2.St} : ∀ (is : List Nat) {F : Hp} {ρ : Rho}, StB c F0 H0 F H σ ρ → ∃ F', StB c F0 H0 F' H σ (frzR ρ is) ∧ Sub F F'
  | [], F, ρ, s => ⟨F, s, Sub.refl F⟩
  | x :: is, F, ρ, s => by
    unfold frzR
    split
    · rename_i d hx
      obtain ⟨a, o, ha, hF, hH, hO⟩ := s.st.own x d hx
      have hxl : x < ρ.length := (List.getElem?_eq_some_iff.mp hx).1
      have e := s.ext.frz (s.own x d a hx ha) hF hH hO.nt
      have sub : Sub F (upd F a o) := fun b u q => by
        have z : b ≠ a := fun z => by rw [z, hF] at q; cases q
        rw [upd_ne z]; exact q
      have gs : ∀ (i : Nat), x ≠ i → (ρ.set x (.fz d))[i]? = ρ[i]? := fun i h => List.getElem?_set_ne h
      have gx : (ρ.set x (.fz d))[x]? = some (.fz d) := List.getElem?_set_self hxl
      have s1 : StB c F0 H0 (upd F a o) H σ (ρ.set x (.fz d)) := by
        refine ⟨⟨e.ok, by rw [List.length_set]; exact s.st.len, fun i v h => ?_, fun i v h => ?_⟩, e, fun i v b h1 h2 => ?_, fun i j v v2 b h1 h2 h3 h4 => ?_⟩
        · by_cases hi : x = i
          · subst hi
            rw [gx] at h; cases h
            exact ⟨.ref a, ha, (hO.mono sub.t).dp upd_same⟩
          · rw [gs i hi] at h
            obtain ⟨w, q1, q2⟩ := s.st.slot i v h
            exact ⟨w, q1, dp_mono sub.t _ _ q2⟩
        · by_cases hi : x = i
          · subst hi; rw [gx] at h; cases h
          · rw [gs i hi] at h
            obtain ⟨b, w, q1, q2, q3, q4⟩ := s.st.own i v h
            refine ⟨b, w, q1, ?_, q3, q4.mono sub.t⟩
            have : b ≠ a := fun z => hi (s.one x i d v a hx h ha (by rw [q1, z]))
            rw [upd_ne this]; exact q2
        · by_cases hi : x = i
          · subst hi; rw [gx] at h1; cases h1
          · rw [gs i hi] at h1; exact s.own i v b h1 h2
        · by_cases hi : x = i
          · subst hi; rw [gx] at h1; cases h1
          · by_cases hj : x = j
            · subst hj; rw [gx] at h2; cases h2
            · rw [gs i hi] at h1
              rw [gs j hj] at h2
              exact s.one i j v v2 b h1 h2 h3 h4
      obtain ⟨F', h1, h2⟩ := StB.frz is s1
      exact ⟨F', h1, sub.trans h2⟩
    · exact StB.frz is s
end Cs

set_option maxHeartbeats 8000000
/-! The text against the core language: statements hold. -/
noncomputable section
namespace Cs
open PySem PySem.Spec PyProof.Rows L2 GxR Ce Gx
section
variable {c : Cfg} {ct : Ctl} {Φ : Fns} {lf n : Nat} {X : Cx} {sc : Scope} {fnb : Str → Bool}

theorem lcSt_ok {t e : Expr} (h : lcSt sc t e = true) : ∃ x p el gs s p2, t = .Name x p ∧ e = .ListComp el gs s p2 ∧ sc.kind = .function ∧ sc.names.lookup x = some .local ∧ (p.line == p2.line) = true ∧ (s.names.any fun (n, k) => n == x && (k == .local || k == .cell)) = false := by
  unfold lcSt at h
  split at h
  · rw [Bool.and_eq_true, Bool.and_eq_true, Bool.and_eq_true, decide_eq_true_eq, decide_eq_true_eq, Bool.not_eq_true'] at h
    exact ⟨_, _, _, _, _, _, rfl, rfl, h.1, h.2.1, h.2.2.1, h.2.2.2⟩
  · cases h
/-- a name's store, of any way -/
theorem ps_nm (C : CtxOk c ct Φ lf X sc fnb true) {i : Nat} {ex : Ex} {t' e' : Expr} {pos : Pos} {m : Md} (hm : m = .nw → isNew ex = true) (ha : asgB sc t' e' = true) (ht : chkT ct (.nm i) sc fnb t' = true) (he : chk ct ex sc fnb true e' = true) :
    PS X (.Assign [t'] e' pos) (tAsg (tE c Φ m ex) (gName i)) := by
  unfold chkT at ht
  split at ht <;> try (cases ht; done)
  rename_i x hx
  rw [Bool.and_eq_true, decide_eq_true_eq] at ht
  obtain ⟨p, rfl⟩ := xName_ok hx
  obtain ⟨h1, h2⟩ := stoB_ok ht.2
  unfold asgB at ha
  rw [Bool.or_eq_true, Bool.and_eq_true] at ha
  rcases ha with ⟨ha, _⟩ | ha
  · exact ps_set (by rw [C.N]; exact C.nd) (by rw [C.N]; exact ht.1) (by rw [C.sc]; exact h1) ((chk_ok ex C he).pe m hm) (noLc_ok ha) (by rw [C.sc, C.fn]; exact h2)
  · obtain ⟨x', p', el', gs, s', p2, e1, rfl, k1, k2, k3, k4⟩ := lcSt_ok ha
    cases e1
    have hex : ∃ el t i ifs, ex = .lc el t i ifs := by
      cases ex <;> first | exact ⟨_, _, _, _, rfl⟩ | (simp [chk, xName, dConst, dTup, dLst, dBin, dUn, dBool, dCmp, dCmp2, dIf, dSub, dSl, dRev, dCall, dOne, dTwo] at he; done)
    obtain ⟨el, t, it, ifs, rfl⟩ := hex
    unfold chk at he
    split at he <;> try (cases he; done)
    rename_i m0 hx2
    simp only [Bool.and_eq_true] at he
    obtain ⟨⟨h1', h2'⟩, ⟨h3, h4⟩, h5, h6⟩ := he
    obtain ⟨p3, e3⟩ := dLc_ok hx2
    cases e3
    have ok := blkOk_by h1'
    rw [← C.sc, ← C.N] at ok
    refine PS.imp (ps_setLc C.calm (by rw [C.N]; exact C.nd) (by rw [C.N]; exact ht.1) (by rw [C.sc]; exact k2) (sw_true (by rw [C.sc]; exact k1) (by rw [C.sc]; exact k2) k3 k4) (chkI_ok it C h3 true) ok
      (fun s H c0 cl fp => sG t (C.blk m0.scope s H c0 cl fp) h4) (fun s H c0 cl fp => chko_ok ifs (C.blk m0.scope s H c0 cl fp) h6) (fun s H c0 cl fp => (chk_ok el (C.blk m0.scope s H c0 cl fp) h5).pe .fr (fun z => by cases z)) (plain_fold h2').1) fun D σ H h => ?_
    exact lc_imp h _
theorem RQ.nx1 {F0 H0 F : Hp} {D : Ends} {ρ : Rho} (h : RQ c F0 H0 F D (.nx ρ)) {σ' : L2.St} {H' F' : Hp} (s : StB c F0 H0 F' H' σ' ρ) (e : Sub F F') : D.nx σ' H' := h σ' H' F' s e
theorem stb_set {F0 H0 F H : Hp} {σ : L2.St} {ρ : Rho} {i : Nat} {v : V} {d : PyData} (s : StB c F0 H0 F H σ ρ) (hi : i < ρ.length) (hd : Dp c.K F v d) : StB c F0 H0 F H (σ.set i (some v)) (ρ.set i (.fz d)) :=
  s.asg (t := .nm i) (d := d) (by simp [bindT, hi]) (s.st.set hd) fun vs hv => wipe_set (hv i (by simp [slots]))
theorem ps_asg0 (C : CtxOk c ct Φ lf X sc fnb true) {t : Tg} {e : Ex} {s : Stmt} (h : chS ct (.asg t e) sc fnb s = true) : PS X s (tS c Φ n (.asg t e)) := by
  unfold chS at h
  split at h <;> try (cases h; done)
  rename_i t' e' pos hx
  rw [Bool.and_eq_true, Bool.and_eq_true] at h
  obtain ⟨ha, ht, he⟩ := h
  rw [dAsg_ok hx]
  cases t with
  | nm i =>
    refine PS.imp (ps_nm (m := .fr) C (fun z => by cases z) ha ht he) fun D σ H ⟨F0, H0, F, ρ, r, s, h, k⟩ => ?_
    simp only [exS, Option.bind_eq_some_iff, Option.map_eq_some_iff] at h
    obtain ⟨d, hd, ρ', hb, rfl⟩ := h
    refine ⟨F, ρ, d, s.st, hd, fun v H1 F1 e1 f1 => ?_⟩
    have hi : i < ρ.length := by
      simp only [bindT] at hb
      split at hb
      · assumption
      · cases hb
    have eb : ρ' = ρ.set i (.fz d) := by simpa [bindT, hi] using hb.symm
    subst eb
    exact k.nx1 (stb_set (s.step e1) hi f1) e1.fk
  | tp ts =>
    have hl : noLc e' = true ∧ plainSt t' e' = true := by
      unfold asgB at ha
      rw [Bool.or_eq_true, Bool.and_eq_true] at ha
      rcases ha with ha | ha
      · exact ha
      · obtain ⟨x', p', el', gs, s', p2, rfl, rfl, _⟩ := lcSt_ok ha
        simp [chkT, dTup] at ht
    refine PS.imp (ps_asg ((chk_ok e C he).pe .fr (fun z => by cases z)) (sG _ C ht) (noLc_ok hl.1) (plainSt_ok hl.2) (one_store hl.2)) fun D σ H ⟨F0, H0, F, ρ, r, s, h, k⟩ => ?_
    simp only [exS, Option.bind_eq_some_iff, Option.map_eq_some_iff] at h
    obtain ⟨d, hd, ρ', hb, rfl⟩ := h
    exact ⟨F, ρ, d, s.st, hd, fun v H1 F1 e1 f1 => ⟨F1, ρ, d, ρ', s.st.ext e1, f1, hb, fun σ' s' hw => k.nx1 ((s.step e1).asg hb s' hw) e1.fk⟩⟩
theorem ps_own0 (C : CtxOk c ct Φ lf X sc fnb true) {i : Nat} {e : Ex} {s : Stmt} (h : chS ct (.own i e) sc fnb s = true) : PS X s (tS c Φ n (.own i e)) := by
  unfold chS at h
  split at h <;> try (cases h; done)
  rename_i t' e' pos hx
  rw [Bool.and_eq_true, Bool.and_eq_true, Bool.and_eq_true] at h
  obtain ⟨ha, ht, hn, he⟩ := h
  rw [dAsg_ok hx]
  refine PS.imp (ps_nm (m := .nw) C (fun _ => hn) ha ht he) fun D σ H ⟨F0, H0, F, ρ, r, s, h, k⟩ => ?_
  simp only [exS, Option.bind_eq_some_iff] at h
  obtain ⟨d, hd, h⟩ := h
  split at h <;> try (cases h; done)
  rename_i hmi
  cases h
  refine ⟨F, ρ, d, s.st, hd, fun v H1 F1 e1 f1 => ?_⟩
  dsimp only [Fin] at f1
  rw [if_pos hmi.1] at f1
  obtain ⟨a, o, rfl, q1, q2, q3, q4⟩ := f1
  exact k.nx1 (s.new e1 hmi.2 q1 q2 q3 q4) e1.fk
theorem ps_ret0 (C : CtxOk c ct Φ lf X sc fnb true) {e : Ex} {s : Stmt} (h : chS ct (.ret e) sc fnb s = true) : PS X s (tS c Φ n (.ret e)) := by
  unfold chS at h
  split at h <;> try (cases h; done)
  rename_i e' hx
  obtain ⟨p, rfl⟩ := dRet_ok hx
  refine PS.imp (ps_ret ((chk_ok e C h).pe .fr (fun z => by cases z))) fun D σ H ⟨F0, H0, F, ρ, r, s, h, k⟩ => ?_
  simp only [exS, Option.map_eq_some_iff] at h
  obtain ⟨d, hd, rfl⟩ := h
  exact ⟨F, ρ, d, s.st, hd, fun v H1 F1 e1 f1 => k v H1 F1 (s.ext.trans e1) f1⟩
theorem ps_app0 (C : CtxOk c ct Φ lf X sc fnb true) {i : Nat} {e : Ex} {s : Stmt} (h : chS ct (.app i e) sc fnb s = true) : PS X s (tS c Φ n (.app i e)) := by
  unfold chS at h
  split at h <;> try (cases h; done)
  rename_i x m e' hx
  rw [Bool.and_eq_true, Bool.and_eq_true, Bool.and_eq_true, Bool.and_eq_true, Bool.and_eq_true, decide_eq_true_eq, decide_eq_true_eq] at h
  obtain ⟨⟨rfl, hi, hv, hok⟩, hs, he⟩ := h
  obtain ⟨q, a, cp, p, rfl, hl⟩ := dMt_ok hx
  obtain ⟨n1, n2, n3⟩ := okN_ok hok
  have pv : PE X (.Name x q) (tVar i) := pe_var (by rw [C.N]; exact hi) (by rw [C.sc]; exact visB_ok hv) n1 n2
  have key := pe_bm (X := X) (apos := a) (cpos := cp) PySem.F.plainAttrs_list PySem.F.slot_list_append PySem.F.type_list_append mt_append pv (pa_cons ((chk_ok e C he).pe .fr (fun z => by cases z)) pa_nil (star_cons hs)) (by rfl)
    (by rw [star_cons hs]; rfl) hl (star_cons hs) (by rfl)
  refine PS.imp (ps_expr key (noLc_ok rfl)) fun D σ H ⟨F0, H0, F, ρ, r, s, h, k⟩ => ?_
  simp only [exS, Option.bind_eq_some_iff] at h
  obtain ⟨d, hd, h⟩ := h
  split at h <;> try (cases h; done)
  rename_i ds hx
  rw [gd_some] at h
  obtain ⟨hlen, h⟩ := h
  cases h
  obtain ⟨ad, o, ha, hF, hH, hO⟩ := s.st.own i _ hx
  cases o <;> try exact hO.elim
  rename_i xs
  refine ⟨.ref ad, ha, .inl ⟨rfl, xs, SqL.of hH⟩, F, ρ, d, s.st, hd, fun v H1 F1 e1 f1 => ⟨ad, xs, v, rfl, rfl, e1.keep ad _ (fun ps z => by cases z) hH, ?_, ?_⟩⟩
  · have hO : DpAll c.K F xs ds := hO
    rw [DpAll.length hO, ← lim_eq]; exact hlen
  · have hO : DpAll c.K F xs ds := hO
    exact k.nx1 ((s.step e1).put hx ha (show OwnOf c.K F1 (.lst (xs ++ [v])) (.list (ds ++ [d])) from DpAll.append (dpAll_mono e1.fkT _ _ hO) (.cons f1 .nil))) e1.fk
theorem ps_aug0 (C : CtxOk c ct Φ lf X sc fnb true) {i : Nat} {b : Bool} {e : Ex} {s : Stmt} (h : chS ct (.aug i b e) sc fnb s = true) : PS X s (tS c Φ n (.aug i b e)) := by
  unfold chS at h
  split at h <;> try (cases h; done)
  rename_i x o e' hx
  rw [Bool.and_eq_true, Bool.and_eq_true, Bool.and_eq_true, decide_eq_true_eq, decide_eq_true_eq] at h
  obtain ⟨⟨ho, hi, hst⟩, he⟩ := h
  obtain ⟨q, p, rfl⟩ := dAug_ok hx
  obtain ⟨h1, h2⟩ := stoB_ok hst
  have pe := (chk_ok e C he).pe .bo (fun z => by cases z)
  have ip : PIp X o (ipI fun a d => if b = true then a + d else a - d) := by
    cases b with
    | true => rw [ho]; exact ip_add
    | false => rw [ho]; exact ip_sub
  refine PS.imp (ps_aug (by rw [C.N]; exact C.nd) (by rw [C.N]; exact hi) (by rw [C.sc]; exact h1) pe ip (by rw [C.sc, C.fn]; exact h2)) fun D σ H ⟨F0, H0, F, ρ, r, s, h, k⟩ => ?_
  simp only [exS, Option.bind_eq_some_iff] at h
  obtain ⟨d, hd, h⟩ := h
  split at h <;> try (cases h; done)
  rename_i x0 y0 hx
  cases h
  obtain ⟨v, q1, q2⟩ := s.st.slot i _ hx
  cases q2
  have hil : i < ρ.length := (List.getElem?_eq_some_iff.mp hx).1
  refine ⟨_, q1, ev1 s.st hd fun v H1 F1 e1 r1 => ⟨x0, y0, rfl, r1.int, ?_⟩⟩
  exact k.nx1 (stb_set (s.step e1) hil (.int _)) e1.fk
/-- a block of statements, given its statements -/
theorem pss_cons0 {s : Sm} {r : Sms} {t : Stmt} {ts : List Stmt} (h1 : PS X t (tS c Φ n s)) (h2 : PSs X ts (tSs c Φ n r)) : PSs X (t :: ts) (tSs c Φ n (.cons s r)) := by
  refine PSs.imp (pss_cons h1 h2) fun D σ H ⟨F0, H0, F, ρ, r0, s0, h, k⟩ => ?_
  simp only [exSs, Option.bind_eq_some_iff] at h
  obtain ⟨x, hx, h⟩ := h
  refine ⟨F0, H0, F, ρ, x, s0, hx, ?_⟩
  cases x with
  | nx ρ' => exact fun σ' H' F' s' e => ⟨F0, H0, F', ρ', r0, s', h, k.sub e⟩
  | rt d => cases h; exact k
  | ct ρ' => cases h; exact k
  | bk ρ' => cases h; exact k
theorem ps_if0 {d : Ex} {a b : Sms} {c' : Expr} {a' b' : List Stmt} {p : Pos} (hc : PT X c' (tT c Φ d)) (ha : PSs X a' (tSs c Φ n a)) (hb : PSs X b' (tSs c Φ n b)) : PS X (.If c' a' b' p) (tS c Φ n (.ife d a b)) := by
  refine PS.imp (ps_if hc ha hb) fun D σ H ⟨F0, H0, F, ρ, r, s, h, k⟩ => ?_
  simp only [exS, Option.bind_eq_some_iff] at h
  obtain ⟨t, ht, h⟩ := h
  refine ⟨F, ρ, t, s.st, ht, fun H1 F1 e1 => ?_⟩
  cases t with
  | true => exact ⟨F0, H0, F1, ρ, r, s.step e1, h, k.sub e1.fk⟩
  | false => exact ⟨F0, H0, F1, ρ, r, s.step e1, h, k.sub e1.fk⟩
theorem ps_for0 (C : CtxOk c ct Φ lf X sc fnb true) (hp : PassesOwn (model X.prog X.w) X.A X.env X.xe) {t : Tg} {i : Ce.It} {b : Sms} {t' i' : Expr} {b' : List Stmt} {p : Pos} (hi : PI X t' i' (tI c Φ false i)) (ht : PG X t' (tG c t)) (hb : PSs X b' (tSs c Φ n b)) (hpl : plainIter i' = true) : PS X (.For t' i' b' [] p) (tS c Φ n (.for t i b)) := by
  refine PS.imp (ps_for hp C.calm hi ht hb (plain_fold hpl).1) fun D σ H ⟨F0, H0, F, ρ, r, s, h, k⟩ => ?_
  simp only [exS, Option.bind_eq_some_iff] at h
  obtain ⟨ds, hds, h⟩ := h
  generalize hf : (fun d ρ' => (bindT t d ρ').bind (exSs Φ n b)) = f at h
  refine ⟨F, ρ, ds, s.st, hds, fun J H1 F1 e1 fd => ?_⟩
  have W0 : ∃ W : Nat → Nat → L2.St → Hp → Prop, W = fun i m σ' H' => ∃ F' ρ', StB c F0 H0 F' H' σ' ρ' ∧ Sub F1 F' ∧ m = ds.length - i ∧ i ≤ ds.length ∧ forF f (ds.drop i) ρ' = some r := ⟨_, rfl⟩
  obtain ⟨W, hW⟩ := W0
  refine ⟨W, ⟨ds.length, ?_⟩, fun i m σ' H' w => ?_⟩
  · rw [hW]; exact ⟨F1, ρ, s.step e1, Sub.refl _, by simp, Nat.zero_le _, h⟩
  · rw [hW] at w
    obtain ⟨F', ρ', s', sub, rfl, hi, hr⟩ := w
    obtain ⟨r1, r2, r3⟩ := fd.run F' H' ⟨s'.st.ok, sub⟩ i
    by_cases hlt : i < ds.length
    · refine .inr ⟨r1 hlt, W (i + 1) (ds.length - (i + 1)), fun σ2 H2 w2 => ⟨_, by omega, w2⟩, fun x H2 y => ?_⟩
      have hd : ds[i]? = some ds[i] := by simp [hlt]
      obtain ⟨F2, e3, dp⟩ := r2 _ hd x H2 y
      rw [List.drop_eq_getElem_cons hlt] at hr
      simp only [forF, Option.bind_eq_some_iff] at hr
      obtain ⟨z, hz, hr⟩ := hr
      rw [← hf] at hz
      simp only [Option.bind_eq_some_iff] at hz
      obtain ⟨ρ1, hb1, hz⟩ := hz
      have s2 := s'.step e3
      have sub2 : Sub F1 F2 := sub.trans e3.fk
      refine ⟨F2, ρ', ds[i], ρ1, s2.st, dp, hb1, fun σ3 s3 hw => ⟨F0, H0, F2, ρ1, z, s2.asg hb1 s3 hw, hz, ?_⟩⟩
      have sF : Sub F F1 := e1.fk
      cases z with
      | nx ρ2 => exact fun σ4 H4 F4 s4 e4 => by rw [hW]; exact ⟨F4, ρ2, s4, sub2.trans e4, rfl, hlt, hr⟩
      | ct ρ2 => exact fun σ4 H4 F4 s4 e4 => by rw [hW]; exact ⟨F4, ρ2, s4, sub2.trans e4, rfl, hlt, hr⟩
      | bk ρ2 => cases hr; exact fun σ4 H4 F4 s4 e4 => k σ4 H4 F4 s4 (sF.trans (sub2.trans e4))
      | rt d => cases hr; exact k
    · have hi' : i = ds.length := by omega
      refine .inl ⟨r3 (by omega), ?_⟩
      subst hi'
      rw [List.drop_length] at hr
      simp only [forF, Option.some.injEq] at hr
      subst hr
      exact k.nx1 s' (Sub.trans e1.fk sub)
theorem ps_whl0 (hp : PassesOwn (model X.prog X.w) X.A X.env X.xe) {d : Ex} {b : Sms} {c' : Expr} {b' : List Stmt} {p : Pos} (hc : PT X c' (tT c Φ d)) (hb : PSs X b' (tSs c Φ n b)) : PS X (.While c' b' [] p) (tS c Φ n (.whl d b)) := by
  refine PS.imp (ps_while hp hc hb) fun D σ H ⟨F0, H0, F, ρ, r, s, h, k⟩ => ?_
  simp only [exS] at h
  have W0 : ∃ W : Nat → L2.St → Hp → Prop, W = fun m σ' H' => ∃ F' ρ', StB c F0 H0 F' H' σ' ρ' ∧ Sub F F' ∧ whileF (tst Φ d) (exSs Φ n b) m ρ' = some r := ⟨_, rfl⟩
  obtain ⟨W, hW⟩ := W0
  refine ⟨W, ⟨n, ?_⟩, fun m σ' H' w => ?_⟩
  · rw [hW]; exact ⟨F, ρ, s, Sub.refl _, h⟩
  · rw [hW] at w
    obtain ⟨F', ρ', s', sub, hr⟩ := w
    cases m with
    | zero => cases hr
    | succ m =>
      simp only [whileF, Option.bind_eq_some_iff] at hr
      obtain ⟨t, ht, hr⟩ := hr
      refine ⟨F', ρ', t, s'.st, ht, fun H1 F1 e1 => ?_⟩
      cases t with
      | false =>
        simp only [Bool.false_eq_true, if_false, Option.some.injEq] at hr ⊢
        subst hr
        exact k.nx1 (s'.step e1) (sub.trans e1.fk)
      | true =>
        simp only [if_true, Option.bind_eq_some_iff] at hr ⊢
        obtain ⟨z, hz, hr⟩ := hr
        refine ⟨W m, fun σ2 H2 w2 => ⟨m, by omega, w2⟩, F0, H0, F1, ρ', z, s'.step e1, hz, ?_⟩
        have sF : Sub F F1 := sub.trans e1.fk
        cases z with
        | nx ρ2 => exact fun σ4 H4 F4 s4 e4 => by rw [hW]; exact ⟨F4, ρ2, s4, sF.trans e4, hr⟩
        | ct ρ2 => exact fun σ4 H4 F4 s4 e4 => by rw [hW]; exact ⟨F4, ρ2, s4, sF.trans e4, hr⟩
        | bk ρ2 => cases hr; exact fun σ4 H4 F4 s4 e4 => k σ4 H4 F4 s4 (sF.trans e4)
        | rt d => cases hr; exact k
end
section
variable {c : Cfg} {ct : Ctl} {Φ : Fns} {lf n : Nat} {X : Cx} {sc : Scope} {fnb : Str → Bool}
mutual
theorem chS_ok (C : CtxOk c ct Φ lf X sc fnb true) (hp : PassesOwn (model X.prog X.w) X.A X.env X.xe) : ∀ (s : Sm) {t : Stmt}, chS ct s sc fnb t = true → PS X t (tS c Φ n s)
  | .asg _ _, _, h => ps_asg0 C h
  | .own _ _, _, h => ps_own0 C h
  | .ret _, _, h => ps_ret0 C h
  | .app _ _, _, h => ps_app0 C h
  | .aug _ _ _, _, h => ps_aug0 C h
  | .ife d a b, t, h => by
    simp only [chS] at h
    split at h <;> try (cases h; done)
    rename_i c' a' b' hx
    simp only [Bool.and_eq_true] at h
    obtain ⟨p, rfl⟩ := dIfS_ok hx
    exact ps_if0 (chk_ok d C h.1).pt (chSs_ok C hp a h.2.1) (chSs_ok C hp b h.2.2)
  | .for tg i b, t, h => by
    simp only [chS] at h
    split at h <;> try (cases h; done)
    rename_i t' i' b' hx
    simp only [Bool.and_eq_true] at h
    obtain ⟨p, rfl⟩ := dFor_ok hx
    exact ps_for0 C hp (chkI_ok i C h.2.1 false) (sG tg C h.1.2) (chSs_ok C hp b h.2.2) h.1.1
  | .whl d b, t, h => by
    simp only [chS] at h
    split at h <;> try (cases h; done)
    rename_i c' b' hx
    simp only [Bool.and_eq_true] at h
    obtain ⟨p, rfl⟩ := dWhl_ok hx
    exact ps_whl0 hp (chk_ok d C h.1).pt (chSs_ok C hp b h.2)
  | .frz is s, t, h => by
    simp only [chS] at h
    refine PS.imp (chS_ok C hp s h) fun D σ H ⟨F0, H0, F, ρ, r, s0, h0, k⟩ => ?_
    obtain ⟨F', s1, e1⟩ := s0.frz is
    exact ⟨F0, H0, F', _, r, s1, by simpa [exS] using h0, k.sub e1⟩
  | .cont, t, h => by
    cases t <;> try (simp [chS] at h; done)
    refine PS.imp ps_continue fun D σ H ⟨F0, H0, F, ρ, r, s0, h0, k⟩ => ?_
    cases h0
    exact k σ H F s0 (Sub.refl _)
  | .brk, t, h => by
    cases t <;> try (simp [chS] at h; done)
    refine PS.imp ps_break fun D σ H ⟨F0, H0, F, ρ, r, s0, h0, k⟩ => ?_
    cases h0
    exact k σ H F s0 (Sub.refl _)
  | .pass, t, h => by
    cases t <;> try (simp [chS] at h; done)
    refine PS.imp ps_pass fun D σ H ⟨F0, H0, F, ρ, r, s0, h0, k⟩ => ?_
    cases h0
    exact k σ H F s0 (Sub.refl _)
theorem chSs_ok (C : CtxOk c ct Φ lf X sc fnb true) (hp : PassesOwn (model X.prog X.w) X.A X.env X.xe) : ∀ (s : Sms) {ts : List Stmt}, chSs ct s sc fnb ts = true → PSs X ts (tSs c Φ n s)
  | .nil, ts, h => by
    cases ts with
    | cons t ts => simp [chSs] at h
    | nil =>
      refine PSs.imp pss_nil fun D σ H ⟨F0, H0, F, ρ, r, s0, h0, k⟩ => ?_
      cases h0
      exact k σ H F s0 (Sub.refl _)
  | .cons s r, ts, h => by
    cases ts with
    | nil => simp [chSs] at h
    | cons t ts =>
      simp only [chSs, Bool.and_eq_true] at h
      exact pss_cons0 (chS_ok C hp s h.1) (chSs_ok C hp r h.2)
end
end
end Cs

set_option maxHeartbeats 8000000
/-! The defs of a text by the core language; the law's end. -/
noncomputable section
namespace Cs
open PySem PySem.Spec PyProof.Rows L2 GxR Ce Gx

structure CD where
  ix : Nat
  N : List Str
  ps : List Str
  body : Sms
/-- the meaning of the defs, calls n deep, while loops W long -/
def den (W : Nat) (D : List CD) : Nat → Fns
  | 0 => fun _ _ => none
  | n + 1 => fun f ds => match D[f]? with
    | some d => if ds.length = d.ps.length then runD (den W D n) W d.N.length d.body ds else none
    | none => none
section
variable (p : Program) (D : List CD)
def stOf (d : CD) : Stmt := p.main.body.getD d.ix (.Pass ⟨0, 0, 0, 0⟩)
def nmOf (d : CD) : Str := match stOf p d with
  | .FunctionDef n .. => n
  | _ => ""
def dDof (d : CD) : He.DefD := ⟨(nmOf p d, none), nmOf p d, nmOf p d, defArgs (stOf p d), defBody (stOf p d), defScope (stOf p d), [], []⟩
def tabF : List (Str × Nat) := D.zipIdx.map fun q => (nmOf p q.1, q.2)
structure DOk (d : CD) : Prop where
  chk : chSs ⟨d.N, tabF p D⟩ d.body (defScope (stOf p d)) (fun _ => true) (defBody (stOf p d)) = true
  sc : FnScope d.N d.ps (defScope (stOf p d))
  bind : ∀ (kV doc pm : Value) (an : Option Addr) (cdv ct : Value) (us : List Value), us.length = d.ps.length → bindArgs (PySem.W.fnOf (nmOf p d) (nmOf p d) (defArgs (stOf p d)) (defBody (stOf p d)) (defScope (stOf p d)) .none kV doc pm an cdv ct) ⟨us, []⟩ = pure (d.ps.zip us)
end
section
variable {p : Program} {D : List CD} {W : Nat}
theorem den_len {n f : Nat} {d : CD} {ds : List PyData} {r : PyData} (hd : D[f]? = some d) (h : den W D n f ds = some r) : ds.length = d.ps.length := by
  cases n with
  | zero => cases h
  | succ n =>
    simp only [den, hd] at h
    split at h
    · assumption
    · cases h
theorem tabF_ok {x : Str} {f : Nat} (h : (tabF p D).lookup x = some f) : ∃ d, D[f]? = some d ∧ x = nmOf p d ∧ d ∈ D := by
  have hm := PySem.mem_of_lookup h
  unfold tabF at hm
  obtain ⟨q, hq, e⟩ := List.mem_map.mp hm
  cases e
  have := List.mk_mem_zipIdx_iff_getElem?.mp (show (q.1, q.2) ∈ D.zipIdx from hq)
  exact ⟨q.1, this, rfl, List.mem_of_getElem? this⟩
theorem dpAll_at {K : PySem.W.Frag} {F : Hp} {vs : List V} {ds : List PyData} {i : Nat} {d : PyData} (h : DpAll K F vs ds) (e : ds[i]? = some d) : ∃ v, vs[i]? = some v ∧ Dp K F v d := DpAll.get' h e
theorem stb_start {c : Cfg} {F H : Hp} {N : List Str} {vs : List V} {ds : List PyData} (o : Ok c F H) (a : DpAll c.K F vs ds) (hl : ds.length ≤ N.length) : StB c F H F H (L2.start N vs) (startR N.length ds) := by
  have la := DpAll.length a
  have nope : ∀ (i : Nat) (d : PyData), (startR N.length ds)[i]? ≠ some (.ow d) := fun i d h => by
    unfold startR at h
    by_cases hi : i < ds.length
    · rw [List.getElem?_append_left (by simpa using hi), List.getElem?_map] at h
      cases q : ds[i]? with
      | none => rw [q] at h; cases h
      | some u => rw [q] at h; cases h
    · rw [List.getElem?_append_right (by simp; omega), List.getElem?_replicate] at h
      split at h <;> cases h
  refine ⟨⟨o, by unfold L2.start startR; simp [la], fun i d h => ?_, fun i d h => absurd h (nope i d)⟩, Ext.refl o, fun i d b h => absurd h (nope i d), fun i j d e b h => absurd h (nope i d)⟩
  unfold startR at h
  by_cases hi : i < ds.length
  · rw [List.getElem?_append_left (by simpa using hi), List.getElem?_map] at h
    cases q : ds[i]? with
    | none => rw [q] at h; cases h
    | some u =>
      rw [q] at h; cases h
      obtain ⟨v, h1, h2⟩ := DpAll.get' a q
      refine ⟨v, ?_, h2⟩
      unfold L2.start
      rw [List.getElem?_append_left (by simp; omega), List.getElem?_map, h1]
      rfl
  · rw [List.getElem?_append_right (by simp; omega), List.getElem?_replicate] at h
    split at h <;> cases h

/-- what the head tells -/
structure Says (p : Program) (D : List CD) (K : PySem.W.Frag) (mg : Str → Option Value) (base : Heap) (c : Cfg) : Prop where
  eK : c.K = K
  fn : ∀ d ∈ D, ∃ fd, FunD K (nmOf p d) (nmOf p d) (defArgs (stOf p d)) (defBody (stOf p d)) (defScope (stOf p d)) [] [] (He.fAd K (nmOf p d, none)) fd
  at_ : ∀ d ∈ D, mg (nmOf p d) = some (.ref (He.fAd K (nmOf p d, none)))
  free : ∀ x ∈ biNames, mg x = none
  tab : ∀ d ∈ D, TabB base mg (He.cT K (nmOf p d, none)).1 (He.cT K (nmOf p d, none)).2 ∧ (He.cT K (nmOf p d, none)).2 ∈ c.T

theorem fns_ok {P : Program} {w : World} {K : PySem.W.Frag} {mg : Str → Option Value} {base : Heap} {c : Cfg} (S : Says p D K mg base c) (hD : ∀ d ∈ D, DOk p D d) :
    ∀ (n f : Nat) (d : CD), D[f]? = some d → ∀ fd, FunD K (nmOf p d) (nmOf p d) (defArgs (stOf p d)) (defBody (stOf p d)) (defScope (stOf p d)) [] [] (He.fAd K (nmOf p d, none)) fd →
      FnOk P w K mg base CX0 (2 * n) (He.fAd K (nmOf p d, none)) fd d.ps (spD c (den W D n) f d.ps.length) := by
  intro n
  induction n with
  | zero =>
    intro f d hd fd Fd
    refine ⟨fun vs H Q E h => h.1, fun A outer s H args us vs Q E _ _ _ _ h => ?_⟩
    obtain ⟨_, F, ds, r, _, _, hΦ, _⟩ := h
    cases hΦ
  | succ n ih =>
    intro f d hd fd Fd
    have hm : d ∈ D := List.mem_of_getElem? hd
    have ok := hD d hm
    obtain ⟨oc, od, dV, kV, doc, pm, an, cdv, ct, osl, rfl, lk, hcd, hDf, hKw⟩ := Fd.ex
    show FnOk P w K mg base CX0 (2 * n + 1 + 1) _ _ _ _
    refine fn_of lk hcd ok.sc (fun vs H Q E h => h.1) fun A outer s H vs Q E hr hsp => ?_
    obtain ⟨hlen, F, ds, r, o, a, hΦ, kk⟩ := hsp
    simp only [den, hd] at hΦ
    split at hΦ <;> try (cases hΦ; done)
    rename_i hdl
    refine ⟨tSs c (den W D n) W d.body, chSs_ok (ct := ⟨d.N, tabF p D⟩) (lf := 2 * n) (sc := defScope (stOf p d)) (fnb := fun _ => true) ?_ (passes_of rfl) d.body ok.chk, ?_⟩
    · refine ⟨S.eK, rfl, rfl, ok.sc.nd, rfl, fun _ => rfl, hr, S.free, fun x f' hx => ?_, fun _ => ?_⟩
      · obtain ⟨d', hd', rfl, hm'⟩ := tabF_ok hx
        obtain ⟨fd', Fd'⟩ := S.fn d' hm'
        exact ⟨⟨fd', _, d'.ps, S.at_ d' hm', Fd'.kp, Fd'.bindsN (hD d' hm').bind, ih f' d' hd' fd' Fd', fun ds r h => den_len hd' h⟩⟩
      · obtain ⟨cc, hcc⟩ := He.codeIn_ref hcd
        obtain ⟨t1, t2⟩ := S.tab d hm
        refine ⟨_, _, t2, t1, ?_⟩
        show cdv = _
        rw [hcc]
        exact congrArg Value.ref (He.codeOf_eq (p := (nmOf p d, none)) lk hcc).symm
    · have hNl : ds.length ≤ d.N.length := by
        have := congrArg List.length ok.sc.pre
        rw [List.length_take] at this
        omega
      unfold runD at hΦ
      split at hΦ
      · rename_i r0 hr0
        cases hΦ
        exact ⟨F, H, F, _, _, stb_start o a hNl, hr0, fun v H' F' e dp => kk v H' F' e dp⟩
      · rename_i ρ' hr0
        cases hΦ
        exact ⟨F, H, F, _, _, stb_start o a hNl, hr0, fun σ' H' F' s' e => kk .non H' F' s'.ext .non⟩
      · cases hΦ
end

/-! ### the law -/
/-- walk_ofTs, the frozen part of the heap found at the head -/
theorem walk_tabs {l : PySem.W.OpenLaw} {n k : Nat} {q : Program} {loose : List Str} {XP : (Str → Option Value) → Heap → Prop} {YP : World → Heap → Prop} {d : DefRec} {CX : World → CXT} {x : Str}
    (hn : l.most = some n) (hn2 : n ≤ sizeLine) (hdf : d.params.defaults = []) (hr : Room k callerA)
    (F : ∀ (w : World) (mg : Str → Option Value) (fa : Addr) (h : Heap), YP w h → h.Ns mainGlobals mg → mg d.name = some (.ref fa) → ∃ K : PySem.W.Frag, K.In h ∧ LamX.LawAtS l w K (CX w) k n x mg fa h)
    (hCX : ∀ (w : World) (H : Hp) (s : Shared) (e : Value) (s' : Shared), CX w [] H s (fun _ _ _ => False) e s' → False) :
    PySem.W.WalkO q loose XP YP l.row.toRowW d [] (fun f vs => PySem.call f vs) := by
  refine Att.attach_callB hn hdf fun w s₀ s₁ mg mb fa o pm cd doc a vs ns G Y ho hd hcd hmg hobj hints hlen hbits hg => ?_
  obtain ⟨K, KX, fd, cs, sp, hT, nT, C, hb, hsp, hF⟩ := F w mg fa _ Y G.T.g hmg
  exact LamX.law_callTs KX G.T.g G.T.b G.T.builtins G.T.nolimit hg hT nT C G.T.bmain hobj hints (Nat.le_trans hlen hn2) hr hF hb (fun H hH hS => hsp H a ns hlen hbits hH hS) fun H e s' => hCX w H s₁ e s'
/-- the facts asked of the head -/
def faOf (p : Program) (D : List CD) : List He.Fa := (D.map fun d => He.Fa.glo (nmOf p d)) ++ biNames.map He.Fa.free
def fnOfD (p : Program) (D : List CD) : List He.DefD := D.map (dDof p)
def tfOf (p : Program) (D : List CD) : List He.Defn := D.map fun d => (nmOf p d, none)
abbrev hkOf (m : Nat) (p : Program) (D : List CD) : PySem.W.Hook := He.hookX m (faOf p D) (fnOfD p D) [] (tfOf p D) (fun _ => true)
def noTbl (H : Hp) : Hp := fun b => match H b with
  | some (.tbl _) => none
  | o => o
theorem noTbl_sub (H : Hp) : ∀ b o, noTbl H b = some o → H b = some o := by
  intro b o hb
  unfold noTbl at hb
  split at hb
  · cases hb
  · exact hb
theorem noTbl_no (H : Hp) : ∀ b ps, noTbl H b ≠ some (.tbl ps) := by
  intro b ps hb
  unfold noTbl at hb
  split at hb
  · cases hb
  · rename_i hne
    exact hne ps hb
theorem noTbl_of {H : Hp} {b : Addr} {o : HO} (h : H b = some o) (hn : ∀ ps, o ≠ .tbl ps) : noTbl H b = some o := by
  unfold noTbl
  split
  · rename_i ps q
    rw [h] at q
    cases q
    exact absurd rfl (hn ps)
  · exact h
theorem law_at {l : PySem.W.OpenLaw} {w : World} {D : List CD} {W n k most : Nat} {mg : Str → Option Value} {fa : Addr} {h : Heap} {li : Nat} {ld : CD} {x : Str} (hk : k = 2 * n) (m : Nat)
    (Y : (hkOf m l.prog D).says w h) (G : h.Ns mainGlobals mg) (hD : ∀ d ∈ D, DOk l.prog D d) (hli : D[li]? = some ld) (hps : ld.ps = [x]) (hmg : mg (nmOf l.prog ld) = some (.ref fa))
    (law : ∀ ns : List Int, ns.length ≤ most → (∀ z ∈ ns, Builtin.Int.intBits z ≤ 1048576) → den W D n li [.list (ns.map .int)] = some (.bool true)) :
    ∃ K : PySem.W.Frag, K.In h ∧ LamX.LawAtS l w K CX0 k most x mg fa h := by
  subst hk
  obtain ⟨K, KX, c⟩ := Y
  have cd := c.t.d
  have hlm : ld ∈ D := List.mem_of_getElem? hli
  have fdOf : ∀ d ∈ D, ∃ fd, FunD K (nmOf l.prog d) (nmOf l.prog d) (defArgs (stOf l.prog d)) (defBody (stOf l.prog d)) (defScope (stOf l.prog d)) [] [] (He.fAd K (nmOf l.prog d, none)) fd := fun d hd => He.SaysD.defs cd (d := dDof l.prog d) (List.mem_map.mpr ⟨d, hd, rfl⟩)
  have gl : ∀ {h' : Heap}, K.In h' → h'.Ns mainGlobals mg → ∀ d ∈ D, mg (nmOf l.prog d) = some (.ref (He.fAd K (nmOf l.prog d, none))) := fun KX' G' d hd => He.glo_ok KX' G' (He.SaysD.facts cd (f := .glo (nmOf l.prog d)) (List.mem_append_left _ (List.mem_map.mpr ⟨d, hd, rfl⟩)))
  have fr : ∀ {h' : Heap}, K.In h' → h'.Ns mainGlobals mg → ∀ y ∈ biNames, mg y = none := fun KX' G' y hy => He.free_ok KX' G' (He.SaysD.facts cd (f := .free y) (List.mem_append_right _ (List.mem_map.mpr ⟨y, hy, rfl⟩)))
  obtain ⟨fd, Fd⟩ := fdOf ld hlm
  have e := hmg.symm.trans (gl KX G ld hlm)
  cases e
  refine ⟨K, KX, fd, D.map fun d => He.cT K (nmOf l.prog d, none), spD ⟨K, D.map fun d => (He.cT K (nmOf l.prog d, none)).2⟩ (den W D n) li 1, ?_, ?_, ?_, ?_, ?_, ?_⟩
  · intro q hq
    obtain ⟨d, hd, rfl⟩ := List.mem_map.mp hq
    exact c.empty _ (List.mem_map.mpr ⟨d, hd, rfl⟩)
  · intro q hq
    obtain ⟨d, hd, rfl⟩ := List.mem_map.mp hq
    exact c.out _ (List.mem_map.mpr ⟨d, hd, rfl⟩)
  · intro q hq
    obtain ⟨d, hd, rfl⟩ := List.mem_map.mp hq
    exact PySem.W.codeHd_of_K KX (c.hd _ (List.mem_map.mpr ⟨d, hd, rfl⟩))
  · intro s u
    have := Fd.bindsA (ps := ld.ps) (hD ld hlm).bind s [u] (by rw [hps]; rfl)
    rw [hps] at this
    exact this
  · intro H a ns hns hbits hT hS
    refine ⟨rfl, noTbl H, [.list (ns.map .int)], .bool true, ⟨?_, ?_, ?_⟩, ?_, law ns hns hbits, fun v H' F' _ dp => by cases dp; rfl⟩
    · intro P hP
      obtain ⟨d, hd, rfl⟩ := List.mem_map.mp hP
      exact ⟨#[], hT _ (List.mem_map.mpr ⟨d, hd, rfl⟩), True.intro⟩
    · exact noTbl_sub H
    · exact noTbl_no H
    · refine .cons (.lst (xs := ns.map V.int) ?_ ?_) .nil
      · rcases hS with hS | hS
        · refine .inl ?_
          rcases hS with hS | ⟨o, hS⟩
          · exact .inl (noTbl_of hS fun ps z => by cases z)
          · exact .inr ⟨o, noTbl_of hS fun ps z => by cases z⟩
        · exact .inr hS
      · clear hS hns hbits
        induction ns with
        | nil => exact .nil
        | cons z zs ih => exact .cons (.int _) ih
  · intro base KB GB hTB
    have S : Says l.prog D K mg base ⟨K, D.map fun d => (He.cT K (nmOf l.prog d, none)).2⟩ := ⟨rfl, fdOf, gl KB GB, fr KB GB, fun d hd => ⟨let t := hTB _ (List.mem_map.mpr ⟨d, hd, rfl⟩); ⟨t.code, t.bm, t.gP⟩, List.mem_map.mpr ⟨d, hd, rfl⟩⟩⟩
    have := fns_ok (P := l.prog) (w := w) (W := W) S hD n li ld hli fd Fd
    rw [hps] at this
    exact this
end Cs

set_option maxHeartbeats 8000000
namespace LawX
open PySem PySem.Spec PyProof.Rows L2 GxR Ce Gx Cs
def b_is_ascending : Sms :=
(.cons (.ret (.gen true (.cmp .lt (.sub (.var 0) (.var 1)) (.sub (.var 0) (.bin .add (.var 1) (.int 1)))) (.nm 1) (.rng1 (.bin .sub (.b1 .len (.var 0)) (.int 1))) .no))
.nil)
def d_is_ascending : CD := ⟨1, ["items", "at"], ["items"], b_is_ascending⟩
def b_is_set : Sms :=
(.cons (.ret (.and (.call 0 (.cons (.var 0) .nil)) (.gen true (.cmp .ge (.var 1) (.int 0)) (.nm 1) (.ex (.var 0)) .no)))
.nil)
def d_is_set : CD := ⟨2, ["numbers", "number"], ["numbers"], b_is_set⟩
def b_is_set_below : Sms :=
(.cons (.ret (.and (.call 1 (.cons (.var 1) .nil)) (.gen true (.cmp .lt (.var 2) (.var 0)) (.nm 2) (.ex (.var 1)) .no)))
.nil)
def d_is_set_below : CD := ⟨3, ["n", "numbers", "number"], ["n", "numbers"], b_is_set_below⟩
def b_attackers_of : Sms :=
(.cons (.ret (.lc (.var 3) (.nm 3) (.rng1 (.var 0)) (.yes (.cmp .isin (.tup (.cons (.var 3) (.cons (.var 2) .nil))) (.var 1)))))
.nil)
def d_attackers_of : CD := ⟨5, ["n", "dispute", "argument", "one"], ["n", "dispute", "argument"], b_attackers_of⟩
def b_does_attack : Sms :=
(.cons (.ret (.gen false (.cmp .isin (.tup (.cons (.var 3) (.cons (.var 2) .nil))) (.var 0)) (.nm 3) (.ex (.var 1)) .no))
.nil)
def d_does_attack : CD := ⟨6, ["dispute", "things", "argument", "one"], ["dispute", "things", "argument"], b_does_attack⟩
def b_defended_by : Sms :=
(.cons (.own 3 (.lst .nil))
(.cons (.for (.nm 4) (.rng1 (.var 0))
(.cons (.ife (.gen true (.call 4 (.cons (.var 1) (.cons (.var 2) (.cons (.var 5) .nil)))) (.nm 5) (.ex (.call 3 (.cons (.var 0) (.cons (.var 1) (.cons (.var 4) .nil))))) .no)
(.cons (.app 3 (.var 4))
.nil)
.nil)
.nil))
(.cons (.ret (.bi .tuple (.var 3)))
.nil)))
def d_defended_by : CD := ⟨7, ["n", "dispute", "things", "found", "argument", "one"], ["n", "dispute", "things"], b_defended_by⟩
def b_sure_set : Sms :=
(.cons (.asg (.nm 2) (.tup .nil))
(.cons (.for (.nm 3) (.rng1 (.var 0))
(.cons (.asg (.nm 2) (.call 5 (.cons (.var 0) (.cons (.var 1) (.cons (.var 2) .nil)))))
.nil))
(.cons (.ret (.var 2))
.nil)))
def d_sure_set : CD := ⟨8, ["n", "dispute", "things", "_"], ["n", "dispute"], b_sure_set⟩
def b_plea_for : Sms :=
(.cons (.asg (.nm 3) (.tup .nil))
(.cons (.for (.nm 4) (.rng1 (.bin .add (.var 0) (.int 1)))
(.cons (.asg (.nm 5) (.call 5 (.cons (.var 0) (.cons (.var 1) (.cons (.var 3) .nil)))))
(.cons (.ife (.cmp .isin (.var 2) (.var 5))
(.cons (.ret (.bin .add (.var 3) (.tup (.cons (.var 2) .nil))))
.nil)
.nil)
(.cons (.asg (.nm 3) (.bin .add (.var 3) (.bi .tuple (.lc (.var 6) (.nm 6) (.ex (.var 5)) (.yes (.cmp .notin (.var 6) (.var 3)))))))
.nil))))
(.cons (.ret .non)
.nil)))
def d_plea_for : CD := ⟨9, ["n", "dispute", "argument", "row", "_", "here", "one"], ["n", "dispute", "argument"], b_plea_for⟩
def b_is_plea : Sms :=
(.cons (.ife (.or (.cmp .eq (.b1 .len (.var 3)) (.int 0)) (.or (.cmp .ne (.sub (.var 3) (.neg (.int 1))) (.var 2)) (.cmp .lt (.st true (.var 3)) (.b1 .len (.var 3)))))
(.cons (.ret (.bool false))
.nil)
.nil)
(.cons (.ife (.not (.gen true (.ch2 .le .lt (.int 0) (.var 4) (.var 0)) (.nm 4) (.ex (.var 3)) .no))
(.cons (.ret (.bool false))
.nil)
.nil)
(.cons (.for (.tp (.cons (.nm 5) (.cons (.nm 4) .nil))) (.enum (.var 3))
(.cons (.ife (.not (.gen true (.call 4 (.cons (.var 1) (.cons (.sl (.var 3) .no (.yes (.var 5))) (.cons (.var 6) .nil)))) (.nm 6) (.ex (.call 3 (.cons (.var 0) (.cons (.var 1) (.cons (.var 4) .nil))))) .no))
(.cons (.ret (.bool false))
.nil)
.nil)
.nil))
(.cons (.ret (.bool true))
.nil))))
def d_is_plea : CD := ⟨10, ["n", "dispute", "argument", "row", "one", "at", "other"], ["n", "dispute", "argument", "row"], b_is_plea⟩
def b_is_excuse : Sms :=
(.cons (.ife (.or (.not (.call 2 (.cons (.var 0) (.cons (.var 3) .nil)))) (.cmp .isin (.var 2) (.var 3)))
(.cons (.ret (.bool false))
.nil)
.nil)
(.cons (.ret (.cmp .eq (.call 5 (.cons (.var 0) (.cons (.var 1) (.cons (.var 3) .nil)))) (.var 3)))
.nil))
def d_is_excuse : CD := ⟨11, ["n", "dispute", "argument", "things"], ["n", "dispute", "argument", "things"], b_is_excuse⟩
def b_excuse_for : Sms :=
(.cons (.asg (.nm 3) (.call 6 (.cons (.var 0) (.cons (.var 1) .nil))))
(.cons (.ret (.ife (.cmp .isin (.var 2) (.var 3)) .non (.var 3)))
.nil))
def d_excuse_for : CD := ⟨12, ["n", "dispute", "argument", "things"], ["n", "dispute", "argument"], b_excuse_for⟩
def b__law_cell : Sms :=
(.cons (.ife (.cmp .lt (.var 1) (.b1 .len (.var 0)))
(.cons (.ret (.sub (.var 0) (.var 1)))
.nil)
.nil)
(.cons (.ret (.bin .add (.bin .mul (.int 5) (.var 1)) (.int 3)))
.nil))
def d__law_cell : CD := ⟨14, ["script", "k"], ["script", "k"], b__law_cell⟩
def b__law_draws : Sms :=
(.cons (.asg (.nm 2) (.b1 .abs (.b1 .int (.var 0))))
(.cons (.asg (.nm 3) (.cmp .ge (.var 2) (.bin .pow (.int 10) (.int 18))))
(.cons (.asg (.nm 4) (.var 2))
(.cons (.own 5 (.lst .nil))
(.cons (.for (.nm 6) (.rng1 (.var 1))
(.cons (.ife (.and (.var 3) (.cmp .gt (.var 2) (.int 0)))
(.cons (.app 5 (.bin .mod (.b1 .int (.var 2)) (.int 5040)))
(.cons (.asg (.nm 2) (.bin .fdiv (.var 2) (.int 5040)))
.nil))
(.cons (.asg (.nm 7) (.bin .mod (.b1 .int (.bin .add (.bin .add (.bin .mul (.var 4) (.int 48271)) (.bin .mul (.bin .add (.var 6) (.int 1)) (.int 69621))) (.int 11))) (.int 2147483647)))
(.cons (.asg (.nm 7) (.bin .mod (.b1 .int (.bin .add (.bin .mul (.var 7) (.var 7)) (.bin .mul (.int 40692) (.bin .add (.var 6) (.int 3))))) (.int 2147483399)))
(.cons (.app 5 (.bin .mod (.b1 .int (.bin .fdiv (.var 7) (.int 64))) (.int 5040)))
.nil))))
.nil))
(.cons (.frz [5] (.ret (.var 5)))
.nil))))))
def d__law_draws : CD := ⟨15, ["cell", "count", "rest", "digits", "seed", "draws", "k", "mixed"], ["cell", "count"], b__law_draws⟩
def b__law_is_integer : Sms :=
(.cons (.ret (.and (.isi .int (.var 0)) (.not (.isi .bool (.var 0)))))
.nil)
def d__law_is_integer : CD := ⟨16, ["value"], ["value"], b__law_is_integer⟩
def b__law_is : Sms :=
(.cons (.ife (.isn (.var 1))
(.cons (.ret (.isn (.var 0)))
.nil)
.nil)
(.cons (.ife (.isi .bool (.var 1))
(.cons (.ret (.and (.isi .bool (.var 0)) (.cmp .eq (.var 0) (.var 1))))
.nil)
.nil)
(.cons (.ife (.isi .int (.var 1))
(.cons (.ret (.and (.call 13 (.cons (.var 0) .nil)) (.cmp .eq (.var 0) (.var 1))))
.nil)
.nil)
(.cons (.ife (.isi .str (.var 1))
(.cons (.ret (.and (.isi .str (.var 0)) (.cmp .eq (.var 0) (.var 1))))
.nil)
.nil)
(.cons (.ife (.or (.not (.isi .tuple (.var 0))) (.cmp .ne (.b1 .len (.var 0)) (.b1 .len (.var 1))))
(.cons (.ret (.bool false))
.nil)
.nil)
(.cons (.ret (.bi .all (.lc (.call 14 (.cons (.sub (.var 0) (.var 2)) (.cons (.sub (.var 1) (.var 2)) .nil))) (.nm 2) (.rng1 (.b1 .len (.var 1))) .no)))
.nil))))))
def d__law_is : CD := ⟨17, ["value", "due", "at"], ["value", "due"], b__law_is⟩
def b__law_rising : Sms :=
(.cons (.ret (.bi .all (.lc (.cmp .lt (.sub (.var 0) (.var 1)) (.sub (.var 0) (.bin .add (.var 1) (.int 1)))) (.nm 1) (.rng1 (.bin .sub (.b1 .len (.var 0)) (.int 1))) .no)))
.nil)
def d__law_rising : CD := ⟨18, ["items", "at"], ["items"], b__law_rising⟩
def b__law_is_integers : Sms :=
(.cons (.ret (.and (.isi .tuple (.var 0)) (.bi .all (.lc (.call 13 (.cons (.var 1) .nil)) (.nm 1) (.ex (.var 0)) .no))))
.nil)
def d__law_is_integers : CD := ⟨19, ["value", "number"], ["value"], b__law_is_integers⟩
def b__law_sets : Sms :=
(.cons (.asg (.nm 1) (.lst (.cons (.tup .nil) .nil)))
(.cons (.for (.nm 2) (.rng1 (.var 0))
(.cons (.asg (.nm 1) (.bin .add (.var 1) (.lc (.bin .add (.var 3) (.tup (.cons (.var 2) .nil))) (.nm 3) (.ex (.var 1)) .no)))
.nil))
(.cons (.ret (.lc (.var 3) (.tp (.cons (.nm 4) (.cons (.nm 3) .nil))) (.ex (.bi .sorted (.lc (.tup (.cons (.b1 .len (.var 3)) (.cons (.var 3) .nil))) (.nm 3) (.ex (.var 1)) .no))) .no))
.nil)))
def d__law_sets : CD := ⟨20, ["size", "found", "at", "one", "number"], ["size"], b__law_sets⟩
def b__law_in : Sms :=
(.cons (.ret (.bi .all (.lc (.cmp .isin (.var 2) (.var 1)) (.nm 2) (.ex (.var 0)) .no)))
.nil)
def d__law_in : CD := ⟨21, ["one", "other", "item"], ["one", "other"], b__law_in⟩
def b__law_bent : Sms :=
(.cons (.asg (.nm 3) (.bin .mod (.b1 .int (.sub (.var 1) (.int 0))) (.int 6)))
(.cons (.asg (.nm 4) (.bin .mod (.b1 .int (.sub (.var 1) (.int 1))) (.bin .add (.b1 .len (.var 0)) (.int 1))))
(.cons (.asg (.nm 5) (.sub (.tup (.cons (.bin .sub (.bin .mod (.b1 .int (.sub (.var 1) (.int 2))) (.bin .add (.var 2) (.int 3))) (.int 1)) (.cons (.bin .pow (.int 10) (.int 20)) (.cons (.bin .sub (.int 0) (.int 1)) .nil)))) (.bin .fdiv (.bin .mod (.bin .fdiv (.b1 .int (.sub (.var 1) (.int 2))) (.int 60)) (.int 14)) (.int 6))))
(.cons (.ife (.cmp .eq (.var 3) (.int 0))
(.cons (.ret (.bin .add (.sl (.var 0) .no (.yes (.var 4))) (.sl (.var 0) (.yes (.bin .add (.var 4) (.int 1))) .no)))
.nil)
.nil)
(.cons (.ife (.cmp .eq (.var 3) (.int 1))
(.cons (.ret (.bin .add (.bin .add (.sl (.var 0) .no (.yes (.var 4))) (.tup (.cons (.var 5) .nil))) (.sl (.var 0) (.yes (.var 4)) .no)))
.nil)
.nil)
(.cons (.ife (.cmp .lt (.var 3) (.int 4))
(.cons (.ret (.bin .add (.bin .add (.sl (.var 0) .no (.yes (.var 4))) (.tup (.cons (.var 5) .nil))) (.sl (.var 0) (.yes (.bin .add (.var 4) (.int 1))) .no)))
.nil)
.nil)
(.cons (.ret (.ife (.cmp .eq (.var 3) (.int 4)) (.rev (.var 0)) (.bin .add (.sl (.var 0) .no (.yes (.var 4))) (.sl (.var 0) (.yes (.b2 .max (.int 0) (.bin .sub (.var 4) (.int 1)))) .no))))
.nil)))))))
def d__law_bent : CD := ⟨22, ["row", "draws", "most", "way", "at", "odd"], ["row", "draws", "most"], b__law_bent⟩
def b__law_attacks : Sms :=
(.cons (.asg (.nm 3) (.lst .nil))
(.cons (.for (.nm 4) (.rng1 (.var 0))
(.cons (.asg (.nm 3) (.bin .add (.var 3) (.lc (.tup (.cons (.var 4) (.cons (.var 5) .nil))) (.nm 5) (.rng1 (.var 0)) (.yes (.cmp .eq (.bin .mod (.b1 .int (.sub (.var 1) (.bin .add (.bin .mul (.var 4) (.var 0)) (.var 5)))) (.var 2)) (.int 0))))))
.nil))
(.cons (.ret (.bi .tuple (.var 3)))
.nil)))
def d__law_attacks : CD := ⟨23, ["n", "draws", "often", "found", "a", "b"], ["n", "draws", "often"], b__law_attacks⟩
def b__law_defended : Sms :=
(.cons (.own 3 (.lst .nil))
(.cons (.for (.nm 4) (.rng1 (.var 0))
(.cons (.own 5 (.lst .nil))
(.cons (.for (.nm 7) (.ex (.lc (.sub (.var 6) (.int 0)) (.nm 6) (.ex (.var 1)) (.yes (.cmp .eq (.sub (.var 6) (.int 1)) (.var 4)))))
(.cons (.ife (.cmp .eq (.b1 .len (.lc (.var 8) (.nm 8) (.ex (.var 2)) (.yes (.cmp .isin (.tup (.cons (.var 8) (.cons (.var 7) .nil))) (.var 1))))) (.int 0))
(.cons (.app 5 (.var 7))
.nil)
.nil)
.nil))
(.cons (.ife (.cmp .eq (.b1 .len (.var 5)) (.int 0))
(.cons (.app 3 (.var 4))
.nil)
.nil)
.nil))))
(.cons (.ret (.bi .tuple (.var 3)))
.nil)))
def d__law_defended : CD := ⟨24, ["n", "pairs", "things", "found", "argument", "open_ones", "pair", "attacker", "one"], ["n", "pairs", "things"], b__law_defended⟩
def b__law_sure : Sms :=
(.cons (.asg (.nm 2) (.tup .nil))
(.cons (.for (.nm 3) (.rng1 (.bin .add (.var 0) (.int 1)))
(.cons (.asg (.nm 2) (.call 21 (.cons (.var 0) (.cons (.var 1) (.cons (.var 2) .nil)))))
.nil))
(.cons (.ret (.var 2))
.nil)))
def d__law_sure : CD := ⟨25, ["n", "pairs", "things", "turn"], ["n", "pairs"], b__law_sure⟩
def b__law_dispute : Sms :=
(.cons (.asg (.nm 2) (.call 20 (.cons (.var 1) (.cons (.sl (.var 0) .no (.yes (.int 36))) (.cons (.sub (.tup (.cons (.int 2) (.cons (.int 3) (.cons (.int 4) (.cons (.int 5) (.cons (.int 7) .nil)))))) (.bin .mod (.b1 .int (.sub (.var 0) (.int 36))) (.int 5))) .nil)))))
(.cons (.asg (.nm 3) (.bin .mod (.b1 .int (.sub (.var 0) (.int 37))) (.int 4)))
(.cons (.ife (.cmp .eq (.var 3) (.int 0))
(.cons (.asg (.nm 2) (.bi .tuple (.lc (.var 4) (.nm 4) (.ex (.var 2)) (.yes (.cmp .lt (.sub (.var 4) (.int 0)) (.sub (.var 4) (.int 1)))))))
.nil)
.nil)
(.cons (.ife (.cmp .eq (.var 3) (.int 1))
(.cons (.asg (.nm 2) (.bi .tuple (.lc (.var 4) (.nm 4) (.ex (.var 2)) (.yes (.cmp .eq (.bin .mod (.bin .add (.sub (.var 4) (.int 0)) (.sub (.var 4) (.int 1))) (.int 2)) (.int 1))))))
.nil)
.nil)
(.cons (.ife (.cmp .eq (.var 3) (.int 2))
(.cons (.asg (.nm 2) (.bi .tuple (.lc (.var 4) (.nm 4) (.ex (.var 2)) (.yes (.cmp .ne (.sub (.var 4) (.int 0)) (.sub (.var 4) (.int 1)))))))
.nil)
.nil)
(.cons (.ret (.var 2))
.nil))))))
def d__law_dispute : CD := ⟨26, ["draws", "n", "pairs", "way", "pair"], ["draws", "n"], b__law_dispute⟩
def b__law_plea : Sms :=
(.cons (.ife (.or (.cmp .eq (.b1 .len (.var 3)) (.int 0)) (.or (.cmp .ne (.sub (.var 3) (.bin .sub (.b1 .len (.var 3)) (.int 1))) (.var 2)) (.cmp .ne (.st true (.var 3)) (.b1 .len (.var 3)))))
(.cons (.ret (.bool false))
.nil)
.nil)
(.cons (.for (.tp (.cons (.nm 4) (.cons (.nm 5) .nil))) (.enum (.var 3))
(.cons (.ife (.or (.not (.ch2 .le .lt (.int 0) (.var 5) (.var 0))) (.cmp .notin (.var 5) (.call 21 (.cons (.var 0) (.cons (.var 1) (.cons (.sl (.var 3) .no (.yes (.var 4))) .nil))))))
(.cons (.ret (.bool false))
.nil)
.nil)
.nil))
(.cons (.ret (.bool true))
.nil)))
def d__law_plea : CD := ⟨27, ["n", "pairs", "argument", "row", "at", "one"], ["n", "pairs", "argument", "row"], b__law_plea⟩
def b__law_excuse : Sms :=
(.cons (.ife (.or (.not (.call 15 (.cons (.var 3) .nil))) (.cmp .gt (.b1 .len (.lc (.var 4) (.nm 4) (.ex (.var 3)) (.yes (.not (.ch2 .le .lt (.int 0) (.var 4) (.var 0)))))) (.int 0)))
(.cons (.ret (.bool false))
.nil)
.nil)
(.cons (.ret (.and (.cmp .notin (.var 2) (.var 3)) (.cmp .eq (.call 21 (.cons (.var 0) (.cons (.var 1) (.cons (.var 3) .nil)))) (.var 3))))
.nil))
def d__law_excuse : CD := ⟨28, ["n", "pairs", "argument", "things", "one"], ["n", "pairs", "argument", "things"], b__law_excuse⟩
def b_law : Sms :=
(.cons (.for (.nm 1) (.rng1 (.int 2))
(.cons (.asg (.nm 2) (.call 12 (.cons (.call 11 (.cons (.var 0) (.cons (.var 1) .nil))) (.cons (.int 80) .nil))))
(.cons (.asg (.nm 3) (.sub (.tup (.cons (.int 5) (.cons (.int 4) (.cons (.int 6) (.cons (.int 3) (.cons (.int 6) (.cons (.int 2) (.cons (.int 1) (.cons (.int 0) .nil))))))))) (.bin .mod (.b1 .int (.sub (.var 2) (.int 38))) (.int 8))))
(.cons (.asg (.nm 4) (.call 23 (.cons (.var 2) (.cons (.var 3) .nil))))
(.cons (.asg (.nm 5) (.call 22 (.cons (.var 3) (.cons (.var 4) .nil))))
(.cons (.ife (.not (.call 14 (.cons (.call 6 (.cons (.var 3) (.cons (.var 4) .nil))) (.cons (.var 5) .nil))))
(.cons (.ret (.bool false))
.nil)
.nil)
(.cons (.asg (.nm 7) (.lc (.var 6) (.nm 6) (.ex (.call 17 (.cons (.var 3) .nil))) (.yes (.cmp .eq (.call 21 (.cons (.var 3) (.cons (.var 4) (.cons (.var 6) .nil)))) (.var 6)))))
(.cons (.ife (.not (.bi .all (.lc (.call 18 (.cons (.var 5) (.cons (.var 6) .nil))) (.nm 6) (.ex (.var 7)) .no)))
(.cons (.ret (.bool false))
.nil)
.nil)
(.cons (.for (.nm 8) (.rng1 (.var 3))
(.cons (.asg (.nm 9) (.call 7 (.cons (.var 3) (.cons (.var 4) (.cons (.var 8) .nil)))))
(.cons (.asg (.nm 6) (.call 10 (.cons (.var 3) (.cons (.var 4) (.cons (.var 8) .nil)))))
(.cons (.ife (.or (.cmp .ne (.nisn (.var 9)) (.cmp .isin (.var 8) (.var 5))) (.cmp .ne (.isn (.var 6)) (.cmp .isin (.var 8) (.var 5))))
(.cons (.ret (.bool false))
.nil)
.nil)
(.cons (.ife (.and (.nisn (.var 9)) (.or (.not (.call 16 (.cons (.var 9) .nil))) (.not (.call 24 (.cons (.var 3) (.cons (.var 4) (.cons (.var 8) (.cons (.var 9) .nil))))))))
(.cons (.ret (.bool false))
.nil)
.nil)
(.cons (.ife (.and (.nisn (.var 6)) (.or (.not (.call 16 (.cons (.var 6) .nil))) (.not (.call 25 (.cons (.var 3) (.cons (.var 4) (.cons (.var 8) (.cons (.var 6) .nil))))))))
(.cons (.ret (.bool false))
.nil)
.nil)
(.cons (.for (.nm 10) (.rng1 (.int 5))
(.cons (.asg (.nm 11) (.sl (.var 2) (.yes (.bin .add (.bin .add (.int 39) (.var 10)) (.bin .mul (.int 3) (.var 8)))) (.yes (.bin .add (.bin .add (.int 42) (.var 10)) (.bin .mul (.int 3) (.var 8))))))
(.cons (.asg (.nm 12) (.ife (.nisn (.var 9)) (.var 9) (.bin .add (.var 5) (.tup (.cons (.var 8) .nil)))))
(.cons (.asg (.nm 13) (.ife (.cmp .eq (.var 10) (.int 0)) (.var 12) (.call 19 (.cons (.var 12) (.cons (.var 11) (.cons (.var 3) .nil))))))
(.cons (.ife (.not (.call 14 (.cons (.call 8 (.cons (.var 3) (.cons (.var 4) (.cons (.var 8) (.cons (.var 13) .nil))))) (.cons (.call 24 (.cons (.var 3) (.cons (.var 4) (.cons (.var 8) (.cons (.var 13) .nil))))) .nil))))
(.cons (.ret (.bool false))
.nil)
.nil)
(.cons (.asg (.nm 13) (.bin .add (.var 5) (.tup (.cons (.var 8) .nil))))
(.cons (.ife (.and (.cmp .eq (.var 10) (.int 4)) (.not (.call 14 (.cons (.call 8 (.cons (.var 3) (.cons (.var 4) (.cons (.var 8) (.cons (.var 13) .nil))))) (.cons (.call 24 (.cons (.var 3) (.cons (.var 4) (.cons (.var 8) (.cons (.var 13) .nil))))) .nil)))))
(.cons (.ret (.bool false))
.nil)
.nil)
(.cons (.asg (.nm 12) (.ife (.nisn (.var 6)) (.var 6) (.sub (.var 7) (.bin .mod (.b1 .int (.sub (.var 11) (.int 0))) (.b1 .len (.var 7))))))
(.cons (.asg (.nm 13) (.ife (.cmp .eq (.var 10) (.int 0)) (.var 12) (.call 19 (.cons (.var 12) (.cons (.var 11) (.cons (.var 3) .nil))))))
(.cons (.ife (.cmp .eq (.var 10) (.int 1))
(.cons (.asg (.nm 13) (.sub (.var 7) (.bin .mod (.b1 .int (.sub (.var 11) (.int 1))) (.b1 .len (.var 7)))))
.nil)
.nil)
(.cons (.ife (.not (.call 14 (.cons (.call 9 (.cons (.var 3) (.cons (.var 4) (.cons (.var 8) (.cons (.var 13) .nil))))) (.cons (.call 25 (.cons (.var 3) (.cons (.var 4) (.cons (.var 8) (.cons (.var 13) .nil))))) .nil))))
(.cons (.ret (.bool false))
.nil)
.nil)
.nil)))))))))))
.nil)))))))
.nil)))))))))
(.cons (.ret (.bool true))
.nil))
def d_law : CD := ⟨29, ["script", "turn", "draws", "n", "pairs", "sure", "things", "fixed", "argument", "row", "k", "part", "base", "bent"], ["script"], b_law⟩
def D : List CD := [d_is_ascending, d_is_set, d_is_set_below, d_attackers_of, d_does_attack, d_defended_by, d_sure_set, d_plea_for, d_is_plea, d_is_excuse, d_excuse_for, d__law_cell, d__law_draws, d__law_is_integer, d__law_is, d__law_rising, d__law_is_integers, d__law_sets, d__law_in, d__law_bent, d__law_attacks, d__law_defended, d__law_sure, d__law_dispute, d__law_plea, d__law_excuse, d_law]
abbrev P0 : Program := PySem.Challenge.pw_kindhall_k34_whole_pleas_or_excuses
theorem ok_is_ascending : DOk P0 D d_is_ascending := ⟨by kernel_rfl, ⟨by kernel_rfl, by kernel_rfl, by kernel_rfl, by decide +kernel, by decide +kernel, by decide +kernel, by decide +kernel⟩, fun _ _ _ _ _ _ us hl => match us, hl with | [_], _ => rfl⟩
theorem ok_is_set : DOk P0 D d_is_set := ⟨by kernel_rfl, ⟨by kernel_rfl, by kernel_rfl, by kernel_rfl, by decide +kernel, by decide +kernel, by decide +kernel, by decide +kernel⟩, fun _ _ _ _ _ _ us hl => match us, hl with | [_], _ => rfl⟩
theorem ok_is_set_below : DOk P0 D d_is_set_below := ⟨by kernel_rfl, ⟨by kernel_rfl, by kernel_rfl, by kernel_rfl, by decide +kernel, by decide +kernel, by decide +kernel, by decide +kernel⟩, fun _ _ _ _ _ _ us hl => match us, hl with | [_, _], _ => rfl⟩
theorem ok_attackers_of : DOk P0 D d_attackers_of := ⟨by kernel_rfl, ⟨by kernel_rfl, by kernel_rfl, by kernel_rfl, by decide +kernel, by decide +kernel, by decide +kernel, by decide +kernel⟩, fun _ _ _ _ _ _ us hl => match us, hl with | [_, _, _], _ => rfl⟩
theorem ok_does_attack : DOk P0 D d_does_attack := ⟨by kernel_rfl, ⟨by kernel_rfl, by kernel_rfl, by kernel_rfl, by decide +kernel, by decide +kernel, by decide +kernel, by decide +kernel⟩, fun _ _ _ _ _ _ us hl => match us, hl with | [_, _, _], _ => rfl⟩
theorem ok_defended_by : DOk P0 D d_defended_by := ⟨by kernel_rfl, ⟨by kernel_rfl, by kernel_rfl, by kernel_rfl, by decide +kernel, by decide +kernel, by decide +kernel, by decide +kernel⟩, fun _ _ _ _ _ _ us hl => match us, hl with | [_, _, _], _ => rfl⟩
theorem ok_sure_set : DOk P0 D d_sure_set := ⟨by kernel_rfl, ⟨by kernel_rfl, by kernel_rfl, by kernel_rfl, by decide +kernel, by decide +kernel, by decide +kernel, by decide +kernel⟩, fun _ _ _ _ _ _ us hl => match us, hl with | [_, _], _ => rfl⟩
theorem ok_plea_for : DOk P0 D d_plea_for := ⟨by kernel_rfl, ⟨by kernel_rfl, by kernel_rfl, by kernel_rfl, by decide +kernel, by decide +kernel, by decide +kernel, by decide +kernel⟩, fun _ _ _ _ _ _ us hl => match us, hl with | [_, _, _], _ => rfl⟩
theorem ok_is_plea : DOk P0 D d_is_plea := ⟨by kernel_rfl, ⟨by kernel_rfl, by kernel_rfl, by kernel_rfl, by decide +kernel, by decide +kernel, by decide +kernel, by decide +kernel⟩, fun _ _ _ _ _ _ us hl => match us, hl with | [_, _, _, _], _ => rfl⟩
theorem ok_is_excuse : DOk P0 D d_is_excuse := ⟨by kernel_rfl, ⟨by kernel_rfl, by kernel_rfl, by kernel_rfl, by decide +kernel, by decide +kernel, by decide +kernel, by decide +kernel⟩, fun _ _ _ _ _ _ us hl => match us, hl with | [_, _, _, _], _ => rfl⟩
theorem ok_excuse_for : DOk P0 D d_excuse_for := ⟨by kernel_rfl, ⟨by kernel_rfl, by kernel_rfl, by kernel_rfl, by decide +kernel, by decide +kernel, by decide +kernel, by decide +kernel⟩, fun _ _ _ _ _ _ us hl => match us, hl with | [_, _, _], _ => rfl⟩
theorem ok__law_cell : DOk P0 D d__law_cell := ⟨by kernel_rfl, ⟨by kernel_rfl, by kernel_rfl, by kernel_rfl, by decide +kernel, by decide +kernel, by decide +kernel, by decide +kernel⟩, fun _ _ _ _ _ _ us hl => match us, hl with | [_, _], _ => rfl⟩
theorem ok__law_draws : DOk P0 D d__law_draws := ⟨by kernel_rfl, ⟨by kernel_rfl, by kernel_rfl, by kernel_rfl, by decide +kernel, by decide +kernel, by decide +kernel, by decide +kernel⟩, fun _ _ _ _ _ _ us hl => match us, hl with | [_, _], _ => rfl⟩
theorem ok__law_is_integer : DOk P0 D d__law_is_integer := ⟨by kernel_rfl, ⟨by kernel_rfl, by kernel_rfl, by kernel_rfl, by decide +kernel, by decide +kernel, by decide +kernel, by decide +kernel⟩, fun _ _ _ _ _ _ us hl => match us, hl with | [_], _ => rfl⟩
theorem ok__law_is : DOk P0 D d__law_is := ⟨by kernel_rfl, ⟨by kernel_rfl, by kernel_rfl, by kernel_rfl, by decide +kernel, by decide +kernel, by decide +kernel, by decide +kernel⟩, fun _ _ _ _ _ _ us hl => match us, hl with | [_, _], _ => rfl⟩
theorem ok__law_rising : DOk P0 D d__law_rising := ⟨by kernel_rfl, ⟨by kernel_rfl, by kernel_rfl, by kernel_rfl, by decide +kernel, by decide +kernel, by decide +kernel, by decide +kernel⟩, fun _ _ _ _ _ _ us hl => match us, hl with | [_], _ => rfl⟩
theorem ok__law_is_integers : DOk P0 D d__law_is_integers := ⟨by kernel_rfl, ⟨by kernel_rfl, by kernel_rfl, by kernel_rfl, by decide +kernel, by decide +kernel, by decide +kernel, by decide +kernel⟩, fun _ _ _ _ _ _ us hl => match us, hl with | [_], _ => rfl⟩
theorem ok__law_sets : DOk P0 D d__law_sets := ⟨by kernel_rfl, ⟨by kernel_rfl, by kernel_rfl, by kernel_rfl, by decide +kernel, by decide +kernel, by decide +kernel, by decide +kernel⟩, fun _ _ _ _ _ _ us hl => match us, hl with | [_], _ => rfl⟩
theorem ok__law_in : DOk P0 D d__law_in := ⟨by kernel_rfl, ⟨by kernel_rfl, by kernel_rfl, by kernel_rfl, by decide +kernel, by decide +kernel, by decide +kernel, by decide +kernel⟩, fun _ _ _ _ _ _ us hl => match us, hl with | [_, _], _ => rfl⟩
theorem ok__law_bent : DOk P0 D d__law_bent := ⟨by kernel_rfl, ⟨by kernel_rfl, by kernel_rfl, by kernel_rfl, by decide +kernel, by decide +kernel, by decide +kernel, by decide +kernel⟩, fun _ _ _ _ _ _ us hl => match us, hl with | [_, _, _], _ => rfl⟩
theorem ok__law_attacks : DOk P0 D d__law_attacks := ⟨by kernel_rfl, ⟨by kernel_rfl, by kernel_rfl, by kernel_rfl, by decide +kernel, by decide +kernel, by decide +kernel, by decide +kernel⟩, fun _ _ _ _ _ _ us hl => match us, hl with | [_, _, _], _ => rfl⟩
theorem ok__law_defended : DOk P0 D d__law_defended := ⟨by kernel_rfl, ⟨by kernel_rfl, by kernel_rfl, by kernel_rfl, by decide +kernel, by decide +kernel, by decide +kernel, by decide +kernel⟩, fun _ _ _ _ _ _ us hl => match us, hl with | [_, _, _], _ => rfl⟩
theorem ok__law_sure : DOk P0 D d__law_sure := ⟨by kernel_rfl, ⟨by kernel_rfl, by kernel_rfl, by kernel_rfl, by decide +kernel, by decide +kernel, by decide +kernel, by decide +kernel⟩, fun _ _ _ _ _ _ us hl => match us, hl with | [_, _], _ => rfl⟩
theorem ok__law_dispute : DOk P0 D d__law_dispute := ⟨by kernel_rfl, ⟨by kernel_rfl, by kernel_rfl, by kernel_rfl, by decide +kernel, by decide +kernel, by decide +kernel, by decide +kernel⟩, fun _ _ _ _ _ _ us hl => match us, hl with | [_, _], _ => rfl⟩
theorem ok__law_plea : DOk P0 D d__law_plea := ⟨by kernel_rfl, ⟨by kernel_rfl, by kernel_rfl, by kernel_rfl, by decide +kernel, by decide +kernel, by decide +kernel, by decide +kernel⟩, fun _ _ _ _ _ _ us hl => match us, hl with | [_, _, _, _], _ => rfl⟩
theorem ok__law_excuse : DOk P0 D d__law_excuse := ⟨by kernel_rfl, ⟨by kernel_rfl, by kernel_rfl, by kernel_rfl, by decide +kernel, by decide +kernel, by decide +kernel, by decide +kernel⟩, fun _ _ _ _ _ _ us hl => match us, hl with | [_, _, _, _], _ => rfl⟩
theorem ok_law : DOk P0 D d_law := ⟨by kernel_rfl, ⟨by kernel_rfl, by kernel_rfl, by kernel_rfl, by decide +kernel, by decide +kernel, by decide +kernel, by decide +kernel⟩, fun _ _ _ _ _ _ us hl => match us, hl with | [_], _ => rfl⟩
theorem okD : ∀ d ∈ D, DOk P0 D d := by
  intro d hd
  simp only [D, List.mem_cons, List.not_mem_nil, or_false] at hd
  rcases hd with rfl | rfl | rfl | rfl | rfl | rfl | rfl | rfl | rfl | rfl | rfl | rfl | rfl | rfl | rfl | rfl | rfl | rfl | rfl | rfl | rfl | rfl | rfl | rfl | rfl | rfl | rfl
  · exact ok_is_ascending
  · exact ok_is_set
  · exact ok_is_set_below
  · exact ok_attackers_of
  · exact ok_does_attack
  · exact ok_defended_by
  · exact ok_sure_set
  · exact ok_plea_for
  · exact ok_is_plea
  · exact ok_is_excuse
  · exact ok_excuse_for
  · exact ok__law_cell
  · exact ok__law_draws
  · exact ok__law_is_integer
  · exact ok__law_is
  · exact ok__law_rising
  · exact ok__law_is_integers
  · exact ok__law_sets
  · exact ok__law_in
  · exact ok__law_bent
  · exact ok__law_attacks
  · exact ok__law_defended
  · exact ok__law_sure
  · exact ok__law_dispute
  · exact ok__law_plea
  · exact ok__law_excuse
  · exact ok_law
abbrev R : PySem.W.OpenRow := PySem.W.OpenLaw.row PySem.Challenge.rw_kindhall_k34_whole_pleas_or_excuses
abbrev hk : PySem.W.Hook := hkOf 4 P0 D
def ob (s : PySem.W.SharedT) : He.AlX := He.obsX 4 (faOf P0 D) (fnOfD P0 D) [] (tfOf P0 D) (fun _ => true) (HandSHeadRun.getT s)
theorem ob_eq (s : PySem.W.SharedT) : ob s = hk.obs s.abs := He.obsX_eq (HandSHeadRun.getT_eq s)
def loose : List Str := ["is_ascending", "is_set", "is_set_below", "attackers_of", "does_attack", "defended_by", "sure_set", "plea_for", "is_plea", "is_excuse", "excuse_for", "_law_cell", "_law_draws", "_law_is_integer", "_law_is", "_law_rising", "_law_is_integers", "_law_sets", "_law_in", "_law_bent", "_law_attacks", "_law_defended", "_law_sure", "_law_dispute", "_law_plea", "_law_excuse", "__name__"]
theorem run (w : World) : HandSHeadRun.RunEq R (PySem.W.view R.prog [29]) hk ob 4000 loose w := by
  intro os
  kernel_rfl
end LawX

set_option maxHeartbeats 4000000
/-! Plain laws of the core language. -/
namespace Pu
open PySem Ce Cs

/-! ### encodings -/
abbrev eI (i : Int) : PyData := .int i
abbrev eT (xs : List Int) : PyData := .tuple (xs.map .int)
abbrev eL (xs : List Int) : PyData := .list (xs.map .int)
/-- the number at a place -/
def nth (xs : List Int) (i : Int) : Int := xs.getD i.toNat 0

theorem gd_lim {α : Type} {n : Nat} {x : Option α} (h : n ≤ 1000000) : gd (n ≤ LIM) x = x := gd_pos (by unfold LIM; omega)
theorem gd_llim {α : Type} {n : Nat} {x : Option α} (h : n < 1000000) : gd (n < LIM) x = x := gd_pos (by unfold LIM; omega)
theorem lim_ok {n : Nat} (h : n ≤ 1000000) : n ≤ LIM := by unfold LIM; omega
theorem lim_lt {n : Nat} (h : n < 1000000) : n < LIM := by unfold LIM; omega
theorem rng_of {a b : Int} (h1 : -1000000 ≤ a) (h2 : a ≤ 1000000) (h3 : -1000000 ≤ b) (h4 : b ≤ 1000000) : rng a b = some ((List.range (b - a).toNat).map fun (k : Nat) => PyData.int (a + (k : Int))) := by
  unfold rng LIM
  rw [gd_pos]
  omega
theorem rng0 {b : Int} (h3 : -1000000 ≤ b) (h4 : b ≤ 1000000) : rng 0 b = some ((List.range b.toNat).map fun (k : Nat) => PyData.int (k : Int)) := by
  rw [rng_of (by omega) (by omega) h3 h4]
  simp
/-- a, a + 1, .. b - 1 -/
def ivs (a b : Int) : List Int := (List.range (b - a).toNat).map fun (k : Nat) => a + (k : Int)
theorem mem_ivs {a b x : Int} : x ∈ ivs a b ↔ a ≤ x ∧ x < b := by
  unfold ivs
  rw [List.mem_map]
  constructor
  · rintro ⟨k, hk, rfl⟩
    have := List.mem_range.mp hk
    omega
  · rintro ⟨h1, h2⟩
    exact ⟨(x - a).toNat, List.mem_range.mpr (by omega), by omega⟩
theorem ivs_length (a b : Int) : (ivs a b).length = (b - a).toNat := by simp [ivs]
theorem rngI {a b : Int} (h1 : -1000000 ≤ a) (h2 : a ≤ 1000000) (h3 : -1000000 ≤ b) (h4 : b ≤ 1000000) : rng a b = some ((ivs a b).map PyData.int) := by
  rw [rng_of h1 h2 h3 h4]
  simp [ivs]
theorem atI_of {α : Type} {xs : List α} {i : Int} (h0 : 0 ≤ i) (h1 : i < xs.length) : L2.atI xs i = xs[i.toNat]? := by
  unfold L2.atI L2.ixN
  rw [if_pos h0, if_pos h1]
  rfl
theorem index_T {xs : List Int} {i : Int} (h0 : 0 ≤ i) (h1 : i < xs.length) : L2.atI (xs.map PyData.int) i = some (.int (nth xs i)) := by
  have hl : i.toNat < xs.length := by omega
  rw [atI_of h0 (by simpa using h1), List.getElem?_map, List.getElem?_eq_getElem hl]
  simp [nth, List.getD, List.getElem?_eq_getElem hl]
theorem index_M {α : Type} {enc : α → PyData} {xs : List α} {i : Int} {d : α} (h0 : 0 ≤ i) (h1 : i < xs.length) : L2.atI (xs.map enc) i = some (enc (xs.getD i.toNat d)) := by
  have hl : i.toNat < xs.length := by omega
  rw [atI_of h0 (by simpa using h1), List.getElem?_map, List.getElem?_eq_getElem hl]
  simp [List.getD, List.getElem?_eq_getElem hl]
theorem nth_mem {xs : List Int} {i : Int} (h0 : 0 ≤ i) (h1 : i < xs.length) : nth xs i ∈ xs := by
  have hl : i.toNat < xs.length := by omega
  simp [nth, List.getD, List.getElem?_eq_getElem hl]

/-! ### comprehensions and loops -/
theorem lcF_map {α : Type} {enc : α → PyData} {f : PyData → Option (Option PyData)} {g : α → Option PyData} : ∀ {xs : List α}, (∀ x ∈ xs, f (enc x) = some (g x)) → lcF f (xs.map enc) = some (xs.filterMap g)
  | [], _ => rfl
  | x :: xs, h => by
    have ih := lcF_map (enc := enc) (f := f) (g := g) (xs := xs) fun y hy => h y (List.mem_cons_of_mem _ hy)
    rw [List.map_cons, List.filterMap_cons]
    unfold lcF
    rw [h x List.mem_cons_self]
    cases g x with
    | none => simpa using ih
    | some y => simp [ih]
/-- no test -/
theorem lcF_all {α β : Type} {enc : α → PyData} {enc' : β → PyData} {f : PyData → Option (Option PyData)} {g : α → β} {xs : List α} (h : ∀ x ∈ xs, f (enc x) = some (some (enc' (g x)))) : lcF f (xs.map enc) = some ((xs.map g).map enc') := by
  rw [lcF_map (g := fun x => some (enc' (g x))) h, List.filterMap_eq_map', List.map_map]
  rfl
/-- with a test -/
theorem lcF_if {α β : Type} {enc : α → PyData} {enc' : β → PyData} {f : PyData → Option (Option PyData)} {p : α → Bool} {g : α → β} {xs : List α} (h : ∀ x ∈ xs, f (enc x) = some (if p x = true then some (enc' (g x)) else none)) : lcF f (xs.map enc) = some (((xs.filter p).map g).map enc') := by
  rw [lcF_map (g := fun x => if p x = true then some (enc' (g x)) else none) h]
  clear h
  congr 1
  induction xs with
  | nil => rfl
  | cons x xs ih =>
    rw [List.filterMap_cons, List.filter_cons]
    cases p x <;> simp [ih]
theorem genF_all {α : Type} {enc : α → PyData} {f : PyData → Option (Option Bool)} {p : α → Bool} : ∀ {xs : List α}, (∀ x ∈ xs, f (enc x) = some (some (p x))) → genF true f (xs.map enc) = some (xs.all p)
  | [], _ => rfl
  | x :: xs, h => by
    have ih := genF_all (enc := enc) (f := f) (p := p) (xs := xs) fun y hy => h y (List.mem_cons_of_mem _ hy)
    rw [List.map_cons, List.all_cons]
    unfold genF
    rw [h x List.mem_cons_self]
    cases p x <;> simp [ih]
theorem genF_any {α : Type} {enc : α → PyData} {f : PyData → Option (Option Bool)} {p : α → Bool} : ∀ {xs : List α}, (∀ x ∈ xs, f (enc x) = some (some (p x))) → genF false f (xs.map enc) = some (xs.any p)
  | [], _ => rfl
  | x :: xs, h => by
    have ih := genF_any (enc := enc) (f := f) (p := p) (xs := xs) fun y hy => h y (List.mem_cons_of_mem _ hy)
    rw [List.map_cons, List.any_cons]
    unfold genF
    rw [h x List.mem_cons_self]
    cases p x <;> simp [ih]
@[simp] theorem bools_map {α : Type} {p : α → Bool} : ∀ (xs : List α), bools? (xs.map fun x => PyData.bool (p x)) = some (xs.map p)
  | [] => rfl
  | x :: xs => by simp [bools_map xs]
@[simp] theorem bools_comp {α : Type} {p : α → Bool} (xs : List α) : bools? (xs.map (PyData.bool ∘ p)) = some (xs.map p) := bools_map xs
@[simp] theorem ite_some' {α : Type} (c : Prop) [Decidable c] (a b : α) : (if c then some a else some b) = some (if c then a else b) := by split <;> rfl
@[simp] theorem bools_of : ∀ (bs : List Bool), bools? (bs.map PyData.bool) = some bs
  | [] => rfl
  | x :: xs => by simp [bools_of xs]
@[simp] theorem ints_map {α : Type} {p : α → Int} : ∀ (xs : List α), ints? (xs.map fun x => PyData.int (p x)) = some (xs.map p)
  | [] => rfl
  | x :: xs => by simp [ints_map xs]
@[simp] theorem ints_comp {α : Type} {p : α → Int} (xs : List α) : ints? (xs.map (PyData.int ∘ p)) = some (xs.map p) := ints_map xs
@[simp] theorem ints_of : ∀ (bs : List Int), ints? (bs.map PyData.int) = some bs
  | [] => rfl
  | x :: xs => by simp [ints_of xs]
/-- a loop that only changes the state -/
theorem forF_inv {α : Type} {enc : α → PyData} {f : PyData → Rho → Option Res} (I : Nat → Rho → Prop) : ∀ {xs : List α} (k : Nat) (ρ : Rho), I k ρ → (∀ i x ρ, xs[i]? = some x → I (k + i) ρ → ∃ ρ', f (enc x) ρ = some (.nx ρ') ∧ I (k + i + 1) ρ') → ∃ ρ', forF f (xs.map enc) ρ = some (.nx ρ') ∧ I (k + xs.length) ρ'
  | [], k, ρ, h0, _ => ⟨ρ, rfl, h0⟩
  | x :: xs, k, ρ, h0, h => by
    obtain ⟨ρ1, h1, h2⟩ := h 0 x ρ rfl h0
    obtain ⟨ρ2, h3, h4⟩ := forF_inv I (xs := xs) (k + 1) ρ1 h2 fun i y ρ hy hI => by
      have e : k + 1 + i = k + (i + 1) := by omega
      rw [e] at hI ⊢
      exact h (i + 1) y ρ (by simpa using hy) hI
    refine ⟨ρ2, ?_, ?_⟩
    · rw [List.map_cons]
      unfold forF
      rw [h1]
      simpa using h3
    · have e : k + (x :: xs).length = k + 1 + xs.length := by simp; omega
      rw [e]; exact h4
/-- .. for each of the things, whatever came ahead -/
theorem forF_each {α : Type} {enc : α → PyData} {f : PyData → Rho → Option Res} (I : Rho → Prop) {xs : List α} {ρ : Rho} (h0 : I ρ) (h : ∀ x ∈ xs, ∀ ρ, I ρ → ∃ ρ', f (enc x) ρ = some (.nx ρ') ∧ I ρ') : ∃ ρ', forF f (xs.map enc) ρ = some (.nx ρ') ∧ I ρ' := by
  obtain ⟨ρ', h1, h2⟩ := forF_inv (enc := enc) (f := f) (fun _ => I) (xs := xs) 0 ρ h0 fun i x ρ hx hI => h x (List.mem_of_getElem? hx) ρ hI
  exact ⟨ρ', h1, h2⟩
/-- a fold -/
theorem forF_fold {α S : Type} {enc : α → PyData} {f : PyData → Rho → Option Res} (R : S → Rho) (step : S → α → S) : ∀ {xs : List α} (s : S), (∀ x ∈ xs, ∀ s, f (enc x) (R s) = some (.nx (R (step s x)))) → forF f (xs.map enc) (R s) = some (.nx (R (xs.foldl step s)))
  | [], s, _ => rfl
  | x :: xs, s, h => by
    have ih := forF_fold R step (xs := xs) (step s x) fun y hy s => h y (List.mem_cons_of_mem _ hy) s
    rw [List.map_cons]
    unfold forF
    rw [h x List.mem_cons_self]
    simpa using ih
/-- the meaning of a def, one call deeper -/
theorem den_run {W : Nat} {D : List CD} {n f : Nat} {d : CD} {ds : List PyData} (h : D[f]? = some d) (hl : ds.length = d.ps.length) : den W D (n + 1) f ds = runD (den W D n) W d.N.length d.body ds := by
  show (match D[f]? with | some d => if ds.length = d.ps.length then runD (den W D n) W d.N.length d.body ds else none | none => none) = _
  rw [h]
  exact if_pos hl


/-! ### equality of encodings -/
theorem eqvAll_map {α : Type} [DecidableEq α] {f : α → PyData} (h : ∀ a b, PyData.eqv (f a) (f b) = decide (a = b)) : ∀ xs ys : List α, PyData.eqvAll (xs.map f) (ys.map f) = decide (xs = ys)
  | [], [] => by simp [PyData.eqvAll]
  | [], _ :: _ => by simp [PyData.eqvAll]
  | _ :: _, [] => by simp [PyData.eqvAll]
  | x :: xs, y :: ys => by
    rw [List.map_cons, List.map_cons, PyData.eqvAll, h x y, eqvAll_map h xs ys]
    simp only [List.cons.injEq]
    by_cases h1 : x = y <;> by_cases h2 : xs = ys <;> simp [h1, h2]
@[simp] theorem eqv_int (a b : Int) : PyData.eqv (.int a) (.int b) = decide (a = b) := by
  rw [PyData.eqv]
  rfl
@[simp] theorem eqv_bool (a b : Bool) : PyData.eqv (.bool a) (.bool b) = decide (a = b) := by
  rw [PyData.eqv]
  cases a <;> cases b <;> rfl
@[simp] theorem eqv_str (a b : Str) : PyData.eqv (.str a) (.str b) = decide (a = b) := by
  rw [PyData.eqv]
  rfl
@[simp] theorem eqv_T (xs ys : List Int) : PyData.eqv (eT xs) (eT ys) = decide (xs = ys) := by
  rw [PyData.eqv, eqvAll_map eqv_int]
@[simp] theorem eqv_L (xs ys : List Int) : PyData.eqv (eL xs) (eL ys) = decide (xs = ys) := by
  rw [PyData.eqv, eqvAll_map eqv_int]
@[simp] theorem eqv_TT (xs ys : List (List Int)) : PyData.eqv (.tuple (xs.map eT)) (.tuple (ys.map eT)) = decide (xs = ys) := by
  rw [PyData.eqv, eqvAll_map eqv_T]
@[simp] theorem any_mem {α : Type} [DecidableEq α] (x : α) (ys : List α) : (ys.any fun y => decide (y = x)) = decide (x ∈ ys) := by
  induction ys with
  | nil => simp
  | cons y ys ih =>
    rw [List.any_cons, ih]
    by_cases h : y = x
    · simp [h]
    · have h' : ¬ x = y := fun e => h e.symm
      simp [h, h']
@[simp] theorem pk_ints (k : Nat) (xs : List Int) : (xs.map PyData.int).all (pk k) = true := by
  rw [List.all_eq_true]
  intro d hd
  obtain ⟨x, _, rfl⟩ := List.mem_map.mp hd
  cases k <;> rfl
@[simp] theorem pk_tups (k : Nat) (xs : List (List Int)) : (xs.map eT).all (pk (k + 1)) = true := by
  rw [List.all_eq_true]
  intro d hd
  obtain ⟨x, _, rfl⟩ := List.mem_map.mp hd
  simp
theorem map_all {α : Type} {p q : α → Bool} {xs : List α} (h : ∀ x ∈ xs, p x = q x) : xs.all p = xs.all q := by
  induction xs with
  | nil => rfl
  | cons x xs ih => rw [List.all_cons, List.all_cons, h x List.mem_cons_self, ih fun y hy => h y (List.mem_cons_of_mem _ hy)]


theorem map_filter_id {α : Type} (xs : List α) : xs.map (fun x => x) = xs := List.map_id' xs
theorem cut_map {α β : Type} (f : α → β) (xs : List α) (lo hi : Option Int) : cut (xs.map f) lo hi = (cut xs lo hi).map f := by
  unfold cut
  rw [List.length_map, List.map_take, List.map_drop]
theorem cut_length {α : Type} (xs : List α) (lo hi : Option Int) : (cut xs lo hi).length ≤ xs.length := by
  unfold cut
  rw [List.length_take, List.length_drop]
  omega
/-- of a list, the numbers with a property -/
theorem lc_ints {f : PyData → Option (Option PyData)} {p : Int → Bool} {xs : List Int} (h : ∀ x ∈ xs, f (.int x) = some (if p x = true then some (.int x) else none)) : lcF f (xs.map .int) = some ((xs.filter p).map .int) := by
  rw [lcF_if (enc' := PyData.int) (p := p) (g := fun x => x) h, List.map_id']
theorem lc_bools {f : PyData → Option (Option PyData)} {p : Int → Bool} {xs : List Int} (h : ∀ x ∈ xs, f (.int x) = some (some (.bool (p x)))) : lcF f (xs.map .int) = some ((xs.map p).map .bool) := lcF_all h
theorem gen_ints {f : PyData → Option (Option Bool)} {p : Int → Bool} {xs : List Int} (h : ∀ x ∈ xs, f (.int x) = some (some (p x))) : genF true f (xs.map .int) = some (xs.all p) := genF_all h

/-! ### statements in a row -/
section
variable {Φ : Fns} {n k : Nat} {ρ ρ' : Rho} {r : Sms} {x : Option Res} {d : PyData}
theorem runD_of {body : Sms} {ds : List PyData} (h : exSs Φ n body (startR k ds) = some (.rt d)) : runD Φ n k body ds = some d := by
  unfold runD
  rw [h]
theorem st_asg {t : Tg} {e : Ex} (he : ev Φ e ρ false = some d) (hb : bindT t d ρ = some ρ') (hr : exSs Φ n r ρ' = x) : exSs Φ n (.cons (.asg t e) r) ρ = x := by
  simp [he, hb, hr]
theorem st_own {i : Nat} {e : Ex} (he : ev Φ e ρ false = some d) (hm : isMut d = true) (hi : i < ρ.length) (hr : exSs Φ n r (ρ.set i (.ow d)) = x) : exSs Φ n (.cons (.own i e) r) ρ = x := by
  simp only [exSs, exS, he, Option.bind_some, hm, hi, and_self, if_true, hr]
theorem st_not {c : Ex} {a : Sms} (hc : tst Φ c ρ = some false) (hr : exSs Φ n r ρ = x) : exSs Φ n (.cons (.ife c a .nil) r) ρ = x := by
  simp only [exSs, exS, hc, Option.bind_some, Bool.false_eq_true, if_false, hr]
theorem st_for {α : Type} {enc : α → PyData} {xs : List α} {t : Tg} {i : Ce.It} {b : Sms} (I : Rho → Prop) (hi : itms Φ i ρ false = some (xs.map enc)) (h0 : I ρ) (h : ∀ x ∈ xs, ∀ ρ, I ρ → ∃ ρ1 ρ2, bindT t (enc x) ρ = some ρ1 ∧ exSs Φ n b ρ1 = some (.nx ρ2) ∧ I ρ2)
    (hr : ∀ ρ', I ρ' → exSs Φ n r ρ' = x) : exSs Φ n (.cons (.for t i b) r) ρ = x := by
  obtain ⟨ρ', h1, h2⟩ := forF_each (enc := enc) (f := fun d ρ' => (bindT t d ρ').bind (exSs Φ n b)) I (xs := xs) h0 fun x hx ρ hI => by
    obtain ⟨ρ1, ρ2, q1, q2, q3⟩ := h x hx ρ hI
    exact ⟨ρ2, by rw [q1]; exact q2, q3⟩
  simp only [exSs, exS, hi, Option.bind_some, h1]
  exact hr ρ' h2
theorem st_forN {α : Type} {enc : α → PyData} {xs : List α} {t : Tg} {i : Ce.It} {b : Sms} (I : Nat → Rho → Prop) (hi : itms Φ i ρ false = some (xs.map enc)) (h0 : I 0 ρ) (h : ∀ j x ρ, xs[j]? = some x → I j ρ → ∃ ρ1 ρ2, bindT t (enc x) ρ = some ρ1 ∧ exSs Φ n b ρ1 = some (.nx ρ2) ∧ I (j + 1) ρ2)
    (hr : ∀ ρ', I xs.length ρ' → exSs Φ n r ρ' = x) : exSs Φ n (.cons (.for t i b) r) ρ = x := by
  obtain ⟨ρ', h1, h2⟩ := forF_inv (enc := enc) (f := fun d ρ' => (bindT t d ρ').bind (exSs Φ n b)) I (xs := xs) 0 ρ h0 fun j x ρ hx hI => by
    rw [Nat.zero_add] at hI ⊢
    obtain ⟨ρ1, ρ2, q1, q2, q3⟩ := h j x ρ hx hI
    exact ⟨ρ2, by rw [q1]; exact q2, q3⟩
  rw [Nat.zero_add] at h2
  simp only [exSs, exS, hi, Option.bind_some, h1]
  exact hr ρ' h2
theorem ex_forN {α : Type} {enc : α → PyData} {xs : List α} {t : Tg} {i : Ce.It} {b : Sms} (I : Nat → Rho → Prop) (hi : itms Φ i ρ false = some (xs.map enc)) (h0 : I 0 ρ) (h : ∀ j x ρ, xs[j]? = some x → I j ρ → ∃ ρ1 ρ2, bindT t (enc x) ρ = some ρ1 ∧ exSs Φ n b ρ1 = some (.nx ρ2) ∧ I (j + 1) ρ2) :
    ∃ ρ', I xs.length ρ' ∧ ∀ x, exSs Φ n r ρ' = x → exSs Φ n (.cons (.for t i b) r) ρ = x := by
  obtain ⟨ρ', h1, h2⟩ := forF_inv (enc := enc) (f := fun d ρ' => (bindT t d ρ').bind (exSs Φ n b)) I (xs := xs) 0 ρ h0 fun j x ρ hx hI => by
    rw [Nat.zero_add] at hI ⊢
    obtain ⟨ρ1, ρ2, q1, q2, q3⟩ := h j x ρ hx hI
    exact ⟨ρ2, by rw [q1]; exact q2, q3⟩
  rw [Nat.zero_add] at h2
  refine ⟨ρ', h2, fun x hx => ?_⟩
  simp only [exSs, exS, hi, Option.bind_some, h1]
  exact hx
theorem st_ret {e : Ex} (he : ev Φ e ρ false = some d) : exSs Φ n (.cons (.ret e) r) ρ = some (.rt d) := by
  simp [he]
end

/-! ### shared defs -/
variable {Φ : Fns} {W : Nat}
/-- items[at] < items[at + 1] for all at -/
def rising (xs : List Int) : Bool := (ivs 0 (xs.length - 1)).all fun k => decide (nth xs k < nth xs (k + 1))
def bAsc : Sms :=
(.cons (.ret (.gen true (.cmp .lt (.sub (.var 0) (.var 1)) (.sub (.var 0) (.bin .add (.var 1) (.int 1)))) (.nm 1) (.rng1 (.bin .sub (.b1 .len (.var 0)) (.int 1))) .no))
.nil)
theorem asc_run {xs : List Int} (hx : xs.length ≤ 100000) : runD Φ W 2 bAsc [eT xs] = some (.bool (rising xs)) := by
  simp [bAsc]
  rw [rngI (by omega) (by omega) (by omega) (by omega)]
  simp
  rw [gen_ints (p := fun k => decide (nth xs k < nth xs (k + 1)))]
  · simp [rising]
  · intro k hk
    have hk' := mem_ivs.mp hk
    simp
    rw [index_T (by omega) (by omega), index_T (by omega) (by omega)]
    simp
/-- .. the law's own -/
def bRising : Sms :=
(.cons (.ret (.bi .all (.lc (.cmp .lt (.sub (.var 0) (.var 1)) (.sub (.var 0) (.bin .add (.var 1) (.int 1)))) (.nm 1) (.rng1 (.bin .sub (.b1 .len (.var 0)) (.int 1))) .no)))
.nil)
theorem rising_run {xs : List Int} (hx : xs.length ≤ 100000) : runD Φ W 2 bRising [eT xs] = some (.bool (rising xs)) := by
  simp [bRising]
  rw [rngI (by omega) (by omega) (by omega) (by omega)]
  simp
  rw [gd_pos (lim_ok (by rw [ivs_length]; omega)), lc_bools (p := fun k => decide (nth xs k < nth xs (k + 1)))]
  · simp [rising, Function.comp_def]
  · intro k hk
    have hk' := mem_ivs.mp hk
    simp
    rw [index_T (by omega) (by omega), index_T (by omega) (by omega)]
    simp
def isSet (xs : List Int) : Bool := rising xs && xs.all fun x => decide (0 ≤ x)
def bIsSet (j : Nat) : Sms :=
(.cons (.ret (.and (.call j (.cons (.var 0) .nil)) (.gen true (.cmp .ge (.var 1) (.int 0)) (.nm 1) (.ex (.var 0)) .no)))
.nil)
theorem isSet_run {j : Nat} {xs : List Int} (h : Φ j [eT xs] = some (.bool (rising xs))) : runD Φ W 2 (bIsSet j) [eT xs] = some (.bool (isSet xs)) := by
  simp [bIsSet, h]
  cases hr : rising xs with
  | false => simp [isSet, hr]
  | true =>
    simp
    rw [gen_ints (p := fun x => decide (0 ≤ x))]
    · simp [isSet, hr]
    · intro x hx; simp
def isSetB (n : Int) (xs : List Int) : Bool := isSet xs && xs.all fun x => decide (x < n)
def bIsSetB (j : Nat) : Sms :=
(.cons (.ret (.and (.call j (.cons (.var 1) .nil)) (.gen true (.cmp .lt (.var 2) (.var 0)) (.nm 2) (.ex (.var 1)) .no)))
.nil)
theorem isSetB_run {j : Nat} {n : Int} {xs : List Int} (h : Φ j [eT xs] = some (.bool (isSet xs))) : runD Φ W 3 (bIsSetB j) [.int n, eT xs] = some (.bool (isSetB n xs)) := by
  simp [bIsSetB, h]
  cases hr : isSet xs with
  | false => simp [isSetB, hr]
  | true =>
    simp
    rw [gen_ints (p := fun x => decide (x < n))]
    · simp [isSetB, hr]
    · intro x hx; simp
/-- each of one is in other -/
def within (one other : List Int) : Bool := one.all fun x => decide (x ∈ other)
def bWithin : Sms :=
(.cons (.ret (.gen true (.cmp .isin (.var 2) (.var 1)) (.nm 2) (.ex (.var 0)) .no))
.nil)
theorem within_run {xs ys : List Int} : runD Φ W 3 bWithin [eT xs, eT ys] = some (.bool (within xs ys)) := by
  simp [bWithin]
  rw [gen_ints (p := fun x => decide (x ∈ ys))]
  · simp [within]
  · intro x hx
    simp [List.any_map, Function.comp_def]
def bLawIn : Sms :=
(.cons (.ret (.bi .all (.lc (.cmp .isin (.var 2) (.var 1)) (.nm 2) (.ex (.var 0)) .no)))
.nil)
theorem lawIn_run {xs ys : List Int} (hx : xs.length ≤ 100000) : runD Φ W 3 bLawIn [eT xs, eT ys] = some (.bool (within xs ys)) := by
  simp [bLawIn]
  rw [gd_pos (lim_ok (by omega)), lc_bools (p := fun x => decide (x ∈ ys))]
  · simp [within, Function.comp_def]
  · intro x hx
    simp [List.any_map, Function.comp_def]
/-! the law's draws -/
def bCell : Sms :=
(.cons (.ife (.cmp .lt (.var 1) (.b1 .len (.var 0)))
(.cons (.ret (.sub (.var 0) (.var 1)))
.nil)
.nil)
(.cons (.ret (.bin .add (.bin .mul (.int 5) (.var 1)) (.int 3)))
.nil))
theorem cell_run {ns : List Int} {k : Int} (hl : ns.length ≤ 100) (h0 : 0 ≤ k) (h1 : k ≤ 100) : ∃ z : Int, runD Φ W 2 bCell [eL ns, .int k] = some (.int z) := by
  by_cases h : k < ns.length
  · refine ⟨nth ns k, ?_⟩
    simp [bCell, h]
    rw [index_T h0 h]
    simp
  · refine ⟨5 * k + 3, ?_⟩
    have h2 : (decide (k < (ns.length : Int))) = false := decide_eq_false h
    simp [bCell, h2]
def bDraws : Sms :=
(.cons (.asg (.nm 2) (.b1 .abs (.b1 .int (.var 0))))
(.cons (.asg (.nm 3) (.cmp .ge (.var 2) (.bin .pow (.int 10) (.int 18))))
(.cons (.asg (.nm 4) (.var 2))
(.cons (.own 5 (.lst .nil))
(.cons (.for (.nm 6) (.rng1 (.var 1))
(.cons (.ife (.and (.var 3) (.cmp .gt (.var 2) (.int 0)))
(.cons (.app 5 (.bin .mod (.b1 .int (.var 2)) (.int 5040)))
(.cons (.asg (.nm 2) (.bin .fdiv (.var 2) (.int 5040)))
.nil))
(.cons (.asg (.nm 7) (.bin .mod (.b1 .int (.bin .add (.bin .add (.bin .mul (.var 4) (.int 48271)) (.bin .mul (.bin .add (.var 6) (.int 1)) (.int 69621))) (.int 11))) (.int 2147483647)))
(.cons (.asg (.nm 7) (.bin .mod (.b1 .int (.bin .add (.bin .mul (.var 7) (.var 7)) (.bin .mul (.int 40692) (.bin .add (.var 6) (.int 3))))) (.int 2147483399)))
(.cons (.app 5 (.bin .mod (.b1 .int (.bin .fdiv (.var 7) (.int 64))) (.int 5040)))
.nil))))
.nil))
(.cons (.frz [5] (.ret (.var 5)))
.nil))))))
/-- numbers from 0 to 5039 -/
def Drawn (ds : List Int) : Prop := ∀ d ∈ ds, 0 ≤ d ∧ d < 5040
theorem drawn_add {ds : List Int} {z : Int} (h : Drawn ds) : Drawn (ds ++ [z % 5040]) := by
  intro d hd
  rcases List.mem_append.mp hd with h1 | h1
  · exact h d h1
  · rw [List.mem_singleton.mp h1]
    exact ⟨Int.emod_nonneg _ (by decide), Int.emod_lt_of_pos _ (by decide)⟩
theorem draws_run {z c : Int} (h0 : 0 ≤ c) (h1 : c ≤ 1000) : ∃ ds : List Int, runD Φ W 8 bDraws [.int z, .int c] = some (eL ds) ∧ (ds.length : Int) = c ∧ Drawn ds := by
  have key : ∃ ds : List Int, exSs Φ W bDraws (startR 8 [.int z, .int c]) = some (.rt (eL ds)) ∧ (ds.length : Int) = c ∧ Drawn ds := by
    unfold bDraws
    generalize ha : (if z < 0 then -z else z) = a
    generalize hb : decide ((10 : Int) ^ 18 ≤ a) = b
    have loop := ex_forN (Φ := Φ) (n := W) (r := (.cons (.frz [5] (.ret (.var 5))) .nil)) (ρ := [.fz (.int z), .fz (.int c), .fz (.int a), .fz (.bool b), .fz (.int a), .ow (.list []), .un, .un]) (enc := PyData.int) (xs := ivs 0 c) (t := .nm 6) (i := .rng1 (.var 1))
      (b := (.cons (.ife (.and (.var 3) (.cmp .gt (.var 2) (.int 0)))
(.cons (.app 5 (.bin .mod (.b1 .int (.var 2)) (.int 5040)))
(.cons (.asg (.nm 2) (.bin .fdiv (.var 2) (.int 5040)))
.nil))
(.cons (.asg (.nm 7) (.bin .mod (.b1 .int (.bin .add (.bin .add (.bin .mul (.var 4) (.int 48271)) (.bin .mul (.bin .add (.var 6) (.int 1)) (.int 69621))) (.int 11))) (.int 2147483647)))
(.cons (.asg (.nm 7) (.bin .mod (.b1 .int (.bin .add (.bin .mul (.var 7) (.var 7)) (.bin .mul (.int 40692) (.bin .add (.var 6) (.int 3))))) (.int 2147483399)))
(.cons (.app 5 (.bin .mod (.b1 .int (.bin .fdiv (.var 7) (.int 64))) (.int 5040)))
.nil))))
.nil))
      (fun j ρ => ∃ rest ds u v, ρ = [.fz (.int z), .fz (.int c), .fz (.int rest), .fz (.bool b), .fz (.int a), .ow (eL ds), u, v] ∧ ds.length = j ∧ Drawn ds)
      (by simp; rw [rngI (by omega) (by omega) (by omega) (by omega)])
      ⟨a, [], .un, .un, rfl, rfl, fun d hd => absurd hd (by simp)⟩
      (by
        rintro j x ρ hx ⟨rest, ds, u, v, rfl, hl, hd⟩
        have hx1 := mem_ivs.mp (List.mem_of_getElem? hx)
        have hj : j < 1000 := by
          have := (List.getElem?_eq_some_iff.mp hx).1
          rw [ivs_length] at this
          omega
        have hll : ds.length < LIM := by unfold LIM; omega
        refine ⟨[.fz (.int z), .fz (.int c), .fz (.int rest), .fz (.bool b), .fz (.int a), .ow (eL ds), .fz (.int x), v], ?_⟩
        by_cases hc : b = true ∧ 0 < rest
        · obtain ⟨rfl, hr⟩ := hc
          refine ⟨[.fz (.int z), .fz (.int c), .fz (.int (rest / 5040)), .fz (.bool true), .fz (.int a), .ow (eL (ds ++ [rest % 5040])), .fz (.int x), v], by simp, ?_, ⟨_, _, _, _, rfl, by simp [hl], drawn_add hd⟩⟩
          simp [hr, hll]
        · have tf : tst Φ (.and (.var 3) (.cmp .gt (.var 2) (.int 0))) [.fz (.int z), .fz (.int c), .fz (.int rest), .fz (.bool b), .fz (.int a), .ow (eL ds), .fz (.int x), v] = some false := by
            cases b with
            | false => simp
            | true =>
              have hr : ¬ 0 < rest := fun h => hc ⟨rfl, h⟩
              simp [hr]
          generalize hm1 : (a * 48271 + (x + 1) * 69621 + 11) % 2147483647 = y
          have hy0 : 0 ≤ y := by rw [← hm1]; exact Int.emod_nonneg _ (by decide)
          have hy1 : y < 2147483647 := by rw [← hm1]; exact Int.emod_lt_of_pos _ (by decide)
          have m4 : -18446744073709551616 < y ∧ y < 18446744073709551616 := by omega
          generalize hm2 : (y * y + 40692 * (x + 3)) % 2147483399 = w
          refine ⟨[.fz (.int z), .fz (.int c), .fz (.int rest), .fz (.bool b), .fz (.int a), .ow (eL (ds ++ [w / 64 % 5040])), .fz (.int x), .fz (.int w)], by simp, ?_, ⟨_, _, _, _, rfl, by simp [hl], drawn_add hd⟩⟩
          rw [exSs, exS, tf]
          simp only [Option.bind_some, Bool.false_eq_true, if_false]
          simp [hm1, hm2, m4, hll])
    obtain ⟨ρ', ⟨rest, ds, u, v, rfl, hl, hd⟩, hrun⟩ := loop
    refine ⟨ds, ?_, ?_, hd⟩
    · have := hrun (some (.rt (eL ds))) (by simp)
      refine st_asg (d := .int a) (ρ' := [.fz (.int z), .fz (.int c), .fz (.int a), .un, .un, .un, .un, .un]) (by simp [ha]) (by simp) ?_
      refine st_asg (d := .bool b) (ρ' := [.fz (.int z), .fz (.int c), .fz (.int a), .fz (.bool b), .un, .un, .un, .un]) (by simp [← hb]) (by simp) ?_
      refine st_asg (d := .int a) (ρ' := [.fz (.int z), .fz (.int c), .fz (.int a), .fz (.bool b), .fz (.int a), .un, .un, .un]) (by simp) (by simp) ?_
      refine st_own (d := .list []) (by simp) rfl (by simp) ?_
      exact this
    · rw [hl, ivs_length]; omega
  obtain ⟨ds, k1, k2, k3⟩ := key
  exact ⟨ds, runD_of k1, k2, k3⟩
end Pu

set_option maxHeartbeats 4000000
/-! Plain laws: more shared defs. -/
namespace Pu
open PySem Ce Cs
variable {Φ : Fns} {W : Nat}

/-! _law_is -/
def bIsInt : Sms :=
(.cons (.ret (.and (.isi .int (.var 0)) (.not (.isi .bool (.var 0)))))
.nil)
theorem isInt_run {i : Int} : runD Φ W 1 bIsInt [.int i] = some (.bool true) := by simp [bIsInt]
def bLawIs (j k : Nat) : Sms :=
(.cons (.ife (.isn (.var 1))
(.cons (.ret (.isn (.var 0)))
.nil)
.nil)
(.cons (.ife (.isi .bool (.var 1))
(.cons (.ret (.and (.isi .bool (.var 0)) (.cmp .eq (.var 0) (.var 1))))
.nil)
.nil)
(.cons (.ife (.isi .int (.var 1))
(.cons (.ret (.and (.call j (.cons (.var 0) .nil)) (.cmp .eq (.var 0) (.var 1))))
.nil)
.nil)
(.cons (.ife (.isi .str (.var 1))
(.cons (.ret (.and (.isi .str (.var 0)) (.cmp .eq (.var 0) (.var 1))))
.nil)
.nil)
(.cons (.ife (.or (.not (.isi .tuple (.var 0))) (.cmp .ne (.b1 .len (.var 0)) (.b1 .len (.var 1))))
(.cons (.ret (.bool false))
.nil)
.nil)
(.cons (.ret (.bi .all (.lc (.call k (.cons (.sub (.var 0) (.var 2)) (.cons (.sub (.var 1) (.var 2)) .nil))) (.nm 2) (.rng1 (.b1 .len (.var 1))) .no)))
.nil))))))
/-- plain data, k deep -/
def pl : Nat → PyData → Bool
  | _, .none => true
  | _, .bool _ => true
  | _, .int _ => true
  | _, .str s => PyData.strOk s
  | k + 1, .tuple xs => decide (xs.length ≤ 100000) && xs.all (pl k)
  | _, _ => false
theorem all_map_true {α : Type} {xs : List α} {p : α → Bool} (h : ∀ x ∈ xs, p x = true) : (xs.map p).all id = true := by
  rw [List.all_eq_true]
  intro b hb
  obtain ⟨x, hx, rfl⟩ := List.mem_map.mp hb
  exact h x hx
theorem lawIs_run {j k : Nat} {d : PyData} {m : Nat} (hp : pl m d = true) (hj : ∀ i : Int, Φ j [.int i] = some (.bool true)) (hk : ∀ xs, d = .tuple xs → ∀ x ∈ xs, Φ k [x, x] = some (.bool true)) : runD Φ W 3 (bLawIs j k) [d, d] = some (.bool true) := by
  cases d with
  | none => simp [bLawIs]
  | bool b => simp [bLawIs]
  | int i => simp [bLawIs, hj]
  | str s =>
    have hs : PyData.strOk s = true := by
      cases m <;> simpa [pl] using hp
    simp [bLawIs, hs]
  | list xs => cases m <;> simp [pl] at hp
  | dict xs => cases m <;> simp [pl] at hp
  | tuple xs =>
    have hl : xs.length ≤ 100000 := by
      cases m with
      | zero => simp [pl] at hp
      | succ m =>
        simp only [pl, Bool.and_eq_true, decide_eq_true_eq] at hp
        exact hp.1
    simp [bLawIs]
    rw [rngI (by omega) (by omega) (by omega) (by omega)]
    simp
    rw [gd_pos (lim_ok (by rw [ivs_length]; omega)), lc_bools (p := fun _ => true)]
    · simp
    · intro x hx
      have hx' := mem_ivs.mp hx
      have hx2 : x.toNat < xs.length := by omega
      have e : L2.atI xs x = some xs[x.toNat] := by
        rw [atI_of (by omega) (by omega)]
        exact List.getElem?_eq_getElem hx2
      simp [e]
      rw [hk xs rfl _ (List.getElem_mem hx2)]
/-- d is d: pl m d, called m + 2 deep -/
def IsAt (D : List CD) (W : Nat) (k : Nat) : Prop := ∀ (m : Nat) (d : PyData), pl m d = true → ∀ n, m + 2 ≤ n → den W D n k [d, d] = some (.bool true)
theorem isAt_of {D : List CD} {W j k : Nat} {dj dk : CD} (h1 : D[j]? = some dj) (h2 : D[k]? = some dk) (e1 : dj.ps.length = 1) (e2 : dk.ps.length = 2) (b1 : dj.body = bIsInt) (b2 : dk.body = bLawIs j k) (n1 : dj.N.length = 1) (n2 : dk.N.length = 3) : IsAt D W k := by
  intro m
  induction m with
  | zero =>
    intro d hd n hn
    obtain ⟨n, rfl⟩ : ∃ i, n = i + 2 := ⟨n - 2, by omega⟩
    rw [den_run (n := n + 1) h2 (by rw [e2]; rfl), b2, n2]
    refine lawIs_run hd (fun i => ?_) (fun xs e x hx => ?_)
    · rw [den_run h1 (by rw [e1]; rfl), b1, n1]; exact isInt_run
    · subst e; simp [pl] at hd
  | succ m ih =>
    intro d hd n hn
    obtain ⟨n, rfl⟩ : ∃ i, n = i + 2 := ⟨n - 2, by omega⟩
    rw [den_run (n := n + 1) h2 (by rw [e2]; rfl), b2, n2]
    refine lawIs_run hd (fun i => ?_) (fun xs e x hx => ?_)
    · rw [den_run h1 (by rw [e1]; rfl), b1, n1]; exact isInt_run
    · subst e
      simp only [pl, Bool.and_eq_true, decide_eq_true_eq, List.all_eq_true] at hd
      exact ih x (hd.2 x hx) (n + 1) (by omega)
theorem pl_ints {k : Nat} {xs : List Int} (h : xs.length ≤ 100000) : pl (k + 1) (eT xs) = true := by
  simp only [pl, Bool.and_eq_true, decide_eq_true_eq, List.all_eq_true]
  refine ⟨by simpa using h, fun x hx => ?_⟩
  obtain ⟨y, _, rfl⟩ := List.mem_map.mp hx
  cases k <;> rfl

/-! _law_set -/
def lawSet (z n : Int) : List Int := (ivs 0 n).filter fun k => decide (z / nth [1, 2, 4, 8, 16, 32, 64] k % 2 = 1)
def bLawSet : Sms :=
(.cons (.ret (.bi .tuple (.lc (.var 2) (.nm 2) (.rng1 (.var 1)) (.yes (.cmp .eq (.bin .mod (.bin .fdiv (.b1 .int (.var 0)) (.sub (.tup (.cons (.int 1) (.cons (.int 2) (.cons (.int 4) (.cons (.int 8) (.cons (.int 16) (.cons (.int 32) (.cons (.int 64) .nil)))))))) (.var 2))) (.int 2)) (.int 1))))))
.nil)
theorem lit7 : (7 : Nat) ≤ LIM := by unfold LIM; omega
theorem lawSet_run {z n : Int} (h0 : 0 ≤ n) (h : n ≤ 7) : runD Φ W 3 bLawSet [.int z, .int n] = some (eT (lawSet z n)) := by
  simp [bLawSet]
  rw [rngI (by omega) (by omega) (by omega) (by omega)]
  simp
  rw [gd_pos (lim_ok (by rw [ivs_length]; omega)), lc_ints (p := fun k => decide (z / nth [1, 2, 4, 8, 16, 32, 64] k % 2 = 1))]
  · simp [lawSet]
  · intro x hx
    have hx' := mem_ivs.mp hx
    have : x = 0 ∨ x = 1 ∨ x = 2 ∨ x = 3 ∨ x = 4 ∨ x = 5 ∨ x = 6 := by omega
    rcases this with rfl | rfl | rfl | rfl | rfl | rfl | rfl <;> simp [nth, L2.atI, L2.ixN, LIM]
theorem mem_lawSet {z n x : Int} (h : x ∈ lawSet z n) : 0 ≤ x ∧ x < n := mem_ivs.mp (List.mem_filter.mp h).1
theorem lawSet_length {z n : Int} (h : n ≤ 7) : (lawSet z n).length ≤ 7 := by
  have := List.length_filter_le (fun k => decide (z / nth [1, 2, 4, 8, 16, 32, 64] k % 2 = 1)) (ivs 0 n)
  rw [ivs_length] at this
  unfold lawSet
  omega

/-! sets of a size: _law_sets, all_sets -/
/-- all sets of things below n, as the loop makes them -/
def subs (n : Int) : List (List Int) := (ivs 0 n).foldl (fun s a => s ++ s.map fun x => x ++ [a]) [[]]
theorem ivs_succ (n : Nat) : ivs 0 ((n : Int) + 1) = ivs 0 n ++ [(n : Int)] := by
  unfold ivs
  have e : ((n : Int) + 1 - 0).toNat = n + 1 := by omega
  have e2 : ((n : Int) - 0).toNat = n := by omega
  rw [e, e2, List.range_succ, List.map_append]
  simp
theorem ivs_zero : ivs 0 0 = [] := rfl
theorem subs_succ (n : Nat) : subs ((n : Int) + 1) = subs n ++ (subs n).map fun x => x ++ [(n : Int)] := by
  unfold subs
  rw [ivs_succ, List.foldl_append]
  rfl
theorem subs_length (n : Nat) : (subs n).length = 2 ^ n := by
  induction n with
  | zero => rfl
  | succ n ih =>
    have e : ((n + 1 : Nat) : Int) = (n : Int) + 1 := by omega
    rw [e, subs_succ, List.length_append, List.length_map, ih, Nat.pow_succ]
    omega
/-- rising, each at once -/
def Asc (xs : List Int) : Prop := xs.Pairwise (· < ·)
theorem subs_mem (n : Nat) : ∀ xs, xs ∈ subs n ↔ Asc xs ∧ ∀ x ∈ xs, 0 ≤ x ∧ x < n := by
  induction n with
  | zero =>
    intro xs
    constructor
    · intro h
      have : xs = [] := by simpa [subs, ivs_zero] using h
      subst this
      exact ⟨List.Pairwise.nil, fun x hx => absurd hx (by simp)⟩
    · rintro ⟨h1, h2⟩
      cases xs with
      | nil => simp [subs, ivs_zero]
      | cons x xs =>
        have := h2 x List.mem_cons_self
        simp at this
        omega
  | succ n ih =>
    intro xs
    have e : ((n + 1 : Nat) : Int) = (n : Int) + 1 := by omega
    rw [e, subs_succ, List.mem_append, ih]
    constructor
    · rintro (⟨h1, h2⟩ | h)
      · exact ⟨h1, fun x hx => by have := h2 x hx; omega⟩
      · obtain ⟨ys, hy, rfl⟩ := List.mem_map.mp h
        obtain ⟨h1, h2⟩ := (ih ys).mp hy
        refine ⟨?_, fun x hx => ?_⟩
        · refine List.pairwise_append.mpr ⟨h1, List.pairwise_singleton _ _, fun a ha b hb => ?_⟩
          rw [List.mem_singleton.mp hb]
          exact (h2 a ha).2
        · rcases List.mem_append.mp hx with h | h
          · have := h2 x h; omega
          · rw [List.mem_singleton.mp h]; omega
    · rintro ⟨h1, h2⟩
      by_cases hn : (n : Int) ∈ xs
      · right
        -- the last thing is n
        rcases List.eq_nil_or_concat xs with rfl | ⟨ys, z, rfl⟩
        · cases hn
        · rw [List.concat_eq_append] at h1 h2 hn ⊢
          have h1 : (ys ++ [z]).Pairwise (· < ·) := h1
          have hz : z = n := by
            have hzb := (h2 z (by simp)).2
            rw [List.pairwise_append] at h1
            rcases List.mem_append.mp hn with h | h
            · have := h1.2.2 _ h z (by simp)
              omega
            · exact (List.mem_singleton.mp h).symm
          subst hz
          rw [List.mem_map]
          refine ⟨ys, (ih ys).mpr ⟨(List.pairwise_append.mp h1).1, fun x hx => ?_⟩, rfl⟩
          have := (List.pairwise_append.mp h1).2.2 x hx n (by simp)
          have := h2 x (by simp [hx])
          omega
      · left
        refine ⟨h1, fun x hx => ?_⟩
        have := h2 x hx
        have : x ≠ n := fun e => hn (e ▸ hx)
        omega
end Pu

set_option maxHeartbeats 4000000
/-! Plain laws: sorted sets, bent rows. -/
namespace Pu
open PySem Ce Cs
variable {Φ : Fns} {W : Nat}

theorem sortable_of {α : Type} {key : α → PyData} {xs : List α} (h1 : ∀ a b, PySem.W.alike (key a) (key b) = true) (h2 : ∀ a, ∃ xs, key a = .tuple xs) (h3 : ∀ a, (key a).depth ≤ 64) : sortable (xs.map key) = true := by
  simp only [sortable, Bool.and_eq_true, Bool.or_eq_true, List.all_eq_true, decide_eq_true_eq, List.mem_map, forall_exists_index, and_imp, forall_apply_eq_imp_iff₂]
  refine ⟨⟨fun a _ b _ => h1 a b, .inl fun a _ => ?_⟩, fun a _ => h3 a⟩
  obtain ⟨xs, e⟩ := h2 a
  rw [e]
theorem sortd_map {α : Type} (key : α → PyData) (xs : List α) : sortd (xs.map key) = (xs.mergeSort fun a b => PySem.W.dataLe false id (key a) (key b)).map key := by
  unfold sortd
  exact (List.map_mergeSort (f := key) (r := fun a b => PySem.W.dataLe false id (key a) (key b)) (s := PySem.W.dataLe false id) fun a _ b _ => rfl).symm
def keyOf (x : List Int) : PyData := .tuple [.int x.length, eT x]
theorem key_alike (a b : List Int) : PySem.W.alike (keyOf a) (keyOf b) = true := by
  simp [keyOf, PySem.W.alike, PySem.W.alikeAll, PySem.W.alike_ints]
theorem pk_key (x : List Int) : pk 16 (keyOf x) = true := by simp [keyOf]
theorem depth_pk {k : Nat} {d : PyData} (h : pk k d = true) (hk : k ≤ 64) : d.depth ≤ 64 := Nat.le_trans (pk_ok k d h).2 hk
/-- all sets of things below n: the smaller ones first, then in order -/
def sets (n : Int) : List (List Int) := (subs n).mergeSort fun a b => PySem.W.dataLe false id (keyOf a) (keyOf b)
theorem sets_mem {n : Nat} {xs : List Int} : xs ∈ sets n ↔ Asc xs ∧ ∀ x ∈ xs, 0 ≤ x ∧ x < n := by
  unfold sets
  rw [(List.mergeSort_perm _ _).mem_iff]
  exact subs_mem n xs
theorem sets_length (n : Nat) : (sets n).length = 2 ^ n := by
  unfold sets
  rw [List.length_mergeSort]
  exact subs_length n
theorem asc_length {n : Nat} {xs : List Int} (h : Asc xs) (hb : ∀ x ∈ xs, 0 ≤ x ∧ x < n) : xs.length ≤ n := by
  induction n generalizing xs with
  | zero =>
    cases xs with
    | nil => exact Nat.le_refl _
    | cons x xs => have := hb x List.mem_cons_self; omega
  | succ n ih =>
    rcases List.eq_nil_or_concat xs with rfl | ⟨ys, z, rfl⟩
    · exact Nat.zero_le _
    · rw [List.concat_eq_append] at h hb ⊢
      have h : (ys ++ [z]).Pairwise (· < ·) := h
      rw [List.length_append, List.length_singleton]
      have hz := hb z (by simp)
      have := ih (xs := ys) (List.pairwise_append.mp h).1 fun x hx => by
        have h1 := (List.pairwise_append.mp h).2.2 x hx z (by simp)
        have h2 := hb x (by simp [hx])
        omega
      omega
def bLawSets : Sms :=
(.cons (.asg (.nm 1) (.lst (.cons (.tup .nil) .nil)))
(.cons (.for (.nm 2) (.rng1 (.var 0))
(.cons (.asg (.nm 1) (.bin .add (.var 1) (.lc (.bin .add (.var 3) (.tup (.cons (.var 2) .nil))) (.nm 3) (.ex (.var 1)) .no)))
.nil))
(.cons (.ret (.lc (.var 3) (.tp (.cons (.nm 4) (.cons (.nm 3) .nil))) (.ex (.bi .sorted (.lc (.tup (.cons (.b1 .len (.var 3)) (.cons (.var 3) .nil))) (.nm 3) (.ex (.var 1)) .no))) .no))
.nil)))
theorem ivs_get {n : Nat} {j : Nat} {x : Int} (h : (ivs 0 n)[j]? = some x) : x = j ∧ j < n := by
  unfold ivs at h
  rw [List.getElem?_map] at h
  by_cases hj : j < n
  · rw [List.getElem?_range (by omega)] at h
    simp at h
    exact ⟨h.symm, hj⟩
  · rw [List.getElem?_eq_none (by simp; omega)] at h
    cases h
/-- the loop over the things of all_sets, _law_sets -/
theorem sets_loop {n : Nat} {e : Ex} (hn : n ≤ 12) (s t u v : Sl) :
    ∃ x, ∀ res, exSs Φ W (.cons (.ret e) .nil) [.fz (.int n), .fz (.list ((subs n).map eT)), x, u, v] = res →
      exSs Φ W (.cons (.asg (.nm 1) (.lst (.cons (.tup .nil) .nil))) (.cons (.for (.nm 2) (.rng1 (.var 0))
        (.cons (.asg (.nm 1) (.bin .add (.var 1) (.lc (.bin .add (.var 3) (.tup (.cons (.var 2) .nil))) (.nm 3) (.ex (.var 1)) .no))) .nil)) (.cons (.ret e) .nil))) [.fz (.int n), s, t, u, v] = res := by
  have loop := ex_forN (Φ := Φ) (n := W) (r := (.cons (.ret e) .nil)) (ρ := [.fz (.int n), .fz (.list [.tuple []]), t, u, v]) (enc := PyData.int) (xs := ivs 0 n) (t := .nm 2) (i := .rng1 (.var 0))
    (b := (.cons (.asg (.nm 1) (.bin .add (.var 1) (.lc (.bin .add (.var 3) (.tup (.cons (.var 2) .nil))) (.nm 3) (.ex (.var 1)) .no))) .nil))
    (fun j ρ => ∃ x, ρ = [.fz (.int n), .fz (.list ((subs j).map eT)), x, u, v])
    (by simp; rw [rngI (by omega) (by omega) (by omega) (by omega)])
    ⟨t, rfl⟩
    (by
      rintro j x ρ hx ⟨y, rfl⟩
      obtain ⟨rfl, hj⟩ := ivs_get hx
      have h2 : 2 ^ j ≤ 2 ^ 12 := Nat.pow_le_pow_right (by omega) (by omega)
      have hl : (subs j).length ≤ 4096 := by rw [subs_length]; omega
      refine ⟨[.fz (.int n), .fz (.list ((subs j).map eT)), .fz (.int j), u, v], [.fz (.int n), .fz (.list ((subs ((j : Int) + 1)).map eT)), .fz (.int j), u, v], by simp, ?_, ⟨.fz (.int j), by simp⟩⟩
      have key : lcF (fun d => (some [Sl.fz (.int n), .fz (.list ((subs j).map eT)), .fz (.int j), .fz d, v]).bind fun ρ1 => (tsto Φ .no ρ1).bind fun c => if c = true then (ev Φ (.bin .add (.var 3) (.tup (.cons (.var 2) .nil))) ρ1 false).map some else some none) ((subs j).map eT) = some (((subs j).map fun x => x ++ [(j : Int)]).map eT) := by
        refine lcF_all (enc := eT) (enc' := eT) (g := fun x => x ++ [(j : Int)]) fun x hx => ?_
        have hb := (subs_mem j x).mp hx
        have := asc_length hb.1 hb.2
        simp
        rw [gd_pos (lim_ok (by omega))]
        simp
        rw [gd_pos (lim_ok (by omega))]
        simp
      simp
      rw [gd_pos (lim_ok (by omega))]
      simp at key
      rw [key]
      simp
      rw [gd_pos (lim_ok (by omega))]
      simp [subs_succ])
  obtain ⟨ρ', ⟨x, rfl⟩, h⟩ := loop
  refine ⟨x, fun res hr => ?_⟩
  have hlen : (ivs 0 (n : Int)).length = n := by rw [ivs_length]; omega
  rw [hlen] at h
  refine st_asg (d := .list [.tuple []]) (ρ' := [.fz (.int n), .fz (.list [.tuple []]), t, u, v]) ?_ (by simp) (h res hr)
  simp [LIM]
theorem lawSets_run {n : Nat} (hn : n ≤ 12) : runD Φ W 5 bLawSets [.int n] = some (.list ((sets n).map eT)) := by
  refine runD_of ?_
  unfold bLawSets
  obtain ⟨x, hx⟩ := sets_loop (Φ := Φ) (W := W) (n := n) (e := (.lc (.var 3) (.tp (.cons (.nm 4) (.cons (.nm 3) .nil))) (.ex (.bi .sorted (.lc (.tup (.cons (.b1 .len (.var 3)) (.cons (.var 3) .nil))) (.nm 3) (.ex (.var 1)) .no))) .no)) hn .un .un .un .un
  refine hx _ ?_
  have h2 : 2 ^ n ≤ 2 ^ 12 := Nat.pow_le_pow_right (by omega) hn
  have hl : (subs n).length ≤ 4096 := by rw [subs_length]; omega
  have key : lcF (fun d => (some [Sl.fz (.int n), .fz (.list ((subs n).map eT)), x, .fz d, .un]).bind fun ρ1 => (tsto Φ .no ρ1).bind fun c => if c = true then (ev Φ (.tup (.cons (.b1 .len (.var 3)) (.cons (.var 3) .nil))) ρ1 false).map some else some none) ((subs n).map eT) = some ((subs n).map keyOf) := by
    rw [lcF_all (enc := eT) (enc' := keyOf) (g := fun x => x)]
    · simp
    · intro y hy
      simp [keyOf, LIM]
  have srt : sortd ((subs n).map keyOf) = (sets n).map keyOf := sortd_map keyOf (subs n)
  have sl : (sets n).length = 2 ^ n := sets_length n
  refine st_ret ?_
  simp at key
  simp
  rw [gd_pos (lim_ok (by omega)), key]
  simp
  rw [gd_pos ⟨sortable_of key_alike (fun a => ⟨_, rfl⟩) (fun a => depth_pk (pk_key a) (by omega)), lim_ok (by omega)⟩, srt]
  simp
  rw [gd_pos (lim_ok (by omega))]
  rw [lcF_all (enc := keyOf) (enc' := eT) (g := fun x => x)]
  · simp
  · intro y hy
    simp [keyOf]
end Pu

set_option maxHeartbeats 4000000
/-! Plain laws: bent rows. -/
namespace Pu
open PySem Ce Cs
variable {Φ : Fns} {W : Nat}
def bBent : Sms :=
(.cons (.asg (.nm 3) (.bin .mod (.b1 .int (.sub (.var 1) (.int 0))) (.int 6)))
(.cons (.asg (.nm 4) (.bin .mod (.b1 .int (.sub (.var 1) (.int 1))) (.bin .add (.b1 .len (.var 0)) (.int 1))))
(.cons (.asg (.nm 5) (.sub (.tup (.cons (.bin .sub (.bin .mod (.b1 .int (.sub (.var 1) (.int 2))) (.bin .add (.var 2) (.int 3))) (.int 1)) (.cons (.bin .pow (.int 10) (.int 20)) (.cons (.bin .sub (.int 0) (.int 1)) .nil)))) (.bin .fdiv (.bin .mod (.bin .fdiv (.b1 .int (.sub (.var 1) (.int 2))) (.int 60)) (.int 14)) (.int 6))))
(.cons (.ife (.cmp .eq (.var 3) (.int 0))
(.cons (.ret (.bin .add (.sl (.var 0) .no (.yes (.var 4))) (.sl (.var 0) (.yes (.bin .add (.var 4) (.int 1))) .no)))
.nil)
.nil)
(.cons (.ife (.cmp .eq (.var 3) (.int 1))
(.cons (.ret (.bin .add (.bin .add (.sl (.var 0) .no (.yes (.var 4))) (.tup (.cons (.var 5) .nil))) (.sl (.var 0) (.yes (.var 4)) .no)))
.nil)
.nil)
(.cons (.ife (.cmp .lt (.var 3) (.int 4))
(.cons (.ret (.bin .add (.bin .add (.sl (.var 0) .no (.yes (.var 4))) (.tup (.cons (.var 5) .nil))) (.sl (.var 0) (.yes (.bin .add (.var 4) (.int 1))) .no)))
.nil)
.nil)
(.cons (.ret (.ife (.cmp .eq (.var 3) (.int 4)) (.rev (.var 0)) (.bin .add (.sl (.var 0) .no (.yes (.var 4))) (.sl (.var 0) (.yes (.b2 .max (.int 0) (.bin .sub (.var 4) (.int 1)))) .no))))
.nil)))))))
theorem cut_lo {α : Type} (xs : List α) (k : Int) (h0 : 0 ≤ k) (h1 : k ≤ xs.length) : (cut xs none (some k)).length = k.toNat := by
  unfold cut HT.sIx
  simp only [List.length_take, List.length_drop]
  rw [if_neg (by omega)]
  omega
theorem cut_hi {α : Type} (xs : List α) (k : Int) (h0 : 0 ≤ k) : (cut xs (some k) none).length ≤ xs.length - k.toNat := by
  unfold cut HT.sIx
  simp only [List.length_take, List.length_drop]
  rw [if_neg (by omega)]
  omega
theorem at3 (a b c : PyData) {i : Int} (h0 : 0 ≤ i) (h1 : i < 3) : ∃ d, L2.atI [a, b, c] i = some d ∧ (d = a ∨ d = b ∨ d = c) := by
  have : i = 0 ∨ i = 1 ∨ i = 2 := by omega
  rcases this with rfl | rfl | rfl
  · exact ⟨a, rfl, .inl rfl⟩
  · exact ⟨b, rfl, .inr (.inl rfl)⟩
  · exact ⟨c, rfl, .inr (.inr rfl)⟩
/-- a row with a change: a row of numbers, by one longer at most (but one doubled part) -/
theorem bent_run {xs : List Int} {a b c most : Int} (hx : xs.length ≤ 1000) (hc : 0 ≤ c ∧ c < 5040) (hm : 0 ≤ most) :
    ∃ ys : List Int, runD Φ W 6 bBent [eT xs, eL [a, b, c], .int most] = some (eT ys) ∧ ys.length ≤ xs.length + 1 := by
  have h3 : 0 ≤ c / 60 % 14 / 6 ∧ c / 60 % 14 / 6 < 3 := by omega
  obtain ⟨odd, ho⟩ : ∃ odd : Int, L2.atI [PyData.int (c % (most + 3) - 1), .int (10 ^ 20), .int (0 - 1)] (c / 60 % 14 / 6) = some (.int odd) := by
    obtain ⟨d, e, h⟩ := at3 (PyData.int (c % (most + 3) - 1)) (.int (10 ^ 20)) (.int (0 - 1)) h3.1 h3.2
    rcases h with rfl | rfl | rfl
    · exact ⟨_, e⟩
    · exact ⟨_, e⟩
    · exact ⟨_, e⟩
  generalize hat : b % ((xs.length : Int) + 1) = at_
  have h40 : 0 ≤ at_ := by rw [← hat]; exact Int.emod_nonneg _ (by omega)
  have h41 : at_ < (xs.length : Int) + 1 := by rw [← hat]; exact Int.emod_lt_of_pos _ (by omega)
  have c1 := cut_lo xs at_ h40 (by omega)
  have c2 := cut_hi xs at_ h40
  have c3 := cut_hi xs (at_ + 1) (by omega)
  have c4 := cut_length xs (some (max 0 (at_ - 1))) none
  have c5 := cut_length xs none (some at_)
  have go : ∀ res, exSs Φ W (.cons (.ife (.cmp .eq (.var 3) (.int 0))
(.cons (.ret (.bin .add (.sl (.var 0) .no (.yes (.var 4))) (.sl (.var 0) (.yes (.bin .add (.var 4) (.int 1))) .no)))
.nil)
.nil)
(.cons (.ife (.cmp .eq (.var 3) (.int 1))
(.cons (.ret (.bin .add (.bin .add (.sl (.var 0) .no (.yes (.var 4))) (.tup (.cons (.var 5) .nil))) (.sl (.var 0) (.yes (.var 4)) .no)))
.nil)
.nil)
(.cons (.ife (.cmp .lt (.var 3) (.int 4))
(.cons (.ret (.bin .add (.bin .add (.sl (.var 0) .no (.yes (.var 4))) (.tup (.cons (.var 5) .nil))) (.sl (.var 0) (.yes (.bin .add (.var 4) (.int 1))) .no)))
.nil)
.nil)
(.cons (.ret (.ife (.cmp .eq (.var 3) (.int 4)) (.rev (.var 0)) (.bin .add (.sl (.var 0) .no (.yes (.var 4))) (.sl (.var 0) (.yes (.b2 .max (.int 0) (.bin .sub (.var 4) (.int 1)))) .no))))
.nil)))) [.fz (eT xs), .fz (eL [a, b, c]), .fz (.int most), .fz (.int (a % 6)), .fz (.int at_), .fz (.int odd)] = res → exSs Φ W bBent (startR 6 [eT xs, eL [a, b, c], .int most]) = res := fun res h => by
    unfold bBent
    refine st_asg (d := .int (a % 6)) (ρ' := [.fz (eT xs), .fz (eL [a, b, c]), .fz (.int most), .fz (.int (a % 6)), .un, .un]) (by simp [L2.atI, L2.ixN]) (by simp) ?_
    refine st_asg (d := .int at_) (ρ' := [.fz (eT xs), .fz (eL [a, b, c]), .fz (.int most), .fz (.int (a % 6)), .fz (.int at_), .un]) ?_ (by simp) ?_
    · have : (0 : Int) < xs.length + 1 := by omega
      simp [L2.atI, L2.ixN, hat, this]
    refine st_asg (d := .int odd) (ρ' := [.fz (eT xs), .fz (eL [a, b, c]), .fz (.int most), .fz (.int (a % 6)), .fz (.int at_), .fz (.int odd)]) ?_ (by simp) h
    have e3 : 0 < most + 3 := by omega
    simp at ho
    simp [L2.atI, L2.ixN, e3] at ho ⊢
    simp (disch := omega) only [gd_lim]
    simpa [L2.atI, L2.ixN] using ho
  by_cases w0 : a % 6 = 0
  · refine ⟨cut xs none (some at_) ++ cut xs (some (at_ + 1)) none, runD_of (go _ ?_), by rw [List.length_append]; omega⟩
    simp [w0, cut_map]
    repeat (simp (disch := omega) only [gd_lim]; simp)
  · by_cases w1 : a % 6 = 1
    · refine ⟨cut xs none (some at_) ++ [odd] ++ cut xs (some at_) none, runD_of (go _ ?_), by rw [List.length_append, List.length_append, List.length_singleton]; omega⟩
      simp [w1, cut_map]
      repeat (simp (disch := omega) only [gd_lim]; simp)
    · by_cases w2 : a % 6 < 4
      · refine ⟨cut xs none (some at_) ++ [odd] ++ cut xs (some (at_ + 1)) none, runD_of (go _ ?_), by rw [List.length_append, List.length_append, List.length_singleton]; omega⟩
        simp [w0, w1, w2, cut_map]
        repeat (simp (disch := omega) only [gd_lim]; simp)
      · by_cases w3 : a % 6 = 4
        · refine ⟨xs.reverse, runD_of (go _ ?_), by simp⟩
          simp [w3]
        · have c6 := cut_length xs (some (if at_ - 1 > 0 then at_ - 1 else 0)) none
          have c7 := cut_hi xs (if at_ - 1 > 0 then at_ - 1 else 0) (by split <;> omega)
          refine ⟨cut xs none (some at_) ++ cut xs (some (if at_ - 1 > 0 then at_ - 1 else 0)) none, runD_of (go _ ?_), ?_⟩
          · simp [w0, w1, w2, w3, cut_map] at c6 ⊢
            repeat (simp (disch := omega) only [gd_lim]; simp)
          · rw [List.length_append]
            split at c7 <;> split <;> omega
end Pu

set_option maxHeartbeats 4000000
/-! Plain laws: a body's end by what is wanted of it. -/
namespace Pu
open PySem Ce Cs
/-- the body ends, as Q wants it -/
def Wp (Φ : Fns) (n : Nat) (b : Sms) (ρ : Rho) (Q : Res → Prop) : Prop := ∃ r, exSs Φ n b ρ = some r ∧ Q r
section
variable {Φ : Fns} {n : Nat} {ρ ρ1 : Rho} {r a b : Sms} {Q : Res → Prop} {d : PyData}
theorem wp_run {k : Nat} {body : Sms} {ds : List PyData} (h : Wp Φ n body (startR k ds) fun r => r = .rt d) : runD Φ n k body ds = some d := by
  obtain ⟨r, h1, rfl⟩ := h
  exact runD_of h1
theorem wp_run' {k : Nat} {body : Sms} {ds : List PyData} {P : PyData → Prop} (h : Wp Φ n body (startR k ds) fun r => ∃ d, r = .rt d ∧ P d) : ∃ d, runD Φ n k body ds = some d ∧ P d := by
  obtain ⟨r, h1, d, rfl, h2⟩ := h
  exact ⟨d, runD_of h1, h2⟩
theorem wp_of (h : exSs Φ n b ρ = some (.rt d)) (q : Q (.rt d)) : Wp Φ n b ρ Q := ⟨_, h, q⟩
theorem wp_nil (h : Q (.nx ρ)) : Wp Φ n .nil ρ Q := ⟨_, rfl, h⟩
theorem wp_mono {Q' : Res → Prop} (h : Wp Φ n b ρ Q') (k : ∀ r, Q' r → Q r) : Wp Φ n b ρ Q := by
  obtain ⟨x, h1, h2⟩ := h
  exact ⟨x, h1, k x h2⟩
theorem wp_step {s : Sm} (h : exS Φ n s ρ = some (.nx ρ1)) (k : Wp Φ n r ρ1 Q) : Wp Φ n (.cons s r) ρ Q := by
  obtain ⟨x, h1, h2⟩ := k
  exact ⟨x, by simp only [exSs, h, Option.bind_some]; exact h1, h2⟩
theorem wp_set {i : Nat} {e : Ex} (he : ev Φ e ρ false = some d) (hi : i < ρ.length) (k : Wp Φ n r (ρ.set i (.fz d)) Q) : Wp Φ n (.cons (.asg (.nm i) e) r) ρ Q :=
  wp_step (by simp [he, hi]) k
theorem wp_asg {t : Tg} {e : Ex} (he : ev Φ e ρ false = some d) (hb : bindT t d ρ = some ρ1) (k : Wp Φ n r ρ1 Q) : Wp Φ n (.cons (.asg t e) r) ρ Q :=
  wp_step (by simp [he, hb]) k
theorem wp_own {i : Nat} {e : Ex} (he : ev Φ e ρ false = some d) (hm : isMut d = true) (hi : i < ρ.length) (k : Wp Φ n r (ρ.set i (.ow d)) Q) : Wp Φ n (.cons (.own i e) r) ρ Q :=
  wp_step (by simp only [exS, he, Option.bind_some, hm, hi, and_self, if_true]) k
theorem wp_app {i : Nat} {e : Ex} {ds : List PyData} (he : ev Φ e ρ false = some d) (hx : ρ[i]? = some (.ow (.list ds))) (hl : ds.length < 1000000) (k : Wp Φ n r (ρ.set i (.ow (.list (ds ++ [d])))) Q) : Wp Φ n (.cons (.app i e) r) ρ Q :=
  wp_step (by simp only [exS, he, Option.bind_some, hx]; exact gd_llim hl) k
theorem wp_ret {e : Ex} (he : ev Φ e ρ false = some d) (q : Q (.rt d)) : Wp Φ n (.cons (.ret e) r) ρ Q := ⟨.rt d, by simp [he], q⟩
theorem wp_ifF {c : Ex} (hc : tst Φ c ρ = some false) (k : Wp Φ n r ρ Q) : Wp Φ n (.cons (.ife c a .nil) r) ρ Q :=
  wp_step (by simp only [exS, hc, Option.bind_some, Bool.false_eq_true, if_false, exSs]) k
theorem wp_if {c : Ex} {t : Bool} (hc : tst Φ c ρ = some t) (h1 : t = true → Wp Φ n a ρ fun x => match x with | .nx ρ' => Wp Φ n r ρ' Q | x => Q x) (h2 : t = false → Wp Φ n b ρ fun x => match x with | .nx ρ' => Wp Φ n r ρ' Q | x => Q x) : Wp Φ n (.cons (.ife c a b) r) ρ Q := by
  have fin : ∀ {z : Sms}, (Wp Φ n z ρ fun x => match x with | .nx ρ' => Wp Φ n r ρ' Q | x => Q x) → exS Φ n (.ife c a b) ρ = exSs Φ n z ρ → Wp Φ n (.cons (.ife c a b) r) ρ Q := fun {z} hz e => by
    obtain ⟨x, q1, q2⟩ := hz
    cases x with
    | nx ρ' => exact wp_step (by rw [e, q1]) q2
    | rt d => exact ⟨.rt d, by simp only [exSs, e, q1, Option.bind_some], q2⟩
    | ct ρ' => exact ⟨.ct ρ', by simp only [exSs, e, q1, Option.bind_some], q2⟩
    | bk ρ' => exact ⟨.bk ρ', by simp only [exSs, e, q1, Option.bind_some], q2⟩
  cases t with
  | true => exact fin (h1 rfl) (by simp only [exS, hc, Option.bind_some, if_true])
  | false => exact fin (h2 rfl) (by simp only [exS, hc, Option.bind_some, Bool.false_eq_true, if_false])
/-- a loop, its invariant by the number of turns; a turn may end the whole by x with Q x -/
theorem wp_forN {α : Type} {enc : α → PyData} {xs : List α} {t : Tg} {i : Ce.It} (I : Nat → Rho → Prop) (hi : itms Φ i ρ false = some (xs.map enc)) (h0 : I 0 ρ)
    (h : ∀ j x ρ, xs[j]? = some x → I j ρ → ∃ ρ1, bindT t (enc x) ρ = some ρ1 ∧ Wp Φ n b ρ1 fun z => match z with | .nx ρ2 => I (j + 1) ρ2 | .ct ρ2 => I (j + 1) ρ2 | .rt d => Q (.rt d) | .bk ρ2 => Wp Φ n r ρ2 Q)
    (k : ∀ ρ', I xs.length ρ' → Wp Φ n r ρ' Q) : Wp Φ n (.cons (.for t i b) r) ρ Q := by
  have main : ∀ (l : List α) (j : Nat) (ρ : Rho), (∀ m x, l[m]? = some x → xs[j + m]? = some x) → j + l.length = xs.length → I j ρ → ∃ z, forF (fun d ρ' => (bindT t d ρ').bind (exSs Φ n b)) (l.map enc) ρ = some z ∧ match z with | .nx ρ2 => Wp Φ n r ρ2 Q | z => Q z := by
    intro l
    induction l with
    | nil =>
      intro j ρ _ hl hI
      simp at hl
      subst hl
      exact ⟨.nx ρ, rfl, k ρ hI⟩
    | cons x l ih =>
      intro j ρ hm hl hI
      obtain ⟨ρ1, q1, z, q2, q3⟩ := h j x ρ (by simpa using hm 0 x rfl) hI
      have e : forF (fun d ρ' => (bindT t d ρ').bind (exSs Φ n b)) ((x :: l).map enc) ρ = (some z).bind fun r => match r with
        | .nx ρ' => forF (fun d ρ' => (bindT t d ρ').bind (exSs Φ n b)) (l.map enc) ρ'
        | .ct ρ' => forF (fun d ρ' => (bindT t d ρ').bind (exSs Φ n b)) (l.map enc) ρ'
        | .bk ρ' => some (.nx ρ')
        | .rt d => some (.rt d) := by
        rw [List.map_cons, forF, q1, Option.bind_some, q2] <;> (cases z <;> rfl)
      rw [e]
      have hm' : ∀ m y, l[m]? = some y → xs[j + 1 + m]? = some y := fun m y hy => by
        have := hm (m + 1) y (by simpa using hy)
        rw [show j + 1 + m = j + (m + 1) by omega]
        exact this
      have hl' : j + 1 + l.length = xs.length := by rw [List.length_cons] at hl; omega
      cases z with
      | nx ρ2 => exact ih (j + 1) ρ2 hm' hl' q3
      | ct ρ2 => exact ih (j + 1) ρ2 hm' hl' q3
      | bk ρ2 => exact ⟨.nx ρ2, rfl, q3⟩
      | rt d => exact ⟨.rt d, rfl, q3⟩
  obtain ⟨z, q1, q2⟩ := main xs 0 ρ (fun m x hx => by rw [Nat.zero_add]; exact hx) (Nat.zero_add _) h0
  have e : exS Φ n (.for t i b) ρ = some z := by simp only [exS, hi, Option.bind_some, q1]
  cases z with
  | nx ρ2 => exact wp_step e q2
  | rt d => exact ⟨.rt d, by simp only [exSs, e, Option.bind_some], q2⟩
  | ct ρ2 => exact ⟨.ct ρ2, by simp only [exSs, e, Option.bind_some], q2⟩
  | bk ρ2 => exact ⟨.bk ρ2, by simp only [exSs, e, Option.bind_some], q2⟩
/-- .. whatever came ahead -/
theorem wp_for {α : Type} {enc : α → PyData} {xs : List α} {t : Tg} {i : Ce.It} (I : Rho → Prop) (hi : itms Φ i ρ false = some (xs.map enc)) (h0 : I ρ)
    (h : ∀ x ∈ xs, ∀ ρ, I ρ → ∃ ρ1, bindT t (enc x) ρ = some ρ1 ∧ Wp Φ n b ρ1 fun z => match z with | .nx ρ2 => I ρ2 | .ct ρ2 => I ρ2 | .rt d => Q (.rt d) | .bk ρ2 => Wp Φ n r ρ2 Q)
    (k : ∀ ρ', I ρ' → Wp Φ n r ρ' Q) : Wp Φ n (.cons (.for t i b) r) ρ Q :=
  wp_forN (enc := enc) (xs := xs) (fun _ => I) hi h0 (fun j x ρ hx hI => h x (List.mem_of_getElem? hx) ρ hI) k
/-- over numbers -/
theorem wp_forI {xs : List Int} {j0 : Nat} {i : Ce.It} (I : Rho → Prop) (hi : itms Φ i ρ false = some (xs.map .int)) (h0 : I ρ) (hl : ∀ ρ, I ρ → j0 < ρ.length)
    (h : ∀ x ∈ xs, ∀ ρ, I ρ → Wp Φ n b (ρ.set j0 (.fz (.int x))) fun z => match z with | .nx ρ2 => I ρ2 | .ct ρ2 => I ρ2 | .rt d => Q (.rt d) | .bk ρ2 => Wp Φ n r ρ2 Q)
    (k : ∀ ρ', I ρ' → Wp Φ n r ρ' Q) : Wp Φ n (.cons (.for (.nm j0) i b) r) ρ Q :=
  wp_for (enc := PyData.int) (xs := xs) I hi h0 (fun x hx ρ hI => ⟨_, by simp [hl ρ hI], h x hx ρ hI⟩) k
theorem wp_forT {xs : List (List Int)} {j0 : Nat} {i : Ce.It} (I : Rho → Prop) (hi : itms Φ i ρ false = some (xs.map eT)) (h0 : I ρ) (hl : ∀ ρ, I ρ → j0 < ρ.length)
    (h : ∀ x ∈ xs, ∀ ρ, I ρ → Wp Φ n b (ρ.set j0 (.fz (eT x))) fun z => match z with | .nx ρ2 => I ρ2 | .ct ρ2 => I ρ2 | .rt d => Q (.rt d) | .bk ρ2 => Wp Φ n r ρ2 Q)
    (k : ∀ ρ', I ρ' → Wp Φ n r ρ' Q) : Wp Φ n (.cons (.for (.nm j0) i b) r) ρ Q :=
  wp_for (enc := eT) (xs := xs) I hi h0 (fun x hx ρ hI => ⟨_, by simp [hl ρ hI], h x hx ρ hI⟩) k
end
end Pu

set_option maxHeartbeats 4000000
/-! More rules for bodies; lists without repeats. -/
namespace Pu
open PySem Ce Cs
variable {Φ : Fns} {n : Nat} {ρ : Rho} {Q : Res → Prop}
theorem wp_frz {is : List Nat} {s : Sm} {r : Sms} (h : Wp Φ n (.cons s r) (frzR ρ is) Q) : Wp Φ n (.cons (.frz is s) r) ρ Q := by
  obtain ⟨z, hz, q⟩ := h
  refine ⟨z, ?_, q⟩
  rw [exSs_e1] at hz ⊢
  rw [exS_e8]
  exact hz
/-- a statement, then the rest, from what it leaves -/
theorem wp_mid {s : Sm} {r : Sms} (M : Rho → Prop) (h : Wp Φ n (.cons s .nil) ρ fun z => ∃ ρ', z = .nx ρ' ∧ M ρ') (k : ∀ ρ', M ρ' → Wp Φ n r ρ' Q) : Wp Φ n (.cons s r) ρ Q := by
  obtain ⟨z, hz, ρ', rfl, hM⟩ := h
  obtain ⟨y, hy, q⟩ := k ρ' hM
  refine ⟨y, ?_, q⟩
  rw [exSs_e1] at hz ⊢
  cases hs : exS Φ n s ρ with
  | none => rw [hs] at hz; cases hz
  | some x =>
    rw [hs] at hz
    cases x with
    | nx ρ2 =>
      simp only [Option.bind_some, exSs_e0] at hz
      cases hz
      simpa using hy
    | rt d => cases hz
    | ct d => cases hz
    | bk d => cases hz
theorem index_any {α : Type} {f : α → PyData} {xs : List α} {i : Int} (h0 : 0 ≤ i) (h1 : i < xs.length) : ∃ x ∈ xs, L2.atI (xs.map f) i = some (f x) := by
  have hl : i.toNat < xs.length := by omega
  refine ⟨xs[i.toNat], List.getElem_mem hl, ?_⟩
  rw [index_M (d := xs[i.toNat]) h0 h1]
  simp [List.getD, List.getElem?_eq_getElem hl]
@[simp] theorem atI_0 {α : Type} (a : α) (l : List α) : L2.atI (a :: l) 0 = some a := by
  rw [atI_of (Int.le_refl 0) (by simp)]
  rfl
@[simp] theorem atI_1 {α : Type} (a b : α) (l : List α) : L2.atI (a :: b :: l) 1 = some b := by
  rw [atI_of (by omega) (by simp only [List.length_cons]; omega)]
  rfl
@[simp] theorem atI_2 {α : Type} (a b c : α) (l : List α) : L2.atI (a :: b :: c :: l) 2 = some c := by
  rw [atI_of (by omega) (by simp only [List.length_cons]; omega)]
  rfl
@[simp] theorem atI_3 {α : Type} (a b c d : α) (l : List α) : L2.atI (a :: b :: c :: d :: l) 3 = some d := by
  rw [atI_of (by omega) (by simp only [List.length_cons]; omega)]
  rfl
theorem index_last {xs : List Int} (h : 0 < xs.length) : L2.atI (xs.map PyData.int) (-1) = some (.int (nth xs (xs.length - 1 : Nat))) := by
  unfold L2.atI L2.ixN
  rw [if_neg (by omega), if_pos (by simp; omega)]
  have e : ((-1 : Int) + ((xs.map PyData.int).length : Int)).toNat = xs.length - 1 := by simp; omega
  rw [e]
  have hl : xs.length - 1 < xs.length := by omega
  simp [nth, List.getD, List.getElem?_eq_getElem hl]
theorem cut_take {α : Type} {xs : List α} {i : Nat} (h : i ≤ xs.length) : cut xs none (some (i : Int)) = xs.take i := by
  unfold cut
  rw [HT.sIx_none, HT.sIx_nat, List.drop_zero, Nat.sub_zero, Nat.min_eq_left h]
theorem enumd_ints (xs : List Int) : enumd (xs.map PyData.int) = (ivs 0 xs.length).map fun i => .tuple [.int i, .int (nth xs i)] := by
  refine List.ext_getElem ?_ fun i h1 h2 => ?_
  · simp [enumd, ivs_length]
  · have hi : i < xs.length := by simpa [enumd] using h1
    simp [enumd, ivs, nth, List.getD, List.getElem?_eq_getElem hi]
theorem setd_ints {xs : List Int} (h : xs.length < 64) : setd? (xs.map PyData.int) = some ((setI xs).map .int) := by
  unfold setd?
  rw [gd_pos (by simpa using h), ints_of]
theorem setI_length_le (xs : List Int) : (setI xs).length ≤ xs.length := by
  unfold setI
  rw [List.length_mergeSort]
  exact Cs.nub_len xs
theorem setI_nodup {xs : List Int} (h : xs.Nodup) : (setI xs).length = xs.length := by
  unfold setI
  rw [List.length_mergeSort]
  exact (Cs.perm_of (Cs.nodup_nub xs) h fun x => Cs.mem_nub).length_eq
theorem ivs_get' {n : Nat} {j : Nat} {x : Int} (h : (ivs 0 n)[j]? = some x) : x = j ∧ j < n := ivs_get h
theorem filter_one {α : Type} {xs : List α} {p : α → Bool} {x : α} (nd : xs.Nodup) (hx : x ∈ xs) (hp : p x = true) (u : ∀ y ∈ xs, p y = true → y = x) : xs.filter p = [x] := by
  have h : (xs.filter p).Perm [x] := by
    refine (List.perm_ext_iff_of_nodup (nd.filter _) (by simp)).mpr fun y => ?_
    rw [List.mem_filter, List.mem_singleton]
    exact ⟨fun h => u y h.1 h.2, fun e => e ▸ ⟨hx, hp⟩⟩
  exact List.perm_singleton.mp h
theorem asc_ext {xs ys : List Int} (hx : Asc xs) (hy : Asc ys) (h : ∀ z, z ∈ xs ↔ z ∈ ys) : xs = ys := by
  rw [← Cs.setI_of (ns := ys) hx h]
  exact Cs.setI_of hy fun _ => Iff.rfl
theorem mem_setI {ns : List Int} {x : Int} : x ∈ setI ns ↔ x ∈ ns := by
  unfold setI
  rw [List.mem_mergeSort, Cs.mem_nub]
end Pu

set_option maxHeartbeats 4000000
/-! Tables of marks, in plain Lean; small helpers of every law. -/
noncomputable section
namespace LawX
open PySem Ce Cs Pu
abbrev Ws : Nat := 100000
def nthR (rows : List (List Int)) (i : Int) : List Int := rows.getD i.toNat []
abbrev eR (rows : List (List Int)) : PyData := .tuple (rows.map eT)
theorem index_R {rows : List (List Int)} {i : Int} (h0 : 0 ≤ i) (h1 : i < rows.length) : L2.atI (rows.map eT) i = some (eT (nthR rows i)) := index_M h0 h1
theorem nthR_mem {rows : List (List Int)} {i : Int} (h0 : 0 ≤ i) (h1 : i < rows.length) : nthR rows i ∈ rows := by
  have hl : i.toNat < rows.length := by omega
  simp [nthR, List.getD, List.getElem?_eq_getElem hl]
theorem dd {k n : Nat} (h : k + 1 ≤ n) : ∃ m, n = m + 1 ∧ k ≤ m := ⟨n - 1, by omega, by omega⟩
def Short (rows : List (List Int)) : Prop := rows.length ≤ 1000 ∧ ∀ r ∈ rows, r.length ≤ 1000

def isTable (m : Int) (rows : List (List Int)) : Bool := decide (0 ≤ m) && rows.all fun r => isSetB m r
def common (m : Int) (rows : List (List Int)) (things : List Int) : List Int := (ivs 0 m).filter fun k => things.all fun t => decide (k ∈ nthR rows t)
def In (n : Int) (xs : List Int) : Prop := ∀ x ∈ xs, 0 ≤ x ∧ x < n
theorem enumd_map (rows : List (List Int)) : enumd (rows.map eT) = (ivs 0 rows.length).map fun i => .tuple [.int i, eT (nthR rows i)] := by
  refine List.ext_getElem ?_ fun i h1 h2 => ?_
  · simp [enumd, ivs_length]
  · have hi : i < rows.length := by simpa [enumd] using h1
    simp [enumd, ivs, nthR, List.getD, List.getElem?_eq_getElem hi]
def bearers (rows : List (List Int)) (marks : List Int) : List Int := (ivs 0 rows.length).filter fun t => within marks (nthR rows t)
theorem bearers_in (rows : List (List Int)) (marks : List Int) : In rows.length (bearers rows marks) := fun x hx => mem_ivs.mp (List.mem_filter.mp hx).1
theorem common_in (m : Int) (rows : List (List Int)) (things : List Int) : In m (common m rows things) := fun x hx => mem_ivs.mp (List.mem_filter.mp hx).1
def closure (m : Int) (rows : List (List Int)) (marks : List Int) : List Int := common m rows (bearers rows marks)
/-! ### plain -/
theorem tst_nc {Φ : Fns} {ρ : Rho} {f : Nat} {es : Exs} {ds : List PyData} (h1 : evs Φ es ρ = some ds) (h2 : Φ f ds = some (.bool true)) : tst Φ (.not (.call f es)) ρ = some false := by
  simp [h1, h2]
theorem all_and {α : Type} (p q : α → Bool) (r : List α) : (r.all fun x => p x && q x) = (r.all p && r.all q) := by
  induction r with
  | nil => rfl
  | cons x r ih =>
    simp only [List.all_cons, ih]
    cases p x <;> cases q x <;> simp
theorem nth_get {xs : List Int} {i : Nat} (h : i < xs.length) : nth xs i = xs[i] := by
  simp [nth, List.getD, List.getElem?_eq_getElem h]
theorem rising_asc {xs : List Int} (h : Asc xs) : rising xs = true := by
  unfold rising
  rw [List.all_eq_true]
  intro k hk
  have hk' := mem_ivs.mp hk
  rw [decide_eq_true_eq]
  obtain ⟨i, rfl⟩ : ∃ i : Nat, k = i := ⟨k.toNat, by omega⟩
  have h1 : i < xs.length := by omega
  have h2 : i + 1 < xs.length := by omega
  have e : ((i : Int) + 1) = ((i + 1 : Nat) : Int) := by omega
  rw [e, nth_get h1, nth_get h2]
  exact List.pairwise_iff_getElem.mp h i (i + 1) h1 h2 (by omega)
theorem ivs_asc (n : Int) : Asc (ivs 0 n) := by
  unfold ivs Asc
  rw [List.pairwise_map]
  refine List.Pairwise.imp ?_ (List.pairwise_lt_range)
  intro a b h
  omega
theorem lawSet_asc (z n : Int) : Asc (lawSet z n) := List.Pairwise.filter _ (ivs_asc n)
theorem isSetB_of {n : Int} {xs : List Int} (h : Asc xs) (hb : In n xs) : isSetB n xs = true := by
  unfold isSetB isSet
  rw [rising_asc h]
  simp only [Bool.true_and, Bool.and_eq_true, List.all_eq_true, decide_eq_true_eq]
  exact ⟨fun x hx => (hb x hx).1, fun x hx => (hb x hx).2⟩
theorem within_iff {xs ys : List Int} : within xs ys = true ↔ ∀ x ∈ xs, x ∈ ys := by
  simp [within]
theorem mem_common {m : Int} {rows : List (List Int)} {things : List Int} {x : Int} : x ∈ common m rows things ↔ (0 ≤ x ∧ x < m) ∧ ∀ t ∈ things, x ∈ nthR rows t := by
  simp [common, mem_ivs]
theorem mem_bearers {rows : List (List Int)} {marks : List Int} {t : Int} : t ∈ bearers rows marks ↔ (0 ≤ t ∧ t < rows.length) ∧ ∀ x ∈ marks, x ∈ nthR rows t := by
  simp [bearers, mem_ivs, within_iff]
/-- the closure has the marks -/
theorem closure_has {m : Int} {rows : List (List Int)} {marks : List Int} (h : In m marks) : within marks (closure m rows marks) = true := by
  rw [within_iff]
  intro x hx
  exact mem_common.mpr ⟨h x hx, fun t ht => (mem_bearers.mp ht).2 x hx⟩
theorem bearers_closure {m : Int} {rows : List (List Int)} {marks : List Int} (h : In m marks) : bearers rows (closure m rows marks) = bearers rows marks := by
  unfold bearers
  refine List.filter_congr fun t ht => ?_
  have hb := mem_ivs.mp ht
  rw [Bool.eq_iff_iff, within_iff, within_iff]
  constructor
  · intro q x hx
    exact q x (within_iff.mp (closure_has h) x hx)
  · intro q x hx
    exact (mem_common.mp hx).2 t (mem_bearers.mpr ⟨hb, q⟩)
/-- .. and is closed -/
theorem closure_twice {m : Int} {rows : List (List Int)} {marks : List Int} (h : In m marks) : closure m rows (closure m rows marks) = closure m rows marks := by
  show common m rows (bearers rows (closure m rows marks)) = _
  rw [bearers_closure h]
  rfl
theorem bearers_anti {rows : List (List Int)} {fewer marks : List Int} (h : within fewer marks = true) : within (bearers rows marks) (bearers rows fewer) = true := by
  rw [within_iff] at h ⊢
  intro t ht
  obtain ⟨h1, h2⟩ := mem_bearers.mp ht
  exact mem_bearers.mpr ⟨h1, fun x hx => h2 x (h x hx)⟩
theorem cut_mem {α : Type} {xs : List α} {lo hi : Option Int} {x : α} (h : x ∈ cut xs lo hi) : x ∈ xs := List.mem_of_mem_drop (List.mem_of_mem_take h)
theorem cut3 {xs : List Int} {a : Int} (h0 : 0 ≤ a) (h1 : a + 3 ≤ xs.length) : cut xs (some a) (some (a + 3)) = [nth xs a, nth xs (a + 1), nth xs (a + 2)] := by
  obtain ⟨i, rfl⟩ : ∃ i : Nat, a = i := ⟨a.toNat, by omega⟩
  have e1 : HT.sIx xs.length 0 (some (i : Int)) = i := by rw [HT.sIx_nat]; omega
  have e2 : HT.sIx xs.length xs.length (some ((i : Int) + 3)) = i + 3 := by
    have : ((i : Int) + 3) = ((i + 3 : Nat) : Int) := by omega
    rw [this, HT.sIx_nat]; omega
  unfold cut
  rw [e1, e2, show i + 3 - i = 3 by omega]
  have l1 : i < xs.length := by omega
  have l2 : i + 1 < xs.length := by omega
  have l3 : i + 2 < xs.length := by omega
  have f1 : ((i : Int) + 1) = ((i + 1 : Nat) : Int) := by omega
  have f2 : ((i : Int) + 2) = ((i + 2 : Nat) : Int) := by omega
  rw [f1, f2, nth_get l1, nth_get l2, nth_get l3]
  rw [List.drop_eq_getElem_cons l1, List.take_succ_cons, List.drop_eq_getElem_cons l2, List.take_succ_cons, List.drop_eq_getElem_cons l3, List.take_succ_cons, List.take_zero]
theorem in_length {n : Nat} {xs : List Int} (h : xs ∈ sets n) : xs.length ≤ n ∧ In n xs := by
  obtain ⟨h1, h2⟩ := sets_mem.mp h
  exact ⟨asc_length h1 h2, h2⟩
theorem filter_le {p : Int → Bool} {n : Int} {k : Nat} (h : n ≤ k) : ((ivs 0 n).filter p).length ≤ k := by
  have := List.length_filter_le p (ivs 0 n)
  rw [ivs_length] at this
  omega

theorem nth_drawn {ds : List Int} (h : Drawn ds) {i : Int} (h0 : 0 ≤ i) (h1 : i < ds.length) : 0 ≤ nth ds i ∧ nth ds i < 5040 := h _ (nth_mem h0 h1)
theorem pick6 (a b c d e f : Int) {i : Int} (h0 : 0 ≤ i) (h1 : i < 6) : L2.atI [PyData.int a, .int b, .int c, .int d, .int e, .int f] i = some (.int (nth [a, b, c, d, e, f] i)) := index_T (xs := [a, b, c, d, e, f]) h0 (by simpa using h1)
theorem in6 {a b c d e f : Int} {i : Int} {P : Int → Prop} (h : P a ∧ P b ∧ P c ∧ P d ∧ P e ∧ P f) (h0 : 0 ≤ i) (h1 : i < 6) : P (nth [a, b, c, d, e, f] i) := by
  obtain ⟨ha, hb, hc, hd, he, hf⟩ := h
  have : i = 0 ∨ i = 1 ∨ i = 2 ∨ i = 3 ∨ i = 4 ∨ i = 5 := by omega
  rcases this with rfl | rfl | rfl | rfl | rfl | rfl <;> assumption
end LawX

set_option maxHeartbeats 4000000
/-! Disputes: who attacks whom, what is defended, the sure set. Plain. -/
noncomputable section
namespace LawX
open PySem Ce Cs Pu
abbrev Pr := Int × Int
abbrev eP (p : Pr) : PyData := .tuple [.int p.1, .int p.2]
abbrev ePs (ps : List Pr) : PyData := .tuple (ps.map eP)
@[simp] theorem eqv_P (p q : Pr) : PyData.eqv (eP p) (eP q) = decide (p = q) := by
  rw [PyData.eqv, PyData.eqvAll, PyData.eqvAll, PyData.eqvAll, eqv_int, eqv_int, Bool.and_true, ← Bool.decide_and]
  refine decide_eq_decide.mpr ⟨fun h => Prod.ext h.1 h.2, fun h => h ▸ ⟨rfl, rfl⟩⟩
@[simp] theorem eqv_P' (p : Pr) (a b : Int) : PyData.eqv (eP p) (.tuple [.int a, .int b]) = decide (p = (a, b)) := eqv_P p (a, b)
@[simp] theorem pk_Ps (k : Nat) (xs : List Pr) : (xs.map eP).all (pk (k + 1)) = true := by
  rw [List.all_eq_true]
  intro d hd
  obtain ⟨x, _, rfl⟩ := List.mem_map.mp hd
  simp
/-- the attackers of a; does one of xs attack a; what xs defend -/
def atk (n : Int) (ps : List Pr) (a : Int) : List Int := (ivs 0 n).filter fun x => decide ((x, a) ∈ ps)
def does (ps : List Pr) (xs : List Int) (a : Int) : Bool := xs.any fun x => decide ((x, a) ∈ ps)
def dfd (n : Int) (ps : List Pr) (xs : List Int) : List Int := (ivs 0 n).filter fun a => (atk n ps a).all fun b => does ps xs b
def InP (n : Int) (ps : List Pr) : Prop := ∀ p ∈ ps, (0 ≤ p.1 ∧ p.1 < n) ∧ 0 ≤ p.2 ∧ p.2 < n
def sureN (n : Int) (ps : List Pr) : Nat → List Int
  | 0 => []
  | k + 1 => dfd n ps (sureN n ps k)
theorem does_iff {ps : List Pr} {xs : List Int} {a : Int} : does ps xs a = true ↔ ∃ x ∈ xs, (x, a) ∈ ps := by
  simp [does]
theorem mem_dfd {n : Int} {ps : List Pr} {xs : List Int} {a : Int} : a ∈ dfd n ps xs ↔ (0 ≤ a ∧ a < n) ∧ ∀ b, 0 ≤ b → b < n → (b, a) ∈ ps → ∃ x ∈ xs, (x, b) ∈ ps := by
  simp only [dfd, atk, List.mem_filter, mem_ivs, List.all_eq_true, decide_eq_true_eq, does_iff]
  constructor
  · rintro ⟨h1, h2⟩
    exact ⟨h1, fun b b0 b1 hb => h2 b ⟨⟨b0, b1⟩, hb⟩⟩
  · rintro ⟨h1, h2⟩
    exact ⟨h1, fun b hb => h2 b hb.1.1 hb.1.2 hb.2⟩
theorem dfd_mono {n : Int} {ps : List Pr} {xs ys : List Int} (h : ∀ x ∈ xs, x ∈ ys) : ∀ a ∈ dfd n ps xs, a ∈ dfd n ps ys := by
  intro a ha
  obtain ⟨h1, h2⟩ := mem_dfd.mp ha
  refine mem_dfd.mpr ⟨h1, fun b b0 b1 hb => ?_⟩
  obtain ⟨x, hx, q⟩ := h2 b b0 b1 hb
  exact ⟨x, h x hx, q⟩
theorem dfd_asc (n : Int) (ps : List Pr) (xs : List Int) : Asc (dfd n ps xs) := List.Pairwise.filter _ (ivs_asc n)
theorem dfd_in (n : Int) (ps : List Pr) (xs : List Int) : In n (dfd n ps xs) := fun x hx => mem_ivs.mp (List.mem_filter.mp hx).1
theorem dfd_ext {n : Int} {ps : List Pr} {xs ys : List Int} (h : ∀ x, x ∈ xs ↔ x ∈ ys) : dfd n ps xs = dfd n ps ys :=
  asc_ext (dfd_asc _ _ _) (dfd_asc _ _ _) fun z => ⟨dfd_mono (fun x hx => (h x).mp hx) z, dfd_mono (fun x hx => (h x).mpr hx) z⟩
theorem sureN_asc (n : Int) (ps : List Pr) : ∀ k, Asc (sureN n ps k) ∧ In n (sureN n ps k)
  | 0 => ⟨List.Pairwise.nil, fun x hx => by cases hx⟩
  | k + 1 => ⟨dfd_asc _ _ _, dfd_in _ _ _⟩
theorem sureN_len (n : Nat) (ps : List Pr) (k : Nat) : (sureN n ps k).length ≤ n := asc_length (sureN_asc n ps k).1 (sureN_asc n ps k).2
theorem sureN_up (n : Int) (ps : List Pr) : ∀ k, ∀ x ∈ sureN n ps k, x ∈ sureN n ps (k + 1)
  | 0, x, hx => by cases hx
  | k + 1, x, hx => dfd_mono (sureN_up n ps k) x hx
theorem sureN_le {n : Int} {ps : List Pr} {j k : Nat} (h : j ≤ k) : ∀ x ∈ sureN n ps j, x ∈ sureN n ps k := by
  induction h with
  | refl => exact fun _ h => h
  | step _ ih => exact fun x hx => sureN_up n ps _ x (ih x hx)
theorem asc_sub_len {xs ys : List Int} (hx : Asc xs) (hy : Asc ys) (h : ∀ z ∈ xs, z ∈ ys) : xs.length ≤ ys.length ∧ (xs.length = ys.length → xs = ys) := by
  induction ys generalizing xs with
  | nil =>
    cases xs with
    | nil => exact ⟨Nat.le_refl _, fun _ => rfl⟩
    | cons x xs => exact absurd (h x List.mem_cons_self) (by simp)
  | cons y ys ih =>
    obtain ⟨hy1, hy2⟩ := List.pairwise_cons.mp hy
    cases xs with
    | nil => exact ⟨Nat.zero_le _, fun e => by simp at e⟩
    | cons x xs =>
      obtain ⟨hx1, hx2⟩ := List.pairwise_cons.mp hx
      by_cases e : x = y
      · subst e
        have sub : ∀ z ∈ xs, z ∈ ys := fun z hz => by
          rcases List.mem_cons.mp (h z (List.mem_cons_of_mem _ hz)) with q | q
          · have := hx1 z hz; omega
          · exact q
        obtain ⟨a, b⟩ := ih hx2 hy2 sub
        exact ⟨Nat.succ_le_succ a, fun q => by rw [b (by simpa using q)]⟩
      · have xy : x ∈ ys := by
          rcases List.mem_cons.mp (h x List.mem_cons_self) with q | q
          · exact absurd q e
          · exact q
        have lt := hy1 x xy
        have sub : ∀ z ∈ x :: xs, z ∈ ys := fun z hz => by
          rcases List.mem_cons.mp (h z hz) with q | q
          · exfalso
            rcases List.mem_cons.mp hz with r | r
            · omega
            · have := hx1 z r; omega
          · exact q
        obtain ⟨a, b⟩ := ih hx hy2 sub
        refine ⟨by simp at a ⊢; omega, fun q => ?_⟩
        simp at a q
        omega
/-- the rounds come to rest -/
theorem sureN_rest (n : Nat) (ps : List Pr) : sureN n ps (n + 1) = sureN n ps n := by
  have key : ∀ k, sureN n ps (k + 1) = sureN n ps k ∨ k + 1 ≤ (sureN n ps (k + 1)).length := by
    intro k
    induction k with
    | zero =>
      by_cases h : sureN n ps 1 = []
      · exact .inl h
      · exact .inr (List.length_pos_iff.mpr h)
    | succ k ih =>
      rcases ih with e | e
      · left
        show dfd n ps (sureN n ps (k + 1)) = dfd n ps (sureN n ps k)
        rw [e]
      · by_cases q : sureN n ps (k + 1 + 1) = sureN n ps (k + 1)
        · exact .inl q
        · right
          obtain ⟨a, b⟩ := asc_sub_len (sureN_asc n ps (k + 1)).1 (sureN_asc n ps (k + 1 + 1)).1 (sureN_up n ps (k + 1))
          have : (sureN n ps (k + 1)).length ≠ (sureN n ps (k + 1 + 1)).length := fun z => q (b z).symm
          omega
  rcases key n with e | e
  · exact e
  · have := sureN_len n ps (n + 1)
    omega
abbrev sureP (n : Nat) (ps : List Pr) : List Int := sureN n ps n
theorem sure_fix (n : Nat) (ps : List Pr) : dfd n ps (sureP n ps) = sureP n ps := sureN_rest n ps
theorem sureN_all (n : Nat) (ps : List Pr) : ∀ k, ∀ x ∈ sureN n ps (n + k), x ∈ sureP n ps
  | 0, x, hx => hx
  | k + 1, x, hx => by
    have h : ∀ x ∈ dfd n ps (sureN n ps (n + k)), x ∈ dfd n ps (sureP n ps) := dfd_mono (sureN_all n ps k)
    have := h x hx
    rwa [sure_fix] at this
theorem sureN_sub (n : Nat) (ps : List Pr) (k : Nat) : ∀ x ∈ sureN n ps k, x ∈ sureP n ps := fun x hx =>
  sureN_all n ps k x (sureN_le (by omega) x hx)
/-- every fixed set has the sure ones -/
theorem sure_least {n : Nat} {ps : List Pr} {xs : List Int} (h : dfd n ps xs = xs) : ∀ k, ∀ x ∈ sureN n ps k, x ∈ xs
  | 0, x, hx => by cases hx
  | k + 1, x, hx => by
    have := dfd_mono (sure_least h k) x hx
    rwa [h] at this
/-- the law's own -/
def openOf (ps : List Pr) (xs : List Int) (a : Int) : List Int := ((ps.filter fun p => decide (p.2 = a)).map (·.1)).filter fun b => decide ((xs.filter fun x => decide ((x, b) ∈ ps)).length = 0)
def lawDfdT (as : List Int) (ps : List Pr) (xs : List Int) : List Int := as.filter fun a => decide ((openOf ps xs a).length = 0)
def lawDfd (n : Int) (ps : List Pr) (xs : List Int) : List Int := lawDfdT (ivs 0 n) ps xs
theorem lawDfd_eq {n : Int} {ps : List Pr} (h : InP n ps) (xs : List Int) : lawDfd n ps xs = dfd n ps xs := by
  unfold lawDfd lawDfdT openOf dfd
  refine List.filter_congr fun a ha => ?_
  rw [Bool.eq_iff_iff, decide_eq_true_eq, List.length_eq_zero_iff, List.filter_eq_nil_iff, List.all_eq_true]
  simp only [List.mem_map, List.mem_filter, decide_eq_true_eq, List.length_eq_zero_iff, List.filter_eq_nil_iff, atk, mem_ivs, does_iff]
  constructor
  · intro q b hb
    have := q b ⟨(b, a), ⟨hb.2, rfl⟩, rfl⟩
    simp only [Classical.not_forall, Classical.not_not] at this
    obtain ⟨x, hx, h⟩ := this
    exact ⟨x, hx, h⟩
  · rintro q b ⟨p, ⟨hp, rfl⟩, rfl⟩
    obtain ⟨x, hx, h2⟩ := q p.1 ⟨(h p hp).1, hp⟩
    exact fun z => z x hx h2
/-- a plea as it is found -/
def pleaRow (n : Int) (ps : List Pr) : Nat → List Int
  | 0 => []
  | k + 1 => pleaRow n ps k ++ (dfd n ps (pleaRow n ps k)).filter fun x => decide (x ∉ pleaRow n ps k)
theorem pleaRow_mem (n : Int) (ps : List Pr) : ∀ k x, x ∈ pleaRow n ps k ↔ x ∈ sureN n ps k
  | 0, x => Iff.rfl
  | k + 1, x => by
    have ih := pleaRow_mem n ps k
    have e : dfd n ps (pleaRow n ps k) = sureN n ps (k + 1) := dfd_ext ih
    show x ∈ pleaRow n ps k ++ (dfd n ps (pleaRow n ps k)).filter (fun x => decide (x ∉ pleaRow n ps k)) ↔ _
    rw [e, List.mem_append, List.mem_filter, decide_eq_true_eq]
    constructor
    · rintro (h | h)
      · exact sureN_up n ps k x ((ih x).mp h)
      · exact h.1
    · intro h
      by_cases q : x ∈ pleaRow n ps k
      · exact .inl q
      · exact .inr ⟨h, q⟩
theorem pleaRow_dfd (n : Int) (ps : List Pr) (k : Nat) : dfd n ps (pleaRow n ps k) = sureN n ps (k + 1) := dfd_ext (pleaRow_mem n ps k)
theorem pleaRow_nodup (n : Int) (ps : List Pr) : ∀ k, (pleaRow n ps k).Nodup
  | 0 => List.Pairwise.nil
  | k + 1 => by
    show (pleaRow n ps k ++ (dfd n ps (pleaRow n ps k)).filter (fun x => decide (x ∉ pleaRow n ps k))).Nodup
    rw [List.nodup_append]
    refine ⟨pleaRow_nodup n ps k, List.Pairwise.filter _ ((dfd_asc _ _ _).imp fun h e => by omega), ?_⟩
    rintro a ha b hb rfl
    have := (List.mem_filter.mp hb).2
    rw [decide_eq_true_eq] at this
    exact this ha
theorem pleaRow_len (n : Nat) (ps : List Pr) (k : Nat) : (pleaRow n ps k).length ≤ n := by
  have p : (pleaRow n ps k).Perm (sureN n ps k) := Cs.perm_of (pleaRow_nodup n ps k) ((sureN_asc n ps k).1.imp fun h e => by omega) (pleaRow_mem n ps k)
  rw [p.length_eq]
  exact sureN_len n ps k
def isExcuse (n : Int) (ps : List Pr) (a : Int) (xs : List Int) : Bool := isSetB n xs && !decide (a ∈ xs) && decide (dfd n ps xs = xs)
theorem pick5 (a b c d e : Int) {i : Int} (h0 : 0 ≤ i) (h1 : i < 5) : L2.atI [PyData.int a, .int b, .int c, .int d, .int e] i = some (.int (nth [a, b, c, d, e] i)) := index_T (xs := [a, b, c, d, e]) h0 (by simpa using h1)
theorem in5 {a b c d e : Int} {i : Int} {P : Int → Prop} (h : P a ∧ P b ∧ P c ∧ P d ∧ P e) (h0 : 0 ≤ i) (h1 : i < 5) : P (nth [a, b, c, d, e] i) := by
  obtain ⟨ha, hb, hc, hd, he⟩ := h
  have : i = 0 ∨ i = 1 ∨ i = 2 ∨ i = 3 ∨ i = 4 := by omega
  rcases this with rfl | rfl | rfl | rfl | rfl <;> assumption
def isPleaA (a : Int) (xs : List Int) : Bool := decide (0 < xs.length) && decide (nth xs ((xs.length - 1 : Nat) : Int) = a) && decide ((setI xs).length = xs.length)
def isPlea (n : Int) (ps : List Pr) (a : Int) (xs : List Int) : Bool := isPleaA a xs && (xs.all fun x => decide (0 ≤ x) && decide (x < n)) && (List.range xs.length).all fun i => decide (nth xs (i : Nat) ∈ dfd n ps (xs.take i))
end LawX

set_option maxHeartbeats 4000000
/-! The law k34. -/
noncomputable section
namespace LawX
open PySem Ce Cs Pu
theorem s_asc {n : Nat} (hn : 1 ≤ n) {xs : List Int} (hx : xs.length ≤ 100000) : den Ws D n 0 [eT xs] = some (.bool (rising xs)) := by
  obtain ⟨m, rfl, hm⟩ := dd hn
  exact (den_run rfl rfl).trans (asc_run hx)
theorem s_isSet {n : Nat} (hn : 2 ≤ n) {xs : List Int} (hx : xs.length ≤ 100000) : den Ws D n 1 [eT xs] = some (.bool (isSet xs)) := by
  obtain ⟨m, rfl, hm⟩ := dd hn
  exact (den_run rfl rfl).trans (isSet_run (j := 0) (s_asc hm hx))
theorem s_isSetB {n : Nat} (hn : 3 ≤ n) {z : Int} {xs : List Int} (hx : xs.length ≤ 100000) : den Ws D n 2 [.int z, eT xs] = some (.bool (isSetB z xs)) := by
  obtain ⟨m, rfl, hm⟩ := dd hn
  exact (den_run rfl rfl).trans (isSetB_run (j := 1) (s_isSet hm hx))
theorem s_atk {n : Nat} (hn : 1 ≤ n) {N : Nat} {ps : List Pr} {a : Int} (hN : N ≤ 1000) : den Ws D n 3 [.int N, ePs ps, .int a] = some (eL (atk N ps a)) := by
  obtain ⟨m, rfl, hm⟩ := dd hn
  refine (den_run (d := d_attackers_of) rfl rfl).trans ?_
  simp [d_attackers_of, b_attackers_of]
  rw [rngI (by omega) (by omega) (by omega) (by omega)]
  simp
  rw [gd_pos (lim_ok (by rw [ivs_length]; omega)), lc_ints (p := fun x => decide ((x, a) ∈ ps))]
  · simp [atk]
  · intro x hx
    simp [LIM, List.any_map, Function.comp_def]
theorem s_does {n : Nat} (hn : 1 ≤ n) {ps : List Pr} {xs : List Int} {a : Int} : den Ws D n 4 [ePs ps, eT xs, .int a] = some (.bool (does ps xs a)) := by
  obtain ⟨m, rfl, hm⟩ := dd hn
  refine (den_run (d := d_does_attack) rfl rfl).trans ?_
  simp [d_does_attack, b_does_attack]
  rw [genF_any (enc := PyData.int) (p := fun x => decide ((x, a) ∈ ps))]
  · simp [does]
  · intro x hx
    simp [LIM, List.any_map, Function.comp_def]
theorem s_dfd {n : Nat} (hn : 2 ≤ n) {N : Nat} {ps : List Pr} {xs : List Int} (hN : N ≤ 1000) : den Ws D n 5 [.int N, ePs ps, eT xs] = some (eT (dfd N ps xs)) := by
  obtain ⟨m, rfl, hm⟩ := dd hn
  refine (den_run (d := d_defended_by) rfl rfl).trans ?_
  show runD (den Ws D m) Ws 6 b_defended_by _ = _
  refine wp_run ?_
  unfold b_defended_by
  refine wp_own (d := .list []) (by simp [LIM]) rfl (by simp) ?_
  refine wp_forN (enc := PyData.int) (xs := ivs 0 N) (fun j ρ => ρ.length = 6 ∧ ρ[0]? = some (.fz (.int N)) ∧ ρ[1]? = some (.fz (ePs ps)) ∧ ρ[2]? = some (.fz (eT xs)) ∧ ρ[3]? = some (.ow (eL (((ivs 0 N).take j).filter fun a => (atk N ps a).all fun b => does ps xs b)))) (by simp; rw [rngI (by omega) (by omega) (by omega) (by omega)]) ⟨by simp, by simp, by simp, by simp, by simp⟩ ?_ ?_
  · rintro j a ρ hj ⟨hl, h0, h1, h2, h3⟩
    have tk : (ivs 0 (N : Int)).take (j + 1) = (ivs 0 (N : Int)).take j ++ [a] := by rw [List.take_succ, hj]; rfl
    have ln : (((ivs 0 (N : Int)).take j).filter fun a => (atk N ps a).all fun b => does ps xs b).length ≤ N := by
      have a1 := List.length_filter_le (fun a => (atk N ps a).all fun b => does ps xs b) ((ivs 0 (N : Int)).take j)
      have a2 := List.length_take_le' j (ivs 0 (N : Int))
      rw [ivs_length] at a2
      omega
    have e1 := s_atk (n := m) (by omega) (N := N) (ps := ps) (a := a) hN
    refine ⟨ρ.set 4 (.fz (.int a)), by simp [hl], ?_⟩
    refine wp_if (t := (atk N ps a).all fun b => does ps xs b) ?_ ?_ ?_
    · simp [-getElem?_pos, List.getElem?_set, hl, h0, h1, h2, e1]
      rw [gen_ints (p := fun b => does ps xs b)]
      · simp
      · intro b hb
        have e2 := s_does (n := m) (by omega) (ps := ps) (xs := xs) (a := b)
        simp [-getElem?_pos, List.getElem?_set, hl, h0, h1, h2, e2]
    · intro ht
      refine wp_app (d := .int a) ?_ (by simp [-getElem?_pos, List.getElem?_set, hl, h3]; rfl) (by simp at ln ⊢; omega) (wp_nil (wp_nil ⟨by simp [hl], ?_, ?_, ?_, ?_⟩))
      · simp [-getElem?_pos, List.getElem?_set, hl]
      all_goals simp [-getElem?_pos, List.getElem?_set, hl, h0, h1, h2, tk]
      rw [List.filter_cons, if_pos ht]
      simp
    · intro ht
      refine wp_nil (wp_nil ⟨by simp [hl], ?_, ?_, ?_, ?_⟩)
      all_goals simp [-getElem?_pos, List.getElem?_set, hl, h0, h1, h2, h3, tk]
      simpa using ht
  · rintro ρ ⟨hl, h0, h1, h2, h3⟩
    rw [List.take_length] at h3
    refine wp_ret (d := eT (dfd N ps xs)) ?_ rfl
    simp [-getElem?_pos, hl, h3, dfd]
theorem s_sure {n : Nat} (hn : 3 ≤ n) {N : Nat} {ps : List Pr} (hN : N ≤ 1000) : den Ws D n 6 [.int N, ePs ps] = some (eT (sureP N ps)) := by
  obtain ⟨m, rfl, hm⟩ := dd hn
  refine (den_run (d := d_sure_set) rfl rfl).trans ?_
  show runD (den Ws D m) Ws 4 b_sure_set _ = _
  refine wp_run ?_
  unfold b_sure_set
  refine wp_set (d := eT []) (by simp [LIM]) (by simp) ?_
  refine wp_forN (enc := PyData.int) (xs := ivs 0 N) (fun j ρ => ρ.length = 4 ∧ ρ[0]? = some (.fz (.int N)) ∧ ρ[1]? = some (.fz (ePs ps)) ∧ ρ[2]? = some (.fz (eT (sureN N ps j)))) (by simp; rw [rngI (by omega) (by omega) (by omega) (by omega)]) ⟨by simp, by simp, by simp, by simp [sureN]⟩ ?_ ?_
  · rintro j a ρ hj ⟨hl, h0, h1, h2⟩
    have e1 := s_dfd (n := m) (by omega) (N := N) (ps := ps) (xs := sureN N ps j) hN
    refine ⟨ρ.set 3 (.fz (.int a)), by simp [hl], wp_set (d := eT (sureN N ps (j + 1))) ?_ (by simp [hl]) (wp_nil ⟨by simp [hl], ?_, ?_, ?_⟩)⟩
    · simp [-getElem?_pos, List.getElem?_set, hl, h0, h1, h2, e1, sureN]
    all_goals simp [-getElem?_pos, List.getElem?_set, hl, h0, h1]
  · rintro ρ ⟨hl, h0, h1, h2⟩
    have hlen : (ivs 0 (N : Int)).length = N := by rw [ivs_length]; omega
    rw [hlen] at h2
    refine wp_ret (d := eT (sureP N ps)) ?_ rfl
    simp [-getElem?_pos, hl, h2]
theorem s_pleaFor {n : Nat} (hn : 3 ≤ n) {N : Nat} {ps : List Pr} {a : Int} (hN : N ≤ 1000) : ∃ v, den Ws D n 7 [.int N, ePs ps, .int a] = some v ∧
    ((∃ k, k ≤ N ∧ a ∈ dfd N ps (pleaRow N ps k) ∧ (∀ i, i < k → a ∉ dfd N ps (pleaRow N ps i)) ∧ v = eT (pleaRow N ps k ++ [a])) ∨ (v = .none ∧ ∀ k, k ≤ N → a ∉ dfd N ps (pleaRow N ps k))) := by
  obtain ⟨m, rfl, hm⟩ := dd hn
  rw [show den Ws D (m + 1) 7 [.int N, ePs ps, .int a] = runD (den Ws D m) Ws 7 b_plea_for [.int N, ePs ps, .int a] from den_run (d := d_plea_for) rfl rfl]
  refine wp_run' ?_
  unfold b_plea_for
  refine wp_set (d := eT []) (by simp [LIM]) (by simp) ?_
  refine wp_forN (enc := PyData.int) (xs := ivs 0 (N + 1 : Nat)) (fun j ρ => ρ.length = 7 ∧ ρ[0]? = some (.fz (.int N)) ∧ ρ[1]? = some (.fz (ePs ps)) ∧ ρ[2]? = some (.fz (.int a)) ∧ ρ[3]? = some (.fz (eT (pleaRow N ps j))) ∧ ∀ i, i < j → a ∉ dfd N ps (pleaRow N ps i)) ?_ ⟨by simp, by simp, by simp, by simp, by simp [pleaRow], fun i h => absurd h (by omega)⟩ ?_ ?_
  · simp
    rw [rngI (by omega) (by omega) (by omega) (by omega)]
  · rintro j x ρ hj ⟨hl, h0, h1, h2, h3, h4⟩
    obtain ⟨rfl, hjn⟩ := ivs_get hj
    have e1 := s_dfd (n := m) (by omega) (N := N) (ps := ps) (xs := pleaRow N ps j) hN
    have rl := pleaRow_len N ps j
    have dl : (dfd N ps (pleaRow N ps j)).length ≤ N := asc_length (dfd_asc _ _ _) (dfd_in _ _ _)
    refine ⟨ρ.set 4 (.fz (.int j)), by simp [hl], ?_⟩
    refine wp_set (d := eT (dfd N ps (pleaRow N ps j))) ?_ (by simp [hl]) ?_
    · simp [-getElem?_pos, List.getElem?_set, hl, h0, h1, h3, e1]
    refine wp_if (t := decide (a ∈ dfd N ps (pleaRow N ps j))) ?_ ?_ ?_
    · simp [-getElem?_pos, List.getElem?_set, hl, h2, List.any_map, Function.comp_def]
    · intro ht
      refine wp_ret (d := eT (pleaRow N ps j ++ [a])) ?_ ⟨_, rfl, .inl ⟨j, by omega, by simpa using ht, h4, rfl⟩⟩
      simp [-getElem?_pos, List.getElem?_set, hl, h2, h3, LIM]
      rw [gd_pos (by omega)]
      simp
    · intro ht
      have ht : a ∉ dfd N ps (pleaRow N ps j) := by simpa using ht
      have fl := List.length_filter_le (fun x => decide (x ∉ pleaRow N ps j)) (dfd N ps (pleaRow N ps j))
      refine wp_nil (wp_set (d := eT (pleaRow N ps (j + 1))) ?_ (by simp [hl]) (wp_nil ⟨by simp [hl], ?_, ?_, ?_, ?_, fun i hi => ?_⟩))
      · simp [-getElem?_pos, List.getElem?_set, hl, h3]
        rw [gd_pos (lim_ok (by omega)), lc_ints (p := fun x => decide (x ∉ pleaRow N ps j))]
        · simp
          rw [gd_pos (lim_ok (by simp at fl; omega))]
          simp [pleaRow]
        · intro x hx
          simp [-getElem?_pos, List.getElem?_set, hl, h3, List.any_map, Function.comp_def]
      · simp [-getElem?_pos, List.getElem?_set, hl, h0]
      · simp [-getElem?_pos, List.getElem?_set, hl, h1]
      · simp [-getElem?_pos, List.getElem?_set, hl, h2]
      · simp [-getElem?_pos, List.getElem?_set, hl]
      · by_cases e : i = j
        · rw [e]; exact ht
        · exact h4 i (by omega)
  · rintro ρ ⟨hl, h0, h1, h2, h3, h4⟩
    have hlen : (ivs 0 ((N + 1 : Nat) : Int)).length = N + 1 := by rw [ivs_length]; omega
    rw [hlen] at h4
    exact wp_ret (d := .none) (by simp) ⟨_, rfl, .inr ⟨rfl, fun k hk => h4 k (by omega)⟩⟩
theorem s_isPlea {n : Nat} (hn : 3 ≤ n) {N : Nat} {ps : List Pr} {a : Int} {xs : List Int} (hN : N ≤ 1000) (hx : xs.length < 64) : den Ws D n 8 [.int N, ePs ps, .int a, eT xs] = some (.bool (isPlea N ps a xs)) := by
  obtain ⟨m, rfl, hm⟩ := dd hn
  refine (den_run (d := d_is_plea) rfl rfl).trans ?_
  show runD (den Ws D m) Ws 7 b_is_plea _ = _
  refine wp_run ?_
  unfold b_is_plea
  refine wp_if (t := !isPleaA a xs) ?_ ?_ ?_
  · by_cases h0 : xs = []
    · subst h0
      simp [isPleaA]
    · have hl : 0 < xs.length := List.length_pos_iff.mpr h0
      have el := index_last hl
      have es := setd_ints hx
      have sl := setI_length_le xs
      simp [h0, el, es, isPleaA, -List.length_eq_zero_iff]
      by_cases q : nth xs ((xs.length - 1 : Nat) : Int) = a
      · simp [q]
        by_cases r : (setI xs).length = xs.length
        · simp [r, h0, hl]
        · have : (setI xs).length < xs.length := by omega
          simp [r, this, h0, hl]
      · simp [q, h0, hl]
  · intro ht
    refine wp_ret (d := .bool false) (by simp) ?_
    have : isPleaA a xs = false := by simpa using ht
    simp [isPlea, this]
  intro ht
  have hA : isPleaA a xs = true := by simpa using ht
  refine wp_nil (wp_if (t := !(xs.all fun x => decide (0 ≤ x) && decide (x < (N : Int)))) ?_ ?_ ?_)
  · simp only [Ce.tst, ev_e11]
    simp
    rw [gen_ints (p := fun x => decide (0 ≤ x) && decide (x < (N : Int)))]
    · simp
    · intro x hx
      by_cases h : 0 ≤ x <;> simp [h]
  · intro ht
    refine wp_ret (d := .bool false) (by simp) ?_
    have : (xs.all fun x => decide (0 ≤ x) && decide (x < (N : Int))) = false := by simpa using ht
    simp only [isPlea, hA, this, Bool.true_and, Bool.false_and]
  intro ht
  have hB : (xs.all fun x => decide (0 ≤ x) && decide (x < (N : Int))) = true := by simpa using ht
  refine wp_nil ?_
  refine wp_forN (enc := fun i : Int => .tuple [.int i, .int (nth xs i)]) (xs := ivs 0 xs.length) (fun j ρ => ρ.length = 7 ∧ ρ[0]? = some (.fz (.int N)) ∧ ρ[1]? = some (.fz (ePs ps)) ∧ ρ[3]? = some (.fz (eT xs)) ∧ ∀ i, i < j → nth xs (i : Nat) ∈ dfd N ps (xs.take i)) (by simp [enumd_ints]) ⟨by simp, by simp, by simp, by simp, fun i h => absurd h (by omega)⟩ ?_ ?_
  · rintro j x ρ hj ⟨hl, h0, h1, h3, h4⟩
    obtain ⟨rfl, hjn⟩ := ivs_get hj
    have hr : 0 ≤ nth xs j ∧ nth xs j < N := by
      have := List.all_eq_true.mp hB (nth xs j) (nth_mem (by omega) (by omega))
      simpa using this
    have e1 := s_atk (n := m) (by omega) (N := N) (ps := ps) (a := nth xs j) hN
    have ct : cut xs none (some (j : Int)) = xs.take j := cut_take (by omega)
    have eq : ((atk N ps (nth xs j)).all fun b => does ps (xs.take j) b) = decide (nth xs j ∈ dfd N ps (xs.take j)) := by
      rw [Bool.eq_iff_iff, decide_eq_true_eq]
      unfold dfd
      rw [List.mem_filter, mem_ivs]
      exact ⟨fun h => ⟨hr, h⟩, fun h => h.2⟩
    refine ⟨(ρ.set 5 (.fz (.int j))).set 4 (.fz (.int (nth xs j))), by simp [hl], ?_⟩
    refine wp_if (t := !decide (nth xs j ∈ dfd N ps (xs.take j))) ?_ ?_ ?_
    · rw [← eq]
      simp only [Ce.tst, ev_e11]
      simp [-getElem?_pos, List.getElem?_set, hl, h0, h1, e1]
      rw [gen_ints (p := fun b => does ps (xs.take j) b)]
      · simp
      · intro b hb
        have e2 := s_does (n := m) (by omega) (ps := ps) (xs := xs.take j) (a := b)
        simp [-getElem?_pos, List.getElem?_set, hl, h1, h3, cut_map, ct]
        rw [← List.map_take, e2]
        simp
    · intro ht
      refine wp_ret (d := .bool false) (by simp) ?_
      have hf : nth xs j ∉ dfd N ps (xs.take j) := by simpa using ht
      have : ((List.range xs.length).all fun i => decide (nth xs (i : Nat) ∈ dfd N ps (xs.take i))) = false := by
        rw [Bool.eq_false_iff]
        intro z
        have := List.all_eq_true.mp z j (List.mem_range.mpr hjn)
        exact hf (by simpa using this)
      simp only [isPlea, this, Bool.and_false]
    · intro ht
      have hf : nth xs j ∈ dfd N ps (xs.take j) := by simpa using ht
      refine wp_nil (wp_nil ⟨by simp [hl], ?_, ?_, ?_, fun i hi => ?_⟩)
      · simp [-getElem?_pos, List.getElem?_set, hl, h0]
      · simp [-getElem?_pos, List.getElem?_set, hl, h1]
      · simp [-getElem?_pos, List.getElem?_set, hl, h3]
      · by_cases e : i = j
        · rw [e]; exact hf
        · exact h4 i (by omega)
  · rintro ρ ⟨hl, h0, h1, h3, h4⟩
    have hlen : (ivs 0 (xs.length : Int)).length = xs.length := by rw [ivs_length]; omega
    rw [hlen] at h4
    refine wp_ret (d := .bool true) (by simp) ?_
    have : ((List.range xs.length).all fun i => decide (nth xs (i : Nat) ∈ dfd N ps (xs.take i))) = true := by
      rw [List.all_eq_true]
      intro i hi
      exact decide_eq_true (h4 i (List.mem_range.mp hi))
    simp only [isPlea, hA, hB, this, Bool.and_self]
theorem s_isExcuse {n : Nat} (hn : 4 ≤ n) {N : Nat} {ps : List Pr} {a : Int} {xs : List Int} (hN : N ≤ 1000) (hx : xs.length ≤ 1000) : den Ws D n 9 [.int N, ePs ps, .int a, eT xs] = some (.bool (isExcuse N ps a xs)) := by
  obtain ⟨m, rfl, hm⟩ := dd hn
  refine (den_run (d := d_is_excuse) rfl rfl).trans ?_
  have e1 := s_isSetB (n := m) (by omega) (z := N) (xs := xs) (by omega)
  have e2 := s_dfd (n := m) (by omega) (N := N) (ps := ps) (xs := xs) hN
  simp [d_is_excuse, b_is_excuse, e1, List.any_map, Function.comp_def]
  unfold isExcuse
  cases isSetB N xs with
  | false => simp
  | true =>
    by_cases h : a ∈ xs
    · simp [h]
    · simp [h, e2]
theorem s_excuseFor {n : Nat} (hn : 4 ≤ n) {N : Nat} {ps : List Pr} {a : Int} (hN : N ≤ 1000) : den Ws D n 10 [.int N, ePs ps, .int a] = some (if a ∈ sureP N ps then .none else eT (sureP N ps)) := by
  obtain ⟨m, rfl, hm⟩ := dd hn
  refine (den_run (d := d_excuse_for) rfl rfl).trans ?_
  have e := s_sure (n := m) (by omega) (N := N) (ps := ps) hN
  by_cases h : a ∈ sureP N ps
  · simp [d_excuse_for, b_excuse_for, e, List.any_map, Function.comp_def, h]
  · simp [d_excuse_for, b_excuse_for, e, List.any_map, Function.comp_def, h]
theorem s_cell {n : Nat} (hn : 1 ≤ n) {ns : List Int} {k : Int} (hl : ns.length ≤ 100) (h0 : 0 ≤ k) (h1 : k ≤ 100) : ∃ z : Int, den Ws D n 11 [eL ns, .int k] = some (.int z) := by
  obtain ⟨m, rfl, hm⟩ := dd hn
  obtain ⟨z, hz⟩ := cell_run (Φ := den Ws D m) (W := Ws) hl h0 h1
  exact ⟨z, (den_run (d := d__law_cell) rfl rfl).trans hz⟩
theorem s_draws {n : Nat} (hn : 1 ≤ n) {z c : Int} (h0 : 0 ≤ c) (h1 : c ≤ 1000) : ∃ ds : List Int, den Ws D n 12 [.int z, .int c] = some (eL ds) ∧ (ds.length : Int) = c ∧ Drawn ds := by
  obtain ⟨m, rfl, hm⟩ := dd hn
  obtain ⟨ds, e, h⟩ := draws_run (Φ := den Ws D m) (W := Ws) (z := z) h0 h1
  exact ⟨ds, (den_run (d := d__law_draws) rfl rfl).trans e, h⟩
theorem s_isInt {n : Nat} (hn : 1 ≤ n) {x : Int} : den Ws D n 13 [.int x] = some (.bool true) := by
  obtain ⟨m, rfl, hm⟩ := dd hn
  refine (den_run (d := d__law_is_integer) rfl rfl).trans ?_
  simp [d__law_is_integer, b__law_is_integer]
theorem s_is : IsAt D Ws 14 := isAt_of (j := 13) (k := 14) rfl rfl rfl rfl rfl rfl rfl rfl
theorem s_rising {n : Nat} (hn : 1 ≤ n) {xs : List Int} (hx : xs.length ≤ 100000) : den Ws D n 15 [eT xs] = some (.bool (rising xs)) := by
  obtain ⟨m, rfl, hm⟩ := dd hn
  exact (den_run rfl rfl).trans (rising_run hx)
theorem s_isInts {n : Nat} (hn : 2 ≤ n) {xs : List Int} (hx : xs.length ≤ 100000) : den Ws D n 16 [eT xs] = some (.bool true) := by
  obtain ⟨m, rfl, hm⟩ := dd hn
  refine (den_run (d := d__law_is_integers) rfl rfl).trans ?_
  simp [d__law_is_integers, b__law_is_integers]
  rw [gd_pos (lim_ok (by omega)), lc_bools (p := fun _ => true)]
  · simp [Function.comp_def]
  · intro x _
    simp [s_isInt hm]
theorem s_sets {n : Nat} (hn : 1 ≤ n) {k : Nat} (hk : k ≤ 12) : den Ws D n 17 [.int k] = some (.list ((sets k).map eT)) := by
  obtain ⟨m, rfl, hm⟩ := dd hn
  exact (den_run rfl rfl).trans (lawSets_run hk)
theorem s_in {n : Nat} (hn : 1 ≤ n) {xs ys : List Int} (hx : xs.length ≤ 100000) : den Ws D n 18 [eT xs, eT ys] = some (.bool (within xs ys)) := by
  obtain ⟨m, rfl, hm⟩ := dd hn
  exact (den_run rfl rfl).trans (lawIn_run hx)
theorem s_bent {n : Nat} (hn : 1 ≤ n) {xs : List Int} {a b c most : Int} (hx : xs.length ≤ 1000) (hc : 0 ≤ c ∧ c < 5040) (hm : 0 ≤ most) : ∃ ys : List Int, den Ws D n 19 [eT xs, eL [a, b, c], .int most] = some (eT ys) ∧ ys.length ≤ xs.length + 1 := by
  obtain ⟨m, rfl, hm'⟩ := dd hn
  obtain ⟨ys, e, h⟩ := bent_run (Φ := den Ws D m) (W := Ws) (a := a) (b := b) hx hc hm
  exact ⟨ys, (den_run (d := d__law_bent) rfl rfl).trans e, h⟩
theorem s_attacks {n : Nat} (hn : 1 ≤ n) {N : Nat} {ds : List Int} {often : Int} (hN : N ≤ 6) (hd : N * N ≤ ds.length) (ho : 0 < often) : ∃ ps : List Pr, den Ws D n 20 [.int N, eL ds, .int often] = some (ePs ps) ∧ ps.length ≤ N * N ∧ InP N ps := by
  obtain ⟨m, rfl, hm⟩ := dd hn
  have key : ∃ d, runD (den Ws D m) Ws 6 b__law_attacks [.int N, eL ds, .int often] = some d ∧ ∃ ps : List Pr, d = ePs ps ∧ ps.length ≤ N * N ∧ InP N ps := by
    refine wp_run' ?_
    unfold b__law_attacks
    refine wp_set (d := .list []) (by simp [LIM]) (by simp) ?_
    refine wp_forN (enc := PyData.int) (xs := ivs 0 N) (fun j ρ => ρ.length = 6 ∧ ρ[0]? = some (.fz (.int N)) ∧ ρ[1]? = some (.fz (eL ds)) ∧ ρ[2]? = some (.fz (.int often)) ∧ ∃ ps : List Pr, ρ[3]? = some (.fz (.list (ps.map eP))) ∧ ps.length ≤ j * N ∧ InP N ps) (by simp; rw [rngI (by omega) (by omega) (by omega) (by omega)]) ⟨by simp, by simp, by simp, by simp, [], by simp, by simp, fun p hp => by cases hp⟩ ?_ ?_
    · rintro j a ρ hj ⟨hl, h0, h1, h2, ps, h3, h4, h5⟩
      obtain ⟨rfl, hjn⟩ := ivs_get hj
      have fl := List.length_filter_le (fun b : Int => decide (nth ds (j * N + b) % often = 0)) (ivs 0 N)
      rw [ivs_length] at fl
      have jn : j * N ≤ 36 := Nat.le_trans (Nat.mul_le_mul (by omega : j ≤ 6) hN) (by omega)
      refine ⟨ρ.set 4 (.fz (.int j)), by simp [hl], wp_set (d := .list ((ps ++ ((ivs 0 N).filter fun b => decide (nth ds (j * N + b) % often = 0)).map fun b => ((j : Int), b)).map eP)) ?_ (by simp [hl]) (wp_nil ⟨by simp [hl], ?_, ?_, ?_, ps ++ ((ivs 0 N).filter fun b => decide (nth ds (j * N + b) % often = 0)).map fun b => ((j : Int), b), ?_, ?_, ?_⟩)⟩
      · simp [-getElem?_pos, List.getElem?_set, hl, h0, h3]
        rw [rngI (by omega) (by omega) (by omega) (by omega)]
        simp
        rw [gd_pos (lim_ok (by rw [ivs_length]; omega)), lcF_if (enc := PyData.int) (enc' := eP) (p := fun b => decide (nth ds (j * N + b) % often = 0)) (g := fun b => ((j : Int), b))]
        · simp
          rw [gd_pos (lim_ok (by omega))]
        · intro b hb
          have hb' := mem_ivs.mp hb
          have q1 : (j : Int) * N + b < ds.length := by
            have : (j + 1) * N ≤ N * N := Nat.mul_le_mul (by omega) (Nat.le_refl _)
            have e : ((j + 1) * N : Nat) = j * N + N := Nat.succ_mul j N
            have e2 : ((j * N : Nat) : Int) = (j : Int) * N := by simp
            omega
          have q0 : 0 ≤ (j : Int) * N + b := by
            have : 0 ≤ (j : Int) * N := Int.mul_nonneg (by omega) (by omega)
            omega
          have it := index_T (xs := ds) (i := (j : Int) * N + b) q0 q1
          simp [-getElem?_pos, List.getElem?_set, hl, h0, h1, h2]
          rw [gd_pos (.inl ⟨by omega, by omega⟩)]
          simp [it]
          rw [gd_pos ho]
          simp [LIM]
      · simp [-getElem?_pos, List.getElem?_set, hl, h0]
      · simp [-getElem?_pos, List.getElem?_set, hl, h1]
      · simp [-getElem?_pos, List.getElem?_set, hl, h2]
      · simp [-getElem?_pos, List.getElem?_set, hl]
      · rw [List.length_append, List.length_map, Nat.succ_mul]
        omega
      · intro p hp
        rcases List.mem_append.mp hp with h | h
        · exact h5 p h
        · obtain ⟨b, hb, rfl⟩ := List.mem_map.mp h
          exact ⟨⟨by show (0 : Int) ≤ j; omega, by show (j : Int) < N; omega⟩, mem_ivs.mp (List.mem_filter.mp hb).1⟩
    · rintro ρ ⟨hl, h0, h1, h2, ps, h3, h4, h5⟩
      have hlen : (ivs 0 (N : Int)).length = N := by rw [ivs_length]; omega
      rw [hlen] at h4
      refine wp_ret (d := ePs ps) ?_ ⟨_, rfl, ps, rfl, h4, h5⟩
      simp [-getElem?_pos, hl, h3]
  obtain ⟨d, e, ps, rfl, h1, h2⟩ := key
  exact ⟨ps, (den_run (d := d__law_attacks) rfl rfl).trans e, h1, h2⟩
theorem s_lawDfd {n : Nat} (hn : 1 ≤ n) {N : Nat} {ps : List Pr} {xs : List Int} (hN : N ≤ 1000) (hp : ps.length ≤ 10000) (hx : xs.length ≤ 10000) : den Ws D n 21 [.int N, ePs ps, eT xs] = some (eT (lawDfd N ps xs)) := by
  obtain ⟨m, rfl, hm⟩ := dd hn
  refine (den_run (d := d__law_defended) rfl rfl).trans ?_
  show runD (den Ws D m) Ws 9 b__law_defended _ = _
  refine wp_run ?_
  unfold b__law_defended
  refine wp_own (d := .list []) (by simp [LIM]) rfl (by simp) ?_
  refine wp_forN (enc := PyData.int) (xs := ivs 0 N) (fun j ρ => ρ.length = 9 ∧ ρ[0]? = some (.fz (.int N)) ∧ ρ[1]? = some (.fz (ePs ps)) ∧ ρ[2]? = some (.fz (eT xs)) ∧ ρ[3]? = some (.ow (eL (lawDfdT ((ivs 0 N).take j) ps xs)))) (by simp; rw [rngI (by omega) (by omega) (by omega) (by omega)]) ⟨by simp, by simp, by simp, by simp, by simp [lawDfdT]⟩ ?_ ?_
  · rintro j a ρ hj ⟨hl, h0, h1, h2, h3⟩
    have tk : (ivs 0 (N : Int)).take (j + 1) = (ivs 0 (N : Int)).take j ++ [a] := by rw [List.take_succ, hj]; rfl
    have ln : (lawDfdT ((ivs 0 (N : Int)).take j) ps xs).length ≤ N := by
      have a1 := List.length_filter_le (fun a => decide ((openOf ps xs a).length = 0)) ((ivs 0 (N : Int)).take j)
      have a2 := List.length_take_le' j (ivs 0 (N : Int))
      rw [ivs_length] at a2
      unfold lawDfdT
      omega
    refine ⟨ρ.set 4 (.fz (.int a)), by simp [hl], ?_⟩
    refine wp_own (d := .list []) (by simp [LIM]) rfl (by simp [hl]) ?_
    have bl := List.length_filter_le (fun p : Pr => decide (p.2 = a)) ps
    refine wp_forN (enc := PyData.int) (xs := (ps.filter fun p => decide (p.2 = a)).map (·.1)) (fun i ρ => ρ.length = 9 ∧ ρ[0]? = some (.fz (.int N)) ∧ ρ[1]? = some (.fz (ePs ps)) ∧ ρ[2]? = some (.fz (eT xs)) ∧ ρ[3]? = some (.ow (eL (lawDfdT ((ivs 0 N).take j) ps xs))) ∧ ρ[4]? = some (.fz (.int a)) ∧ ρ[5]? = some (.ow (eL ((((ps.filter fun p => decide (p.2 = a)).map (·.1)).take i).filter fun b => decide ((xs.filter fun x => decide ((x, b) ∈ ps)).length = 0))))) ?_ ?_ ?_ ?_
    · simp [-getElem?_pos, List.getElem?_set, hl, h1]
      rw [gd_pos (lim_ok (by omega)), lcF_if (enc := eP) (enc' := PyData.int) (p := fun p => decide (p.2 = a)) (g := fun p => p.1)]
      · simp
      · intro p hp
        simp [-getElem?_pos, List.getElem?_set, hl]
    · refine ⟨by simp [hl], ?_, ?_, ?_, ?_, ?_, ?_⟩ <;> simp [-getElem?_pos, List.getElem?_set, hl, h0, h1, h2, h3]
    · clear hl h0 h1 h2 h3 ρ
      rintro i b ρ hi ⟨hl, h0, h1, h2, h3, h4, h5⟩
      have tk2 : ((ps.filter fun p => decide (p.2 = a)).map (·.1)).take (i + 1) = ((ps.filter fun p => decide (p.2 = a)).map (·.1)).take i ++ [b] := by rw [List.take_succ, hi]; rfl
      have ln2 : ((((ps.filter fun p => decide (p.2 = a)).map (·.1)).take i).filter fun b => decide ((xs.filter fun x => decide ((x, b) ∈ ps)).length = 0)).length ≤ ps.length := by
        have a1 := List.length_filter_le (fun b => decide ((xs.filter fun x => decide ((x, b) ∈ ps)).length = 0)) (((ps.filter fun p => decide (p.2 = a)).map (·.1)).take i)
        have a2 := List.length_take_le' i ((ps.filter fun p => decide (p.2 = a)).map (·.1))
        rw [List.length_map] at a2
        omega
      refine ⟨ρ.set 7 (.fz (.int b)), by simp [hl], ?_⟩
      refine wp_if (t := decide ((xs.filter fun x => decide ((x, b) ∈ ps)).length = 0)) ?_ ?_ ?_
      · simp only [Ce.tst, ev_e11, ev_e21, ev_e26]
        simp [-getElem?_pos, List.getElem?_set, hl, h1, h2, -List.length_eq_zero_iff]
        rw [gd_pos (lim_ok (by omega)), lc_ints (p := fun x => decide ((x, b) ∈ ps))]
        · simp [-List.length_eq_zero_iff]
        · intro x hx
          simp [-getElem?_pos, List.getElem?_set, hl, h1, LIM, List.any_map, Function.comp_def]
      · intro ht
        refine wp_app (d := .int b) ?_ (by simp [-getElem?_pos, List.getElem?_set, hl, h5]; rfl) (by simp at ln2 ⊢; omega) (wp_nil (wp_nil ⟨by simp [hl], ?_, ?_, ?_, ?_, ?_, ?_⟩))
        · simp [-getElem?_pos, List.getElem?_set, hl]
        all_goals try simp only [tk2, List.filter_append, List.filter_cons, ht, if_true, List.filter_nil, List.map_append]
        all_goals simp [-getElem?_pos, List.getElem?_set, hl, h0, h1, h2, h3, h4]
      · intro ht
        refine wp_nil (wp_nil ⟨by simp [hl], ?_, ?_, ?_, ?_, ?_, ?_⟩)
        all_goals try simp only [tk2, List.filter_append, List.filter_cons, ht, List.filter_nil, List.map_append]
        all_goals simp [-getElem?_pos, List.getElem?_set, hl, h0, h1, h2, h3, h4, h5]
    · clear hl h0 h1 h2 h3 ρ
      rintro ρ ⟨hl, h0, h1, h2, h3, h4, h5⟩
      rw [List.take_length] at h5
      replace h5 : ρ[5]? = some (.ow (eL (openOf ps xs a))) := h5
      refine wp_if (t := decide ((openOf ps xs a).length = 0)) ?_ ?_ ?_
      · simp [-getElem?_pos, hl, h5, -List.length_eq_zero_iff]
      · intro ht
        refine wp_app (d := .int a) ?_ (by simp [-getElem?_pos, hl, h3]; rfl) (by simp at ln ⊢; omega) (wp_nil (wp_nil ⟨by simp [hl], ?_, ?_, ?_, ?_⟩))
        · simp [-getElem?_pos, hl, h4]
        all_goals try simp only [tk, lawDfdT, List.filter_append, List.filter_cons, ht, if_true, List.filter_nil, List.map_append]
        all_goals simp [-getElem?_pos, List.getElem?_set, hl, h0, h1, h2]
      · intro ht
        refine wp_nil (wp_nil ⟨by simp [hl], ?_, ?_, ?_, ?_⟩)
        all_goals try simp only [tk, lawDfdT, List.filter_append, List.filter_cons, ht, List.filter_nil, List.map_append]
        all_goals simp [-getElem?_pos, List.getElem?_set, hl, h0, h1, h2, h3, lawDfdT]
  · rintro ρ ⟨hl, h0, h1, h2, h3⟩
    rw [List.take_length] at h3
    refine wp_ret (d := eT (lawDfd N ps xs)) ?_ rfl
    simp [-getElem?_pos, hl, h3]
    rfl
theorem s_lawSure {n : Nat} (hn : 3 ≤ n) {N : Nat} {ps : List Pr} (hN : N ≤ 1000) (hp : ps.length ≤ 10000) (hi : InP N ps) : den Ws D n 22 [.int N, ePs ps] = some (eT (sureP N ps)) := by
  obtain ⟨m, rfl, hm⟩ := dd hn
  refine (den_run (d := d__law_sure) rfl rfl).trans ?_
  show runD (den Ws D m) Ws 4 b__law_sure _ = _
  refine wp_run ?_
  unfold b__law_sure
  refine wp_set (d := eT []) (by simp [LIM]) (by simp) ?_
  refine wp_forN (enc := PyData.int) (xs := ivs 0 (N + 1 : Nat)) (fun j ρ => ρ.length = 4 ∧ ρ[0]? = some (.fz (.int N)) ∧ ρ[1]? = some (.fz (ePs ps)) ∧ ρ[2]? = some (.fz (eT (sureN N ps j)))) (by simp; rw [rngI (by omega) (by omega) (by omega) (by omega)]) ⟨by simp, by simp, by simp, by simp [sureN]⟩ ?_ ?_
  · rintro j a ρ hj ⟨hl, h0, h1, h2⟩
    have sl := sureN_len N ps j
    have e1 := s_lawDfd (n := m) (by omega) (N := N) (ps := ps) (xs := sureN N ps j) hN hp (by omega)
    rw [lawDfd_eq hi] at e1
    refine ⟨ρ.set 3 (.fz (.int a)), by simp [hl], wp_set (d := eT (sureN N ps (j + 1))) ?_ (by simp [hl]) (wp_nil ⟨by simp [hl], ?_, ?_, ?_⟩)⟩
    · simp [-getElem?_pos, List.getElem?_set, hl, h0, h1, h2, e1, sureN]
    all_goals simp [-getElem?_pos, List.getElem?_set, hl, h0, h1]
  · rintro ρ ⟨hl, h0, h1, h2⟩
    have hlen : (ivs 0 ((N + 1 : Nat) : Int)).length = N + 1 := by rw [ivs_length]; omega
    rw [hlen, sureN_rest] at h2
    refine wp_ret (d := eT (sureP N ps)) ?_ rfl
    simp [-getElem?_pos, hl, h2]
theorem s_dispute {n : Nat} (hn : 2 ≤ n) {N : Nat} {ds : List Int} (hN : N ≤ 6) (hd : 38 ≤ ds.length) : ∃ ps : List Pr, den Ws D n 23 [eL ds, .int N] = some (ePs ps) ∧ ps.length ≤ 36 ∧ InP N ps := by
  obtain ⟨m, rfl, hm⟩ := dd hn
  have key : ∃ d, runD (den Ws D m) Ws 5 b__law_dispute [eL ds, .int N] = some d ∧ ∃ ps : List Pr, d = ePs ps ∧ ps.length ≤ 36 ∧ InP N ps := by
    refine wp_run' ?_
    unfold b__law_dispute
    have i36 := index_T (xs := ds) (i := 36) (by omega) (by omega)
    have i37 := index_T (xs := ds) (i := 37) (by omega) (by omega)
    have m5 : 0 ≤ nth ds 36 % 5 ∧ nth ds 36 % 5 < 5 := by omega
    have ho := in5 (a := 2) (b := 3) (c := 4) (d := 5) (e := 7) (P := fun z => 0 < z) (by omega) m5.1 m5.2
    have eo := pick5 2 3 4 5 7 m5.1 m5.2
    generalize nth [2, 3, 4, 5, 7] (nth ds 36 % 5) = often at ho eo
    have hnn : N * N ≤ 36 := Nat.le_trans (Nat.mul_le_mul hN hN) (by omega)
    have c36 : cut ds none (some 36) = ds.take 36 := cut_take (i := 36) (by omega)
    obtain ⟨ps0, e0, l0, p0⟩ := s_attacks (n := m) (by omega) (N := N) (ds := ds.take 36) (often := often) hN (by rw [List.length_take]; omega) ho
    refine wp_set (d := ePs ps0) ?_ (by simp) ?_
    · simp [i36, eo, LIM, cut_map, c36]
      rw [← List.map_take]
      exact e0
    refine wp_set (d := .int (nth ds 37 % 4)) (by simp [i37]) (by simp) ?_
    have sub : ∀ (q : Pr → Bool) (ps : List Pr), ps.length ≤ 36 ∧ InP N ps → (ps.filter q).length ≤ 36 ∧ InP N (ps.filter q) := fun q ps h => ⟨Nat.le_trans (List.length_filter_le _ _) h.1, fun p hp => h.2 p (List.mem_filter.mp hp).1⟩
    generalize hw : nth ds 37 % 4 = way
    have start : ∃ ps : List Pr, startR 5 [eL ds, .int N] = startR 5 [eL ds, .int N] ∧ True := ⟨[], rfl, trivial⟩
    clear start
    refine wp_mid (fun ρ => ρ.length = 5 ∧ ρ[3]? = some (.fz (.int way)) ∧ ∃ ps : List Pr, ρ[2]? = some (.fz (ePs ps)) ∧ ps.length ≤ 36 ∧ InP N ps) ?_ ?_
    · refine wp_if (t := decide (way = 0)) (by simp) ?_ ?_
      · intro _
        refine wp_set (d := ePs (ps0.filter fun p => decide (p.1 < p.2))) ?_ (by simp) (wp_nil (wp_nil ⟨_, rfl, by simp, by simp, _, by simp; rfl, sub _ _ ⟨by omega, p0⟩⟩))
        simp
        rw [gd_pos (lim_ok (by omega)), lcF_if (enc := eP) (enc' := eP) (p := fun p => decide (p.1 < p.2)) (g := fun p => p)]
        · simp
        · intro p hp
          simp
      · intro _
        exact wp_nil (wp_nil ⟨_, rfl, by simp, by simp, ps0, by simp, by omega, p0⟩)
    rintro ρ ⟨hl, h3, ps1, h2, l1, p1⟩
    refine wp_mid (fun ρ => ρ.length = 5 ∧ ρ[3]? = some (.fz (.int way)) ∧ ∃ ps : List Pr, ρ[2]? = some (.fz (ePs ps)) ∧ ps.length ≤ 36 ∧ InP N ps) ?_ ?_
    · refine wp_if (t := decide (way = 1)) (by simp [-getElem?_pos, h3]) ?_ ?_
      · intro _
        refine wp_set (d := ePs (ps1.filter fun p => decide ((p.1 + p.2) % 2 = 1))) ?_ (by simp [hl]) (wp_nil (wp_nil ⟨_, rfl, by simp [hl], by simp [-getElem?_pos, List.getElem?_set, hl, h3], _, by simp [-getElem?_pos, List.getElem?_set, hl]; rfl, sub _ _ ⟨l1, p1⟩⟩))
        simp [-getElem?_pos, h2]
        rw [gd_pos (lim_ok (by omega)), lcF_if (enc := eP) (enc' := eP) (p := fun p => decide ((p.1 + p.2) % 2 = 1)) (g := fun p => p)]
        · simp
        · intro p hp
          simp [-getElem?_pos, List.getElem?_set, hl]
      · intro _
        exact wp_nil (wp_nil ⟨_, rfl, hl, h3, ps1, h2, l1, p1⟩)
    clear hl h3 h2 ρ
    rintro ρ ⟨hl, h3, ps2, h2, l2, p2⟩
    refine wp_mid (fun ρ => ρ.length = 5 ∧ ∃ ps : List Pr, ρ[2]? = some (.fz (ePs ps)) ∧ ps.length ≤ 36 ∧ InP N ps) ?_ ?_
    · refine wp_if (t := decide (way = 2)) (by simp [-getElem?_pos, h3]) ?_ ?_
      · intro _
        refine wp_set (d := ePs (ps2.filter fun p => !decide (p.1 = p.2))) ?_ (by simp [hl]) (wp_nil (wp_nil ⟨_, rfl, by simp [hl], _, by simp [-getElem?_pos, List.getElem?_set, hl]; rfl, sub _ _ ⟨l2, p2⟩⟩))
        simp [-getElem?_pos, h2]
        rw [gd_pos (lim_ok (by omega)), lcF_if (enc := eP) (enc' := eP) (p := fun p => !decide (p.1 = p.2)) (g := fun p => p)]
        · simp
        · intro p hp
          simp [-getElem?_pos, List.getElem?_set, hl]
      · intro _
        exact wp_nil (wp_nil ⟨_, rfl, hl, ps2, h2, l2, p2⟩)
    clear hl h3 h2 ρ
    rintro ρ ⟨hl, ps3, h2, l3, p3⟩
    exact wp_ret (d := ePs ps3) (by simp [-getElem?_pos, h2]) ⟨_, rfl, ps3, rfl, l3, p3⟩
  obtain ⟨d, e, ps, rfl, h1, h2⟩ := key
  exact ⟨ps, (den_run (d := d__law_dispute) rfl rfl).trans e, h1, h2⟩
theorem s_lawPlea {n : Nat} (hn : 3 ≤ n) {N : Nat} {ps : List Pr} {a : Int} {xs : List Int} (hN : N ≤ 1000) (hx : xs.length < 64) (hp : ps.length ≤ 10000) (hi : InP N ps) : den Ws D n 24 [.int N, ePs ps, .int a, eT xs] = some (.bool (isPlea N ps a xs)) := by
  obtain ⟨m, rfl, hm⟩ := dd hn
  refine (den_run (d := d__law_plea) rfl rfl).trans ?_
  show runD (den Ws D m) Ws 6 b__law_plea _ = _
  refine wp_run ?_
  unfold b__law_plea
  refine wp_if (t := !isPleaA a xs) ?_ ?_ ?_
  · by_cases h0 : xs = []
    · subst h0
      simp [isPleaA]
    · have hl : 0 < xs.length := List.length_pos_iff.mpr h0
      have e1 : ((xs.length : Int) - 1) = ((xs.length - 1 : Nat) : Int) := by omega
      have el := index_T (xs := xs) (i := ((xs.length - 1 : Nat) : Int)) (by omega) (by omega)
      have es := setd_ints hx
      simp [h0, e1, el, es, isPleaA, -List.length_eq_zero_iff]
      by_cases q : nth xs ((xs.length - 1 : Nat) : Int) = a
      · simp [q]
        by_cases r : (setI xs).length = xs.length
        · simp [r, h0, hl]
        · simp [r, h0, hl]
          omega
      · simp [q, h0, hl]
  · intro ht
    refine wp_ret (d := .bool false) (by simp) ?_
    have : isPleaA a xs = false := by simpa using ht
    simp [isPlea, this]
  intro ht
  have hA : isPleaA a xs = true := by simpa using ht
  refine wp_nil ?_
  refine wp_forN (enc := fun i : Int => .tuple [.int i, .int (nth xs i)]) (xs := ivs 0 xs.length) (fun j ρ => ρ.length = 6 ∧ ρ[0]? = some (.fz (.int N)) ∧ ρ[1]? = some (.fz (ePs ps)) ∧ ρ[3]? = some (.fz (eT xs)) ∧ ∀ i, i < j → nth xs (i : Nat) ∈ dfd N ps (xs.take i)) (by simp [enumd_ints]) ⟨by simp, by simp, by simp, by simp, fun i h => absurd h (by omega)⟩ ?_ ?_
  · rintro j x ρ hj ⟨hl, h0, h1, h3, h4⟩
    obtain ⟨rfl, hjn⟩ := ivs_get hj
    have ct : cut xs none (some (j : Int)) = xs.take j := cut_take (by omega)
    have e1 := s_lawDfd (n := m) (by omega) (N := N) (ps := ps) (xs := xs.take j) hN hp (by rw [List.length_take]; omega)
    rw [lawDfd_eq hi] at e1
    refine ⟨(ρ.set 4 (.fz (.int j))).set 5 (.fz (.int (nth xs j))), by simp [hl], ?_⟩
    refine wp_if (t := !decide (nth xs j ∈ dfd N ps (xs.take j))) ?_ ?_ ?_
    · by_cases r0 : 0 ≤ nth xs j
      · by_cases r1 : nth xs j < N
        · simp [-getElem?_pos, List.getElem?_set, hl, h0, h1, h3, r0, r1, cut_map, ct]
          rw [← List.map_take, e1]
          simp [List.any_map, Function.comp_def]
        · have : nth xs j ∉ dfd N ps (xs.take j) := fun z => r1 (dfd_in _ _ _ _ z).2
          simp [-getElem?_pos, List.getElem?_set, hl, h0, r0, r1, this]
      · have : nth xs j ∉ dfd N ps (xs.take j) := fun z => r0 (dfd_in _ _ _ _ z).1
        simp [-getElem?_pos, List.getElem?_set, hl, h0, r0, this]
    · intro ht
      refine wp_ret (d := .bool false) (by simp) ?_
      have hf : nth xs j ∉ dfd N ps (xs.take j) := by simpa using ht
      have : ((List.range xs.length).all fun i => decide (nth xs (i : Nat) ∈ dfd N ps (xs.take i))) = false := by
        rw [Bool.eq_false_iff]
        intro z
        have := List.all_eq_true.mp z j (List.mem_range.mpr hjn)
        exact hf (by simpa using this)
      simp only [isPlea, this, Bool.and_false]
    · intro ht
      have hf : nth xs j ∈ dfd N ps (xs.take j) := by simpa using ht
      refine wp_nil (wp_nil ⟨by simp [hl], ?_, ?_, ?_, fun i hi => ?_⟩)
      · simp [-getElem?_pos, List.getElem?_set, hl, h0]
      · simp [-getElem?_pos, List.getElem?_set, hl, h1]
      · simp [-getElem?_pos, List.getElem?_set, hl, h3]
      · by_cases e : i = j
        · rw [e]; exact hf
        · exact h4 i (by omega)
  · rintro ρ ⟨hl, h0, h1, h3, h4⟩
    have hlen : (ivs 0 (xs.length : Int)).length = xs.length := by rw [ivs_length]; omega
    rw [hlen] at h4
    refine wp_ret (d := .bool true) (by simp) ?_
    have hC : ((List.range xs.length).all fun i => decide (nth xs (i : Nat) ∈ dfd N ps (xs.take i))) = true := by
      rw [List.all_eq_true]
      intro i hi
      exact decide_eq_true (h4 i (List.mem_range.mp hi))
    have hB : (xs.all fun x => decide (0 ≤ x) && decide (x < (N : Int))) = true := by
      rw [List.all_eq_true]
      intro x hx
      obtain ⟨i, hi, rfl⟩ := List.getElem_of_mem hx
      have := dfd_in _ _ _ _ (h4 i hi)
      rw [nth_get hi] at this
      simp [this]
    simp only [isPlea, hA, hB, hC, Bool.and_self]
theorem s_lawExcuse {n : Nat} (hn : 3 ≤ n) {N : Nat} {ps : List Pr} {a : Int} {xs : List Int} (hN : N ≤ 1000) (hx : xs.length ≤ 1000) (hp : ps.length ≤ 10000) (hi : InP N ps) : den Ws D n 25 [.int N, ePs ps, .int a, eT xs] = some (.bool (isExcuse N ps a xs)) := by
  obtain ⟨m, rfl, hm⟩ := dd hn
  refine (den_run (d := d__law_excuse) rfl rfl).trans ?_
  have e1 := s_rising (n := m) (by omega) (xs := xs) (by omega)
  have e2 := s_lawDfd (n := m) (by omega) (N := N) (ps := ps) (xs := xs) hN hp (by omega)
  rw [lawDfd_eq hi] at e2
  have fl := List.length_filter_le (fun x => !(decide (0 ≤ x) && decide (x < (N : Int)))) xs
  simp [d__law_excuse, b__law_excuse, e1]
  unfold isExcuse isSetB isSet
  cases rising xs with
  | false => simp
  | true =>
    simp
    rw [gd_pos (lim_ok (by omega)), lc_ints (p := fun x => !(decide (0 ≤ x) && decide (x < (N : Int))))]
    · by_cases q : ∀ x ∈ xs, 0 ≤ x ∧ x < N
      · have e0 : xs.filter (fun x => !(decide (0 ≤ x) && decide (x < (N : Int)))) = [] := by
          rw [List.filter_eq_nil_iff]
          intro x hx
          simp [q x hx]
        have qa : (xs.all fun x => decide (0 ≤ x)) = true := by simp; exact fun x hx => (q x hx).1
        have qb : (xs.all fun x => decide (x < (N : Int))) = true := by simp; exact fun x hx => (q x hx).2
        rw [e0, qa, qb]
        by_cases h : a ∈ xs
        · simp [h, List.any_map, Function.comp_def]
        · simp [h, e2, List.any_map, Function.comp_def]
      · have ex : ∃ x, x ∈ xs ∧ (x < 0 ∨ (N : Int) ≤ x) := Classical.byContradiction fun z => q fun x hx => ⟨Int.not_lt.mp fun h => z ⟨x, hx, .inl h⟩, Int.not_le.mp fun h => z ⟨x, hx, .inr h⟩⟩
        have qa : ((xs.all fun x => decide (0 ≤ x)) && xs.all fun x => decide (x < (N : Int))) = false := by
          rw [Bool.eq_false_iff]
          intro z
          simp only [Bool.and_eq_true, List.all_eq_true, decide_eq_true_eq] at z
          exact q fun x hx => ⟨z.1 x hx, z.2 x hx⟩
        rw [qa]
        simp [ex]
    · intro x hx
      by_cases h : 0 ≤ x <;> simp [h]
/-! ### pleas are pleas -/
theorem pleaRow_ok (n : Int) (ps : List Pr) : ∀ k i, i < (pleaRow n ps k).length → nth (pleaRow n ps k) (i : Nat) ∈ dfd n ps ((pleaRow n ps k).take i)
  | 0, i, h => absurd h (by simp [pleaRow])
  | k + 1, i, h => by
    show nth (pleaRow n ps k ++ (dfd n ps (pleaRow n ps k)).filter (fun x => decide (x ∉ pleaRow n ps k))) i ∈ dfd n ps ((pleaRow n ps k ++ (dfd n ps (pleaRow n ps k)).filter (fun x => decide (x ∉ pleaRow n ps k))).take i)
    have h : i < (pleaRow n ps k ++ (dfd n ps (pleaRow n ps k)).filter (fun x => decide (x ∉ pleaRow n ps k))).length := h
    rw [nth_get h]
    by_cases q : i < (pleaRow n ps k).length
    · have := pleaRow_ok n ps k i q
      rw [nth_get q] at this
      rw [List.getElem_append_left q, List.take_append_of_le_length (by omega)]
      exact this
    · have hm : (pleaRow n ps k ++ (dfd n ps (pleaRow n ps k)).filter (fun x => decide (x ∉ pleaRow n ps k)))[i] ∈ dfd n ps (pleaRow n ps k) := by
        rw [List.getElem_append_right (by omega)]
        exact (List.mem_filter.mp (List.getElem_mem _)).1
      refine dfd_mono (fun x hx => ?_) _ hm
      rw [List.take_append]
      exact List.mem_append.mpr (.inl (by rw [List.take_of_length_le (by omega)]; exact hx))
theorem plea_ok {n : Nat} {ps : List Pr} {a : Int} {k : Nat} (h : a ∈ dfd n ps (pleaRow n ps k)) (hno : ∀ i, i < k → a ∉ dfd n ps (pleaRow n ps i)) : isPlea n ps a (pleaRow n ps k ++ [a]) = true := by
  have ha : a ∉ pleaRow n ps k := by
    intro z
    rw [pleaRow_mem] at z
    cases k with
    | zero => cases z
    | succ k =>
      refine hno k (by omega) ?_
      rw [pleaRow_dfd]
      exact z
  have nd : (pleaRow n ps k ++ [a]).Nodup := by
    rw [List.nodup_append]
    refine ⟨pleaRow_nodup n ps k, by simp, ?_⟩
    rintro x hx y hy rfl
    rw [List.mem_singleton] at hy
    exact ha (hy ▸ hx)
  have hl : (pleaRow n ps k ++ [a]).length - 1 < (pleaRow n ps k ++ [a]).length := by simp
  have hC : ∀ i, i < (pleaRow n ps k ++ [a]).length → nth (pleaRow n ps k ++ [a]) (i : Nat) ∈ dfd n ps ((pleaRow n ps k ++ [a]).take i) := by
    intro i hi
    rw [nth_get hi]
    by_cases q : i < (pleaRow n ps k).length
    · have := pleaRow_ok n ps k i q
      rw [nth_get q] at this
      rw [List.getElem_append_left q, List.take_append_of_le_length (by omega)]
      exact this
    · have e : i = (pleaRow n ps k).length := by simp at hi; omega
      subst e
      simp
      exact h
  unfold isPlea isPleaA
  rw [Bool.and_eq_true, Bool.and_eq_true, Bool.and_eq_true, Bool.and_eq_true, decide_eq_true_eq, decide_eq_true_eq, decide_eq_true_eq, List.all_eq_true, List.all_eq_true]
  refine ⟨⟨⟨⟨by simp, ?_⟩, setI_nodup nd⟩, fun x hx => ?_⟩, fun i hi => decide_eq_true (hC i (List.mem_range.mp hi))⟩
  · rw [nth_get hl]
    simp
  · obtain ⟨i, hi, rfl⟩ := List.getElem_of_mem hx
    have := dfd_in _ _ _ _ (hC i hi)
    rw [nth_get hi] at this
    simp [this]
theorem sure_excuse {n : Nat} {ps : List Pr} {a : Int} (h : a ∉ sureP n ps) : isExcuse n ps a (sureP n ps) = true := by
  unfold isExcuse
  have hs := sureN_asc n ps n
  simp [isSetB_of hs.1 hs.2, h, sure_fix]
theorem plea_sure {n : Nat} {ps : List Pr} {a : Int} (hn : 0 < n) : a ∈ sureP n ps ↔ ∃ k, k ≤ n ∧ a ∈ dfd n ps (pleaRow n ps k) := by
  constructor
  · intro h
    refine ⟨n, Nat.le_refl _, ?_⟩
    rw [pleaRow_dfd, sureN_rest]
    exact h
  · rintro ⟨k, hk, h⟩
    rw [pleaRow_dfd] at h
    exact sureN_sub n ps _ a h
def fixedL (n : Nat) (ps : List Pr) : List (List Int) := (sets n).filter fun xs => decide (dfd n ps xs = xs)
theorem fixed_mem {n : Nat} {ps : List Pr} {xs : List Int} : xs ∈ fixedL n ps ↔ (Asc xs ∧ In n xs) ∧ dfd n ps xs = xs := by
  unfold fixedL
  rw [List.mem_filter, decide_eq_true_eq, sets_mem]
  exact Iff.rfl
theorem fixed_pos (n : Nat) (ps : List Pr) : 0 < (fixedL n ps).length := List.length_pos_of_mem (fixed_mem.mpr ⟨sureN_asc n ps n, sure_fix n ps⟩)
/-! ### the law -/
theorem pick8 (a b c d e f g h : Int) {i : Int} (h0 : 0 ≤ i) (h1 : i < 8) : L2.atI [PyData.int a, .int b, .int c, .int d, .int e, .int f, .int g, .int h] i = some (.int (nth [a, b, c, d, e, f, g, h] i)) := index_T (xs := [a, b, c, d, e, f, g, h]) h0 (by simpa using h1)
theorem in8 {a b c d e f g h : Int} {i : Int} {P : Int → Prop} (hp : P a ∧ P b ∧ P c ∧ P d ∧ P e ∧ P f ∧ P g ∧ P h) (h0 : 0 ≤ i) (h1 : i < 8) : P (nth [a, b, c, d, e, f, g, h] i) := by
  obtain ⟨ha, hb, hc, hd, he, hf, hg, hh⟩ := hp
  have : i = 0 ∨ i = 1 ∨ i = 2 ∨ i = 3 ∨ i = 4 ∨ i = 5 ∨ i = 6 ∨ i = 7 := by omega
  rcases this with rfl | rfl | rfl | rfl | rfl | rfl | rfl | rfl <;> assumption
def I0 (ns : List Int) (ρ : Rho) : Prop := ρ.length = 14 ∧ ρ[0]? = some (.fz (eL ns))
def I1 (ns ds : List Int) (N : Nat) (ps : List Pr) (ρ : Rho) : Prop := ρ.length = 14 ∧ ρ[0]? = some (.fz (eL ns)) ∧ ρ[2]? = some (.fz (eL ds)) ∧ ρ[3]? = some (.fz (.int N)) ∧ ρ[4]? = some (.fz (ePs ps)) ∧ ρ[5]? = some (.fz (eT (sureP N ps))) ∧ ρ[7]? = some (.fz (.list ((fixedL N ps).map eT)))
def I2 (ns ds : List Int) (N : Nat) (ps : List Pr) (a : Int) (vr vt : PyData) (ρ : Rho) : Prop := I1 ns ds N ps ρ ∧ ρ[8]? = some (.fz (.int a)) ∧ ρ[9]? = some (.fz vr) ∧ ρ[6]? = some (.fz vt)
theorem law_true {ns : List Int} (hn : ns.length ≤ 63) : den Ws D 12 26 [eL ns] = some (.bool true) := by
  refine (den_run (d := d_law) rfl rfl).trans ?_
  show runD (den Ws D 11) Ws 14 b_law [eL ns] = _
  refine wp_run ?_
  unfold b_law
  have tt := s_is 0 (.bool true) rfl 11 (by omega)
  have tf := s_is 0 (.bool false) rfl 11 (by omega)
  have tb : ∀ b : Bool, den Ws D 11 14 [.bool b, .bool b] = some (.bool true) := fun b => match b with | false => tf | true => tt
  refine wp_forI (xs := ivs 0 2) (I0 ns) (by simp; rw [rngI (by omega) (by omega) (by omega) (by omega)]) ⟨by simp, by simp⟩ (fun ρ h => by rw [h.1]; omega) ?_ ?_
  · intro turn htn ρ ⟨hl, h0⟩
    have ht' := mem_ivs.mp htn
    obtain ⟨z, hz⟩ := s_cell (n := 11) (by omega) (ns := ns) (k := turn) (by omega) (by omega) (by omega)
    obtain ⟨ds, hds, hdl, hdr⟩ := s_draws (n := 11) (by omega) (z := z) (c := 80) (by omega) (by omega)
    refine wp_set (d := eL ds) (by simp [-getElem?_pos, List.getElem?_set, hl, h0, hz, hds]) (by simp [hl]) ?_
    have i38 := index_T (xs := ds) (i := 38) (by omega) (by omega)
    have m8 : 0 ≤ nth ds 38 % 8 ∧ nth ds 38 % 8 < 8 := by omega
    have hN := in8 (a := 5) (b := 4) (c := 6) (d := 3) (e := 6) (f := 2) (g := 1) (h := 0) (P := fun z => 0 ≤ z ∧ z ≤ 6) (by omega) m8.1 m8.2
    have eN := pick8 5 4 6 3 6 2 1 0 m8.1 m8.2
    generalize nth [5, 4, 6, 3, 6, 2, 1, 0] (nth ds 38 % 8) = N at hN eN
    obtain ⟨N, rfl⟩ : ∃ i : Nat, N = i := ⟨N.toNat, by omega⟩
    refine wp_set (d := .int N) ?_ (by simp [hl]) ?_
    · simp [-getElem?_pos, List.getElem?_set, hl, i38, eN, LIM]
    obtain ⟨ps, eps, pl1, pin⟩ := s_dispute (n := 11) (by omega) (N := N) (ds := ds) (by omega) (by omega)
    refine wp_set (d := ePs ps) ?_ (by simp [hl]) ?_
    · simp [-getElem?_pos, List.getElem?_set, hl]
      exact eps
    have es := s_lawSure (n := 11) (by omega) (N := N) (ps := ps) (by omega) (by omega) pin
    have sl : (sureP N ps).length ≤ N := sureN_len N ps N
    refine wp_set (d := eT (sureP N ps)) ?_ (by simp [hl]) ?_
    · simp [-getElem?_pos, List.getElem?_set, hl, es]
    have es2 := s_sure (n := 11) (by omega) (N := N) (ps := ps) (by omega)
    have es3 := s_is 1 (eT (sureP N ps)) (pl_ints (by omega)) 11 (by omega)
    refine wp_ifF ?_ ?_
    · simp [-getElem?_pos, List.getElem?_set, hl, es2, es3]
    have ess := s_sets (n := 11) (by omega) (k := N) (by omega)
    have slen := sets_length N
    have n2 : 2 ^ N ≤ 2 ^ 6 := Nat.pow_le_pow_right (by omega) (by omega)
    have fl : (fixedL N ps).length ≤ 2 ^ N := by rw [← slen]; exact List.length_filter_le _ _
    refine wp_set (d := .list ((fixedL N ps).map eT)) ?_ (by simp [hl]) ?_
    · simp [-getElem?_pos, List.getElem?_set, hl, ess]
      rw [gd_pos (lim_ok (by omega)), lcF_if (enc := eT) (enc' := eT) (p := fun xs => decide (dfd N ps xs = xs)) (g := fun xs => xs)]
      · simp [fixedL]
      · intro xs hxs
        have xl := (in_length hxs).1
        have e1 := s_lawDfd (n := 11) (by omega) (N := N) (ps := ps) (xs := xs) (by omega) (by omega) (by omega)
        rw [lawDfd_eq pin] at e1
        simp [-getElem?_pos, List.getElem?_set, hl, e1]
    refine wp_ifF ?_ ?_
    · simp only [Ce.tst, ev_e11]
      simp [-getElem?_pos, List.getElem?_set, hl]
      rw [gd_pos (lim_ok (by omega)), lcF_all (enc := eT) (enc' := PyData.bool) (g := fun _ => true)]
      · simp [Function.comp_def]
      · intro xs hxs
        have e1 := s_in (n := 11) (by omega) (xs := sureP N ps) (ys := xs) (by omega)
        have : within (sureP N ps) xs = true := within_iff.mpr (sure_least (fixed_mem.mp hxs).2 N)
        rw [this] at e1
        simp [-getElem?_pos, List.getElem?_set, hl, e1]
    have hI : I1 ns ds N ps ((((((ρ.set 1 (.fz (.int turn))).set 2 (.fz (eL ds))).set 3 (.fz (.int N))).set 4 (.fz (ePs ps))).set 5 (.fz (eT (sureP N ps)))).set 7 (.fz (.list ((fixedL N ps).map eT)))) := by
      refine ⟨by simp [hl], ?_, ?_, ?_, ?_, ?_, ?_⟩ <;> simp [-getElem?_pos, List.getElem?_set, hl, h0]
    generalize (((((ρ.set 1 (Sl.fz (.int turn))).set 2 (.fz (eL ds))).set 3 (.fz (.int N))).set 4 (.fz (ePs ps))).set 5 (.fz (eT (sureP N ps)))).set 7 (.fz (.list ((fixedL N ps).map eT))) = ρ1 at hI ⊢
    clear hl h0 ρ
    refine wp_forI (xs := ivs 0 N) (I1 ns ds N ps) ?_ hI (fun ρ h => by rw [h.1]; omega) ?_ ?_
    · simp [hI.2.2.2.1]; rw [rngI (by omega) (by omega) (by omega) (by omega)]
    · rintro a ha ρ ⟨hl, h0, h2, h3, h4, h5, h7⟩
      have ha' := mem_ivs.mp ha
      obtain ⟨vr, evr, hvr⟩ := s_pleaFor (n := 11) (by omega) (N := N) (ps := ps) (a := a) (by omega)
      have evt := s_excuseFor (n := 11) (by omega) (N := N) (ps := ps) (a := a) (by omega)
      generalize hvt : (if a ∈ sureP N ps then PyData.none else eT (sureP N ps)) = vt at evt
      have hr : (vr = .none ∧ a ∉ sureP N ps ∧ vt = eT (sureP N ps)) ∨ (∃ r, vr = eT r ∧ a ∈ sureP N ps ∧ isPlea N ps a r = true ∧ r.length ≤ N + 1 ∧ vt = .none) := by
        rcases hvr with ⟨k, hk, q1, q2, rfl⟩ | ⟨rfl, q⟩
        · have hs : a ∈ sureP N ps := (plea_sure (by omega)).mpr ⟨k, hk, q1⟩
          have := pleaRow_len N ps k
          exact .inr ⟨_, rfl, hs, plea_ok q1 q2, by simp; omega, by rw [← hvt, if_pos hs]⟩
        · have hs : a ∉ sureP N ps := fun z => by
            obtain ⟨k, hk, q1⟩ := (plea_sure (by omega)).mp z
            exact q k hk q1
          exact .inl ⟨rfl, hs, by rw [← hvt, if_neg hs]⟩
      clear hvr hvt
      refine wp_set (d := vr) ?_ (by simp [hl]) ?_
      · simp [-getElem?_pos, List.getElem?_set, hl, h3, h4, evr]
      refine wp_set (d := vt) ?_ (by simp [hl]) ?_
      · simp [-getElem?_pos, List.getElem?_set, hl, h3, h4, evt]
      have hI2 : I2 ns ds N ps a vr vt (((ρ.set 8 (.fz (.int a))).set 9 (.fz vr)).set 6 (.fz vt)) := by
        refine ⟨⟨by simp [hl], ?_, ?_, ?_, ?_, ?_, ?_⟩, ?_, ?_, ?_⟩ <;> simp [-getElem?_pos, List.getElem?_set, hl, h0, h2, h3, h4, h5, h7]
      generalize ((ρ.set 8 (Sl.fz (.int a))).set 9 (.fz vr)).set 6 (.fz vt) = ρ1 at hI2 ⊢
      clear hl h0 h2 h3 h4 h5 h7 ρ
      have hI2' := hI2
      obtain ⟨⟨hl, h0, h2, h3, h4, h5, h7⟩, h8, h9, h6⟩ := hI2
      refine wp_ifF ?_ ?_
      · rcases hr with ⟨rfl, q, rfl⟩ | ⟨r, rfl, q, _, _, rfl⟩ <;> simp [-getElem?_pos, hl, h5, h6, h8, h9, q, List.any_map, Function.comp_def]
      refine wp_ifF ?_ ?_
      · rcases hr with ⟨rfl, q, rfl⟩ | ⟨r, rfl, q, qp, ql, rfl⟩
        · simp [-getElem?_pos, hl, h9]
        · have a1 := s_isInts (n := 11) (by omega) (xs := r) (by omega)
          have a2 := s_lawPlea (n := 11) (by omega) (N := N) (ps := ps) (a := a) (xs := r) (by omega) (by omega) (by omega) pin
          rw [qp] at a2
          simp [-getElem?_pos, hl, h3, h4, h8, h9, a1, a2]
      refine wp_ifF ?_ ?_
      · rcases hr with ⟨rfl, q, rfl⟩ | ⟨r, rfl, q, qp, ql, rfl⟩
        · have a1 := s_isInts (n := 11) (by omega) (xs := sureP N ps) (by omega)
          have a2 := s_lawExcuse (n := 11) (by omega) (N := N) (ps := ps) (a := a) (xs := sureP N ps) (by omega) (by omega) (by omega) pin
          rw [sure_excuse q] at a2
          simp [-getElem?_pos, hl, h3, h4, h6, h8, a1, a2]
        · simp [-getElem?_pos, hl, h6]
      clear hl h0 h2 h3 h4 h5 h7 h8 h9 h6
      refine wp_forI (xs := ivs 0 5) (I2 ns ds N ps a vr vt) ?_ hI2' (fun ρ h => by rw [h.1.1]; omega) ?_ ?_
      · simp; rw [rngI (by omega) (by omega) (by omega) (by omega)]
      · clear hI2' hI
        rintro k hk ρ ⟨⟨hl, h0, h2, h3, h4, h5, h7⟩, h8, h9, h6⟩
        have hk' := mem_ivs.mp hk
        have hcut := cut3 (xs := ds) (a := 39 + k + 3 * a) (by omega) (by omega)
        have e42 : 42 + k + 3 * a = 39 + k + 3 * a + 3 := by omega
        have hc0 := nth_drawn hdr (i := 39 + k + 3 * a) (by omega) (by omega)
        have hc1 := nth_drawn hdr (i := 39 + k + 3 * a + 1) (by omega) (by omega)
        have hc3 := nth_drawn hdr (i := 39 + k + 3 * a + 2) (by omega) (by omega)
        generalize nth ds (39 + k + 3 * a) = x0 at hcut hc0
        generalize nth ds (39 + k + 3 * a + 1) = x1 at hcut hc1
        generalize nth ds (39 + k + 3 * a + 2) = x2 at hcut hc3
        refine wp_set (d := eL [x0, x1, x2]) ?_ (by simp [hl]) ?_
        · simp [-getElem?_pos, List.getElem?_set, hl, h2, h8, cut_map, e42, LIM, hcut]
        obtain ⟨b1, hb1, b1l⟩ : ∃ b1 : List Int, (vr = .none ∧ b1 = sureP N ps ++ [a] ∨ vr = eT b1) ∧ b1.length ≤ 8 := by
          rcases hr with ⟨rfl, q, rfl⟩ | ⟨r, rfl, q, qp, ql, rfl⟩
          · exact ⟨_, .inl ⟨rfl, rfl⟩, by simp; omega⟩
          · exact ⟨r, .inr rfl, by omega⟩
        refine wp_set (d := eT b1) ?_ (by simp [hl]) ?_
        · rcases hb1 with ⟨rfl, rfl⟩ | rfl
          · simp [-getElem?_pos, List.getElem?_set, hl, h5, h8, h9, LIM]
            rw [gd_pos (by omega)]
            simp
          · simp [-getElem?_pos, List.getElem?_set, hl, h9]
        obtain ⟨ys, hys, yl⟩ := s_bent (n := 11) (by omega) (xs := b1) (a := x0) (b := x1) (c := x2) (most := N) (by omega) hc3 (by omega)
        obtain ⟨zs, hzs, zl⟩ : ∃ zs : List Int, (k = 0 ∧ zs = b1 ∨ k ≠ 0 ∧ zs = ys) ∧ zs.length ≤ 9 := by
          by_cases q : k = 0
          · exact ⟨b1, .inl ⟨q, rfl⟩, by omega⟩
          · exact ⟨ys, .inr ⟨q, rfl⟩, by omega⟩
        refine wp_set (d := eT zs) ?_ (by simp [hl]) ?_
        · rcases hzs with ⟨q, rfl⟩ | ⟨q, rfl⟩
          · simp [-getElem?_pos, List.getElem?_set, hl, q]
          · simp [-getElem?_pos, List.getElem?_set, hl, h3, q]
            exact hys
        have a1 := s_isPlea (n := 11) (by omega) (N := N) (ps := ps) (a := a) (xs := zs) (by omega) (by omega)
        have a2 := s_lawPlea (n := 11) (by omega) (N := N) (ps := ps) (a := a) (xs := zs) (by omega) (by omega) (by omega) pin
        refine wp_ifF ?_ ?_
        · simp [-getElem?_pos, List.getElem?_set, hl, h3, h4, h8, a1, a2, tb]
        have sal : (sureP N ps ++ [a]).length ≤ 8 := by simp; omega
        refine wp_set (d := eT (sureP N ps ++ [a])) ?_ (by simp [hl]) ?_
        · simp [-getElem?_pos, List.getElem?_set, hl, h5, h8, LIM]
          rw [gd_pos (by omega)]
          simp
        have a3 := s_isPlea (n := 11) (by omega) (N := N) (ps := ps) (a := a) (xs := sureP N ps ++ [a]) (by omega) (by omega)
        have a4 := s_lawPlea (n := 11) (by omega) (N := N) (ps := ps) (a := a) (xs := sureP N ps ++ [a]) (by omega) (by omega) (by omega) pin
        refine wp_ifF ?_ ?_
        · by_cases q : k = 4
          · simp only [Ce.tst]
            simp [-getElem?_pos, -List.map_append, List.getElem?_set, hl, h3, h4, h8, a3, a4, tb, q]
          · simp [-getElem?_pos, List.getElem?_set, hl, q]
        have fp := fixed_pos N ps
        obtain ⟨f0, hf0, ef0⟩ := index_any (f := eT) (xs := fixedL N ps) (i := x0 % (fixedL N ps).length) (Int.emod_nonneg _ (by omega)) (Int.emod_lt_of_pos _ (by omega))
        obtain ⟨f1, hf1, ef1⟩ := index_any (f := eT) (xs := fixedL N ps) (i := x1 % (fixedL N ps).length) (Int.emod_nonneg _ (by omega)) (Int.emod_lt_of_pos _ (by omega))
        have fl0 := asc_length (fixed_mem.mp hf0).1.1 (fixed_mem.mp hf0).1.2
        have fl1 := asc_length (fixed_mem.mp hf1).1.1 (fixed_mem.mp hf1).1.2
        obtain ⟨b2, hb2, b2l⟩ : ∃ b2 : List Int, (vt = .none ∧ b2 = f0 ∨ vt = eT b2) ∧ b2.length ≤ 8 := by
          rcases hr with ⟨rfl, q, rfl⟩ | ⟨r, rfl, q, qp, ql, rfl⟩
          · exact ⟨_, .inr rfl, by omega⟩
          · exact ⟨f0, .inl ⟨rfl, rfl⟩, by omega⟩
        refine wp_set (d := eT b2) ?_ (by simp [hl]) ?_
        · rcases hb2 with ⟨rfl, rfl⟩ | rfl
          · simp [-getElem?_pos, List.getElem?_set, hl, h6, h7]
            rw [gd_pos (by omega)]
            simp [ef0]
          · simp [-getElem?_pos, List.getElem?_set, hl, h6]
        obtain ⟨ys2, hys2, yl2⟩ := s_bent (n := 11) (by omega) (xs := b2) (a := x0) (b := x1) (c := x2) (most := N) (by omega) hc3 (by omega)
        obtain ⟨zs2, hzs2, zl2⟩ : ∃ zs : List Int, (k = 0 ∧ zs = b2 ∨ k ≠ 0 ∧ zs = ys2) ∧ zs.length ≤ 9 := by
          by_cases q : k = 0
          · exact ⟨b2, .inl ⟨q, rfl⟩, by omega⟩
          · exact ⟨ys2, .inr ⟨q, rfl⟩, by omega⟩
        refine wp_set (d := eT zs2) ?_ (by simp [hl]) ?_
        · rcases hzs2 with ⟨q, rfl⟩ | ⟨q, rfl⟩
          · simp [-getElem?_pos, List.getElem?_set, hl, q]
          · simp [-getElem?_pos, List.getElem?_set, hl, h3, q]
            exact hys2
        refine wp_mid (fun ρ => I2 ns ds N ps a vr vt ρ ∧ ∃ w : List Int, w.length ≤ 9 ∧ ρ[13]? = some (.fz (eT w))) ?_ ?_
        · refine wp_if (t := decide (k = 1)) ?_ ?_ ?_
          · simp [-getElem?_pos, List.getElem?_set, hl]
          · intro _
            refine wp_set (d := eT f1) ?_ (by simp [hl]) (wp_nil (wp_nil ⟨_, rfl, ?_⟩))
            · simp [-getElem?_pos, List.getElem?_set, hl, h7]
              rw [gd_pos (by omega)]
              simp [ef1]
            · refine ⟨⟨⟨by simp [hl], ?_, ?_, ?_, ?_, ?_, ?_⟩, ?_, ?_, ?_⟩, f1, by omega, ?_⟩ <;> simp [-getElem?_pos, List.getElem?_set, hl, h0, h2, h3, h4, h5, h6, h7, h8, h9]
          · intro _
            refine wp_nil (wp_nil ⟨_, rfl, ?_⟩)
            refine ⟨⟨⟨by simp [hl], ?_, ?_, ?_, ?_, ?_, ?_⟩, ?_, ?_, ?_⟩, zs2, by omega, ?_⟩ <;> simp [-getElem?_pos, List.getElem?_set, hl, h0, h2, h3, h4, h5, h6, h7, h8, h9]
        clear hl h0 h2 h3 h4 h5 h7 h8 h9 h6 ρ
        rintro ρ ⟨hI, w, wl, h13⟩
        have hI' := hI
        obtain ⟨⟨hl, h0, h2, h3, h4, h5, h7⟩, h8, h9, h6⟩ := hI
        have c1 := s_isExcuse (n := 11) (by omega) (N := N) (ps := ps) (a := a) (xs := w) (by omega) (by omega)
        have c2 := s_lawExcuse (n := 11) (by omega) (N := N) (ps := ps) (a := a) (xs := w) (by omega) (by omega) (by omega) pin
        refine wp_ifF ?_ (wp_nil hI')
        simp [-getElem?_pos, hl, h3, h4, h8, h13, c1, c2, tb]
      · rintro ρ ⟨hI, _⟩
        exact wp_nil hI
    · rintro ρ ⟨hl, h0, _⟩
      exact wp_nil ⟨hl, h0⟩
  · intro ρ ⟨hl, h0⟩
    refine wp_ret ?_ rfl
    simp
end LawX

open PySem PySem.W PySem.Calls PyProof.Rows
theorem PySem.Challenge.cw_kindhall_k34_whole_pleas_or_excuses_holds : PySem.Challenge.rw_kindhall_k34_whole_pleas_or_excuses.Holds := by
  w_on; o_law
  refine HandSHeadRun.head_any (r := OpenLaw.row PySem.Challenge.rw_kindhall_k34_whole_pleas_or_excuses) (q := view (OpenLaw.row PySem.Challenge.rw_kindhall_k34_whole_pleas_or_excuses).prog [29]) (H := LawX.hk) (ob := LawX.ob) (M := 4000) (loose := LawX.loose) (d := HandSHeadRun.topDef (OpenLaw.row PySem.Challenge.rw_kindhall_k34_whole_pleas_or_excuses).prog 29) (kwd := []) LawX.ob_eq
    (by kernel_rfl) (fun s => by kernel_rfl) LawX.run (by kernel_rfl) (by kernel_rfl) (by kernel_rfl) (by rfl) (by first | assumption | decide +kernel) (by decide +kernel) ⟨rfl, rfl, rfl, rfl, rfl, by decide +kernel⟩ ?hw ?hc
  case hw => w_witness2
  case hc =>
    refine Cs.walk_tabs (l := PySem.Challenge.rw_kindhall_k34_whole_pleas_or_excuses) (n := 63) (k := 24) (x := "script") (CX := fun _ => L2.CX0) rfl (by decide) (by kernel_rfl) ⟨rfl, by decide, by decide⟩ ?F (fun _ _ _ _ _ z => z)
    intro w mg fa h Y G hmg0
    have hmg : mg (Cs.nmOf LawX.P0 LawX.d_law) = some (.ref fa) := by
      have e : (HandSHeadRun.topDef (OpenLaw.row PySem.Challenge.rw_kindhall_k34_whole_pleas_or_excuses).prog 29).name = Cs.nmOf LawX.P0 LawX.d_law := by kernel_rfl
      rw [← e]
      exact hmg0
    exact Cs.law_at (n := 12) (W := LawX.Ws) (li := 26) (ld := LawX.d_law) rfl 4 Y G LawX.okD rfl rfl hmg (fun ns h1 _ => LawX.law_true h1)

