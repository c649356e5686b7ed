import PyProof.Rows.All
import PySem.Challenge.RW_kindhall_k41_whole_circuits_and_clauses
import HandS.ForMost
import HandS.AnyAll
import HandS.GenList
import PyProof.P3In
import KE.SortData
import HandS.Lambda
import HandS.TupAny
import HandS.Style
import HandS.Deep
import HandS.IsInst
import HandS.Conv
import HandS.List
import KE.DataMinMax
import KE.KTupSum
import HandS.Text
import HandS.Replace
import HandS.TupSets
import HandS.SetFor
import HandS.Strs
import KE.GoesEnum
import HandS.Zip
import HandS.Rev
import HandS.RevRange
import HandS.Flow
import PyProof.AutoSeq1
import HandS.Exc
import HandS.Words
import HandS.HeadHook4
import HandS.EndTab
import HandS.Head2
set_option Elab.async false
set_option linter.all false
set_option maxRecDepth 100000
set_option maxHeartbeats 4000000
/-! all and any over a generator expression: the turn's test is any expression of the layer. -/
namespace Gx
open PySem PySem.Spec PyProof.Rows L2 GxR GenW

/-- inside the generator -/
abbrev CxGen (X : Cx) (s : Shared) (H : Hp) (cenv : Env) (fp : List Addr) (go : Addr × Obj) : Cx :=
  { X with A := X.A.in1.in1.deeper cenv, s_0 := s, H_0 := H, env := cenv, outer := X.stack, stack := cenv :: X.stack, ex := fp, fn := fun _ => false, pn := [go], xe := fun _ _ => False }

theorem over_gen {A : Around} {e : Expr} {gs : List Comprehension} {sc : Scope} {pos : Pos} {it acc : Value} {env : Env} : A.over (.compLoop (.GeneratorExp e gs sc pos) 0 it acc env) [] = A.deeper env := rfl
theorem over_genS {A : Around} {e : Expr} {gs : List Comprehension} {sc : Scope} {pos : Pos} {it acc : Value} {env : Env} : A.over (.compStart (.GeneratorExp e gs sc pos) 0 it acc env) [] = A.deeper env := rfl

section
variable {X : Cx} {pins : List (Addr × Obj)} {σ : L2.St} {H : Hp} {s : Shared}

/-- the generator's frame has been made -/
theorem gen_start {scope : Scope} {own : List (Str × Nat)} {fp : List Addr} {code itv : Value} {h' : Heap} {go : Obj} {gs : GenState} {tk : Nat}
    (I : Inv X pins σ H s) (ok : BlkOk X.N X.env.scope scope own) (hN : X.N.Nodup) (hcell : ∀ y ∈ scope.names, y.2 ≠ .cell)
    (hfp : ∀ b ∈ fp, FpOk X pins H b ∧ b < s.heap.objs.size) (hgs : gs.bare = true) (hgd : ∀ v, go.data ≠ .cell v)
    (hn' : h'.Ns s.heap.objs.size (fun y => if y = (".0" : Str) then some itv else none)) (hs' : Heap.SameBut s.heap.objs.size (s.heap.push { cls := .type "frame", data := .dict #[] }) h')
    (hgo : (h'.push go).get? h'.objs.size = some go) :
    Inv (CxGen X s H (genEnv scope (cloFrom X.env.cells scope.names []) s.heap.objs.size code builtinsNs X.env) fp (h'.objs.size, go)) [] (wipe σ (own.map (·.2))) H
      { s with gens := s.gens.push gs, toks := tk, heap := h'.push go } := by
  have hfree : ∀ y ∈ scope.names, y.2 = .free → ∃ c, X.env.cells.lookup y.1 = some c := fun y hy e => by
    rcases ok.free y hy e with k | k
    · exact I.ok.has _ (.inl k)
    · exact I.ok.has _ (.inr k)
  have hsz : h'.objs.size = s.heap.objs.size + 1 := by rw [hs'.1, Heap.size_push]
  have kp0 : ∀ b o, s.heap.get? b = some o → h'.get? b = some o := fun b o e => (hs'.2 b (Nat.ne_of_lt (Heap.lt_size e))).trans (Heap.get?_push_of_some _ e)
  have kp : ∀ b o, s.heap.get? b = some o → (h'.push go).get? b = some o := fun b o e => Heap.get?_push_of_some _ (kp0 b o e)
  generalize hcenv : genEnv scope (cloFrom X.env.cells scope.names []) s.heap.objs.size code builtinsNs X.env = cenv
  have hL : cenv.locals = s.heap.objs.size := by rw [← hcenv]; rfl
  have hcl : cenv.cells = cloFrom X.env.cells scope.names [] := by rw [← hcenv]; rfl
  have hsc : cenv.scope = scope := by rw [← hcenv]; rfl
  have cm : ∀ {y c}, cenv.cells.lookup y = some c → X.env.cells.lookup y = some c ∧ c < s.heap.objs.size ∧ scope.names.lookup y = some .free := fun {y c} e => by
    rw [hcl] at e
    rcases cloFrom_mem (PySem.mem_of_lookup e) with hm | ⟨h1, rfl⟩
    · cases hm
    · obtain ⟨c, hc⟩ := hfree _ h1 rfl
      rw [hc]
      obtain ⟨w, z⟩ := I.cell _ _ hc
      exact ⟨rfl, z.lt, ok.uniq _ h1⟩
  have look : ∀ {y}, scope.names.lookup y = some .free → ∃ c, cenv.cells.lookup y = some c ∧ X.env.cells.lookup y = some c := fun {y} hl => by
    have hy : (y, NameKind.free) ∈ scope.names := PySem.mem_of_lookup hl
    obtain ⟨c', e'⟩ := mem_lookup (cloFrom_has (cells := X.env.cells) (acc := []) hy)
    rw [← hcl] at e'
    exact ⟨c', e', (cm e').1⟩
  have okB : (CxGen X s H cenv fp (h'.objs.size, go)).Ok := by
    refine ⟨I.ok.mod, by show cenv.scope.kind = _; rw [hsc]; exact ok.kind, by show cenv.globals = _; rw [← hcenv]; exact I.ok.glob, by show cenv.builtins = _; rw [← hcenv]; rfl, by show s.heap.objs.size ≤ cenv.locals; rw [hL]; exact Nat.le_refl _,
      fun y z c e1 e2 => I.ok.inj y z c (cm e1).1 (cm e2).1, fun y hy => ?_, fun y c z e => absurd z (by simp), I.ok.hd, ?_, .inr ⟨rfl, ?_⟩, fun b hb => ⟨?_, fun y c e z => ?_⟩, I.bs, Nat.le_trans I.ok.bsz I.sz, fun b o e hb => ?_, fun b hb z => ?_, I.stack, I.stkFree⟩
    · rcases hy with hy | hy
      · have hy' : scope.names.lookup y = some .cell := by rw [← hsc]; exact hy
        exact absurd rfl (hcell _ (PySem.mem_of_lookup hy'))
      · have hy' : scope.names.lookup y = some .free := by rw [← hsc]; exact hy
        obtain ⟨c, h1, _⟩ := look hy'
        exact ⟨c, h1⟩
    · show (X.A.in1.in1.deeper cenv).frames = some (cenv :: X.stack)
      show X.A.frames.map (cenv :: ·) = some (cenv :: X.stack)
      rw [I.ok.frames]; rfl
    · show cenv.frame = some cenv.locals
      rw [← hcenv]; rfl
    · show b ≠ cenv.locals
      rw [hL]; exact Nat.ne_of_lt (hfp b hb).2
    · exact (hfp b hb).1.2.2.2.2.1 y c (cm e).1 z
    · rcases (hfp b hb).1.2.2.2.1 with z | z
      · exact I.ok.noex b o e z
      · exact absurd (Nat.lt_of_lt_of_le (Heap.lt_size e) (Nat.le_trans I.ok.bsz z)) (Nat.lt_irrefl _)
    · rcases List.mem_cons.mp (I.stkSub b z) with z | z
      · exact (hfp b hb).1.2.1 z
      · exact (hfp b hb).1.2.2.1 z
  refine ⟨okB, rfl, I.bare.push hgs, Un.kept kp, ⟨fun y => if y = (".0" : Str) then some itv else none, ?_, fun i y av e1 e2 e3 => ?_⟩, fun y c e => ?_, ?_, fun y c e => ?_, fun p hp => ?_, I.hok.kept kp, by rw [wipe_length]; exact I.len⟩
  · show Heap.Ns _ cenv.locals _
    rw [hL]
    exact hn'.push _
  · obtain ⟨e2, hne⟩ := wipe_some e2
    have hfr : scope.names.lookup y = some .free ∧ cenv.kindOf y = some .free := by
      have key : ∀ k, scope.names.lookup y = some k → k = .local ∨ k = .cell ∨ k = .free → scope.names.lookup y = some .free ∧ cenv.kindOf y = some .free := fun k hk hk' => by
        have no : ¬ (k = .local ∨ k = .cell) := fun hh => by
          rcases ok.own _ (PySem.mem_of_lookup hk) hh with e' | e'
          · obtain ⟨p, hp, hpy⟩ := List.mem_map.mp e'
            have e3 := ok.ix p hp
            have : p.1 = y := hpy
            rw [this] at e3
            exact hne (List.mem_map.mpr ⟨p, hp, nodup_ix hN e3 e1⟩)
          · exact e' (List.mem_of_getElem? e1)
        rcases hk' with rfl | rfl | rfl
        · exact absurd (.inl rfl) no
        · exact absurd (.inr rfl) no
        · exact ⟨hk, by show cenv.scope.names.lookup y = _; rw [hsc]; exact hk⟩
      have e3 : Vis cenv.scope y := e3
      rw [hsc] at e3
      rcases e3 with e3 | e3 | e3
      · exact key _ e3 (.inl rfl)
      · exact key _ e3 (.inr (.inl rfl))
      · exact key _ e3 (.inr (.inr rfl))
    obtain ⟨m, hn, hl⟩ := I.loc
    have hvis : Vis X.env.scope y := (ok.free _ (PySem.mem_of_lookup hfr.1) rfl).elim (fun k => .inr (.inl k)) (fun k => .inr (.inr k))
    obtain ⟨w, r, q⟩ := hl i y av e1 e2 hvis
    refine ⟨w, r, .inr ⟨.inr hfr.2, ?_⟩⟩
    obtain ⟨c, h1, h2⟩ := look hfr.1
    rcases q with ⟨k, _⟩ | ⟨_, c', e', z⟩
    · have k : X.env.scope.names.lookup y = some .local := k
      rcases ok.free _ (PySem.mem_of_lookup hfr.1) rfl with k' | k' <;> rw [show X.env.scope.names.lookup y = _ from k'] at k <;> cases k
    · rw [h2] at e'; cases e'
      exact ⟨c, h1, z.keeps kp⟩
  · have e : cenv.cells.lookup y = some c := e
    obtain ⟨w, z⟩ := I.cell y c (cm e).1
    exact ⟨w, z.keeps kp⟩
  · show H cenv.locals = none
    rw [hL]; exact I.hok.fresh (Nat.le_refl _)
  · have e : cenv.cells.lookup y = some c := e
    exact I.freeC y c (cm e).1
  · have e : p = (h'.objs.size, go) := by simpa using hp
    subst e
    refine ⟨hgo, I.hok.fresh (by rw [hsz]; exact Nat.le_succ _), ?_, ?_, hgd⟩
    · show h'.objs.size ≠ cenv.locals
      rw [hL, hsz]; exact Nat.succ_ne_self _
    · exact fun z => by
        rcases List.mem_cons.mp (I.stkSub _ z) with z | z
        · have := I.lt; rw [← z, hsz] at this; exact absurd (Nat.lt_of_succ_lt this) (Nat.lt_irrefl _)
        · exact I.nofs (a := h'.objs.size) (by rw [hsz]; exact Nat.le_succ _) z

/-- only the table of generators moved -/
theorem inv_gens {s' : Shared} (I : Inv X pins σ H s) (hh : s'.heap = s.heap) (ho : s'.os = s.os) (hg : AllBare s'.gens) : Inv X pins σ H s' :=
  I.call' (ch := []) ho (by rw [hh]; exact Un.refl) (by rw [hh]; exact I.hok) hg (fun b z => absurd z (by simp))
end

/-! ### the turns of the generator -/
/-- a turn of any | all: b0 is the answer that goes on -/
def tTurn (b0 : Bool) (J : It) (g : TG) (tt : TT) (te : TE) (σ0 : L2.St) (vs : List Nat) (W : Nat → Nat → Hp → Prop) (Qt Qs : Hp → Prop) : Prop :=
  ∀ i m H, W i m H → (J.stop i H ∧ Qt H) ∨ (J.go i H ∧ ∃ Nx : Hp → Prop, (∀ H', Nx H' → ∃ m', m' < m ∧ W (i + 1) m' H') ∧
    ∀ x H', J.yld i H x H' → g x σ0 H' fun σ2 H2 => wipe σ2 vs = σ0 ∧ tt σ2 H2 fun b H3 => if b = true then te σ2 H3 fun y H4 => ∃ c, y = .bl c ∧ (if c = b0 then Nx H4 else Qs H4) else Nx H3)

section
variable {P : Program} {w : World} {K : PySem.W.Frag}
/-- the protocol: a bool is handed out; where it is b0, the generator may be woken -/
def GYx (X' : Cx) (σ0 : L2.St) (b0 : Bool) (Qs : Hp → Prop) : Protocol := fun n s₀ v s kap =>
  ∃ c H' σ', v = .bool c ∧ Inv X' [] σ' H' s ∧ (c ≠ b0 → Qs H') ∧ (c = b0 → ∀ s'', s''.heap = s.heap → s''.os = s.os → AllBare s''.gens → kap (.send .none) s'')
def GRx (X' : Cx) (Qt : Hp → Prop) : GenEnd := fun n s₀ r s => r = .ok .next ∧ ∃ H' σ', Inv X' [] σ' H' s ∧ Qt H'

theorem seg_gx {X : Cx} {s3 : Shared} {H3 : Hp} {cenv : Env} {fp : List Addr} {gob : Addr × Obj} {elt tg iter : Expr} {ifs : List Expr} {scope : Scope} {pos : Pos} {it : Addr} {tn : Nat → Heap → Prop} {J : It} {g : TG} {tt : TT} {te : TE} {σ : L2.St} {vs : List Nat}
    {W : Nat → Nat → Hp → Prop} {Qt Qs : Hp → Prop} {b0 : Bool} (hc : X.calm = true) (T : Turn X.prog X.w X.K tg J fp it tn)
    (hco : cenv.scope.isCoroutine = false)
    (pg : PG (CxGen X s3 H3 cenv fp gob) tg g) (pt : PTs (CxGen X s3 H3 cenv fp gob) ifs tt) (pe : PE (CxGen X s3 H3 cenv fp gob) elt te)
    (turn : tTurn b0 J g tt te (wipe σ vs) vs W Qt Qs) (hfpgo : gob.1 ∉ fp) :
    ∀ (m n i : Nat) (s₀ s5 : Shared) (H5 : Hp), m < n → Inv (CxGen X s3 H3 cenv fp gob) [] (wipe σ vs) H5 s5 → tn i s5.heap → (∀ b ∈ fp, H5 b = none) → W i m H5 →
      Seg (model X.prog X.w) X.A.in1.in1 (GRx (CxGen X s3 H3 cenv fp gob) Qt) (GYx (CxGen X s3 H3 cenv fp gob) (wipe σ vs) b0 Qs) n s₀
        (.compLoop (.GeneratorExp elt [⟨tg, iter, ifs, 0⟩] scope pos) 0 (.ref it) .none cenv)
        ((model X.prog X.w).den (.compLoop (.GeneratorExp elt [⟨tg, iter, ifs, 0⟩] scope pos) 0 (.ref it) .none cenv)) [] s5 := by
  have stat : ∀ {σ' : L2.St} {H' : Hp} {s' : Shared}, Inv (CxGen X s3 H3 cenv fp gob) [] σ' H' s' → (∀ b ∈ fp, H' b = none) → ∀ b ∈ fp, FpOk (CxGen X s3 H3 cenv fp gob) [] H' b := fun {σ' H' s'} I' hn b hb =>
    ⟨hn b hb, (I'.ok.exf b hb).1, I'.ok.exfs b hb, .inl hb, fun x c e => (I'.ok.exf b hb).2 x c e, fun p hp => by
      have e : p = gob := by simpa using hp
      subst e
      exact fun z => hfpgo (z ▸ hb)⟩
  intro m
  induction m using Nat.strongRecOn with
  | ind m ih =>
    intro n i s₀ s5 H5 hmn I5 st5 n5 w5
    show Seg _ X.A.in1.in1 _ _ _ s₀ _ ((compTurn (.GeneratorExp elt [⟨tg, iter, ifs, 0⟩] scope pos) 0 (.ref it) .none cenv).onRaise (leaving cenv)) [] s5
    rw [compTurn_gen, Sem.onRaise_eq_wrap]
    refine seg_bind_wrap (wpAny_standAt ?_)
    rcases turn i m H5 w5 with ⟨stop, qq⟩ | ⟨go, Nx, hNx, step⟩
    · refine seg_bind_wrap (thnF (T.done (CxGen X s3 H3 cenv fp gob) rfl rfl rfl hc i [] s5 _ H5 (fun _ _ => False) I5 (stat I5 n5) st5 stop) fun r s6 ⟨hr, I6⟩ => ?_)
      subst hr
      exact seg_end (.ok .next) ⟨rfl, H5, _, I6, qq⟩
    · refine seg_bind_wrap (thnF (T.item (CxGen X s3 H3 cenv fp gob) rfl rfl rfl hc i [] s5 _ H5 (fun _ _ => False) I5 (stat I5 n5) st5 go) fun r s6 ⟨u, hr, h6⟩ => ?_)
      subst hr
      refine seg_bind_wrap (thnF h6 fun _ s7 ⟨x, H7, I7, r7, y7, st7, n7⟩ => ?_)
      have I7' := I7.pinned (stat I7 n7) (T.obj _ _ st7)
      refine seg_bind_wrap (thnF (pg.run _ s7 _ H7 x u _ I7' r7 (step x H7 y7)) fun _ s8 ⟨σ8, H8, I8, hw8, q8⟩ => ?_)
      refine seg_bind_wrap (thnF (pt.run _ s8 σ8 H8 _ I8 q8) fun b s9 ⟨H9, I9, q9⟩ => ?_)
      -- the turn's end
      have fin : ∀ {s' : Shared} {H' : Hp}, Inv (CxGen X s3 H3 cenv fp gob) ([] ++ pinsAt fp s7.heap) σ8 H' s' → Nx H' → ∃ m', m' < m ∧ Inv (CxGen X s3 H3 cenv fp gob) [] (wipe σ vs) H' s' ∧ tn (i + 1) s'.heap ∧ (∀ b ∈ fp, H' b = none) ∧ W (i + 1) m' H' := fun {s' H'} I' nx => by
        obtain ⟨m', hm, w'⟩ := hNx H' nx
        have pin' : ∀ b ∈ fp, ∀ o, s7.heap.get? b = some o → s'.heap.get? b = some o ∧ H' b = none := fun b hb o e =>
          let z := I'.pin (b, o) (List.mem_append_right _ (List.mem_append_right _ (mem_pinsAt hb e)))
          ⟨z.1, z.2.1⟩
        have hl : (wipe σ vs).length = σ8.length := by rw [← hw8, wipe_length]
        refine ⟨m', hm, (I'.unpinned (pins := [])).weak hl (fun j v e => ?_), T.keep _ _ _ st7 fun b hb o e => (pin' b hb o e).1, fun b hb => ?_, w'⟩
        · rw [← hw8] at e
          exact (wipe_some e).1
        · obtain ⟨o, e, _⟩ := T.obj _ _ st7 b hb
          exact (pin' b hb o e).2
      cases b with
      | false =>
        simp only [Bool.false_eq_true, if_false] at q9 ⊢
        obtain ⟨m', hm, I', st', n', w'⟩ := fin I9 q9
        exact seg_again rfl (ih m' hm n (i + 1) s₀ s9 H9 (by omega) I' st' n' w')
      | true =>
        simp only [if_true] at q9 ⊢
        have hy : ∀ v, yieldOut cenv v = yieldValue v := fun v => by simp only [yieldOut, hco, Bool.false_eq_true, if_false]
        simp only [hy]
        rw [Sem.bind_eq_wrap', Sem.bind_eq_wrap', Sem.wrap_wrap, Sem.wrap_wrap]
        refine seg_wrap (thnF (pe.run _ s9 σ8 H9 _ I9 q9) fun z s10 ⟨yv, H10, I10, r10, c, hyc, q10⟩ => ?_)
        subst hyc
        have ez : z = Value.bool c := r10
        subst ez
        by_cases hcb : c = b0
        · rw [if_pos hcb] at q10
          obtain ⟨m', hm, I', st', n', w'⟩ := fin I10 q10
          obtain ⟨n, rfl⟩ : ∃ k, n = k + 1 := ⟨n - 1, by omega⟩
          refine seg_at (seg_yield rfl rfl rfl ⟨c, H10, _, rfl, I', fun h => absurd hcb h, fun _ s'' hh ho hg => ?_⟩)
          have I'' := inv_gens I' hh ho hg
          exact seg_again rfl (ih m' hm n (i + 1) s'' s'' H10 (by omega) I'' (by rw [hh]; exact st') n' w')
        · rw [if_neg hcb] at q10
          obtain ⟨n, rfl⟩ : ∃ k, n = k + 1 := ⟨n - 1, by omega⟩
          exact seg_at (seg_yield rfl rfl rfl ⟨c, H10, _, rfl, I10.unpinned (pins := []), fun _ => q10, fun h => absurd h hcb⟩)

theorem seg_gxStart {X : Cx} {s3 : Shared} {H3 : Hp} {cenv : Env} {fp : List Addr} {gob : Addr × Obj} {elt tg iter : Expr} {ifs : List Expr} {scope : Scope} {pos : Pos} {it : Addr} {tn : Nat → Heap → Prop} {J : It} {g : TG} {tt : TT} {te : TE} {σ : L2.St} {vs : List Nat}
    {W : Nat → Nat → Hp → Prop} {Qt Qs : Hp → Prop} {b0 : Bool} (hc : X.calm = true) (T : Turn X.prog X.w X.K tg J fp it tn)
    (hco : cenv.scope.isCoroutine = false)
    (pg : PG (CxGen X s3 H3 cenv fp gob) tg g) (pt : PTs (CxGen X s3 H3 cenv fp gob) ifs tt) (pe : PE (CxGen X s3 H3 cenv fp gob) elt te)
    (turn : tTurn b0 J g tt te (wipe σ vs) vs W Qt Qs) (hfpgo : gob.1 ∉ fp) (m : Nat) (s₀ s5 : Shared) (H5 : Hp) (I5 : Inv (CxGen X s3 H3 cenv fp gob) [] (wipe σ vs) H5 s5) (st5 : tn 0 s5.heap) (n5 : ∀ b ∈ fp, H5 b = none) (w5 : W 0 m H5) :
      Seg (model X.prog X.w) X.A.in1.in1 (GRx (CxGen X s3 H3 cenv fp gob) Qt) (GYx (CxGen X s3 H3 cenv fp gob) (wipe σ vs) b0 Qs) (m + 1) s₀
        (.compStart (.GeneratorExp elt [⟨tg, iter, ifs, 0⟩] scope pos) 0 (.ref it) .none cenv)
        ((model X.prog X.w).den (.compStart (.GeneratorExp elt [⟨tg, iter, ifs, 0⟩] scope pos) 0 (.ref it) .none cenv)) [] s5 := by
  have loop := seg_gx (iter := iter) (scope := scope) (pos := pos) hc T hco pg pt pe turn hfpgo m (m + 1) 0 s₀ s5 H5 (Nat.lt_succ_self _) I5 st5 n5 w5
  show Seg _ X.A.in1.in1 _ _ _ s₀ _ ((compStart (.GeneratorExp elt [⟨tg, iter, ifs, 0⟩] scope pos) 0 (.ref it) .none cenv).onRaise (leaving cenv)) [] s5
  unfold compStart
  rw [Sem.onRaise_eq_wrap]
  show Seg _ X.A.in1.in1 _ _ _ s₀ _ ((ask >>= _).wrap _ _ _ _) [] s5
  refine seg_bind_wrap (wpAny_askSetting ?_)
  split
  · exact seg_again rfl loop
  · first
      | exact seg_bind_wrap (wpAny_rule (seg_bind_wrap (wpAny_standAt (seg_bind_wrap (T.self _ 0 s5 _ _ st5 (seg_again rfl loop))))))
      | (refine seg_bind_wrap (wpAny_rule ?_); show Seg _ X.A.in1.in1 _ _ _ s₀ _ ((standAt iter.pos >>= _).wrap _ _ _ _) [] s5; exact seg_bind_wrap (wpAny_standAt (seg_bind_wrap (T.self _ 0 s5 _ _ st5 (seg_again rfl loop)))))
end

/-- all: the consumer's loop -/
theorem drain_all {X : Cx} {s3 : Shared} {H3 : Hp} {cenv : Env} {fp : List Addr} {a : Addr} {go : Obj} {g : Nat} {σ0 : L2.St} {Qt Qs : Hp → Prop} {R : Result → Shared → Prop}
    (hh : X.A.handled = none) (hd : X.A.depth < recursionLimit) (hgen : ∀ h : Heap, h.get? a = some go → h.IsGen a g)
    (hT : ∀ H' σ' s', Inv (CxGen X s3 H3 cenv fp (a, go)) [] σ' H' s' → Qt H' → R (.ok (.ret (.bool true))) s')
    (hS : ∀ H' σ' s', Inv (CxGen X s3 H3 cenv fp (a, go)) [] σ' H' s' → Qs H' → R (.ok (.ret (.bool (!true)))) s') :
    ∀ (n : Nat) (s : Shared), s.heap.IsGen a g → s.heap.NoLimit →
      (∃ gs, s.gens[g]? = some gs ∧ gs.Goes (model X.prog X.w) X.A.in1.in1 (GRx (CxGen X s3 H3 cenv fp (a, go)) Qt) (GYx (CxGen X s3 H3 cenv fp (a, go)) σ0 true Qs) n (.send .none) (s.setGen g .running)) →
      codeAny (model X.prog X.w) X.A (.builtin "all.loop" ⟨[.ref a], []⟩) R s := by
  intro n
  induction n with
  | zero =>
    intro s hg hl ⟨gs, hgs, hgo⟩
    refine codeAny_builtin F.entry_all_loop ?_
    rw [Around.under_plainId F.plain_all_loop _]
    show wpAny _ X.A.in1 (pyNext (.ref a) >>= _) _ _ s
    refine wpAny_bind (wpAny_pyNext_genexpQ (A := X.A.in1) (P := fun _ _ s => ∃ H' σ', Inv (CxGen X s3 H3 cenv fp (a, go)) [] σ' H' s ∧ Qt H') hh hl hd hg hgs hgo (fun v s₁ gs' hb hv => ?_) (fun s₁ hp h' hk => ?_))
    · obtain ⟨c, H', σ', rfl, I', hq, hk⟩ := hv
      refine wpAny_bind (wpAny_holding (wpAny_truthy_bool ?_))
      refine wpAny_bind (wpAny_letGo ?_)
      cases hc : c with
      | true => exact (hk hc s₁ rfl rfl I'.bare).elim
      | false =>
        have hq' := hq (by rw [hc]; decide)
        simp only [if_true, Bool.false_eq_true, if_false]
        refine wpAny_bind (wpAny_rule (wpAny_pure ?_))
        exact hS H' σ' _ (inv_gens I' rfl rfl (allBare_setGen I'.bare hb)) hq'
    · obtain ⟨H', σ', I', hq⟩ := hp
      refine wpAny_bind (wpAny_rule (wpAny_pure ?_))
      exact hT H' σ' _ (I'.call' (ch := []) rfl (Un.kept hk) (I'.hok.kept hk) (allBare_setGen I'.bare rfl) (fun b z => absurd z (by simp))) hq
  | succ n ih =>
    intro s hg hl ⟨gs, hgs, hgo⟩
    have hgl : g < s.gens.size := (Array.getElem?_eq_some_iff.mp hgs).1
    refine codeAny_builtin F.entry_all_loop ?_
    rw [Around.under_plainId F.plain_all_loop _]
    show wpAny _ X.A.in1 (pyNext (.ref a) >>= _) _ _ s
    refine wpAny_bind (wpAny_gsz (n := g + 1) hgl (wpAny_pyNext_genexpQ (A := X.A.in1) (P := fun _ _ s => ∃ H' σ', Inv (CxGen X s3 H3 cenv fp (a, go)) [] σ' H' s ∧ Qt H') hh hl hd hg hgs hgo (fun v s₁ gs' hb hv => ?_) (fun s₁ hp h' hk => ?_)))
    · intro hsz
      obtain ⟨c, H', σ', rfl, I', hq, hk⟩ := hv
      refine wpAny_bind (wpAny_holding (wpAny_truthy_bool ?_))
      refine wpAny_bind (wpAny_letGo ?_)
      have hsz1 : g < s₁.gens.size := by
        have q : (s₁.setGen g gs').gens.size = s₁.gens.size := setGen_size _ _ _
        have hsz' : g + 1 ≤ (s₁.setGen g gs').gens.size := hsz
        omega
      have hpin := (I'.pin (a, go) (List.mem_append_left _ (List.mem_singleton.mpr rfl))).1
      cases hc : c with
      | true =>
        simp only [if_true, Bool.false_eq_true, if_false]
        refine wpAny_pure ⟨plainId_quiet F.plain_all_loop _, ih (s₁.setGen g gs') (hgen _ hpin) I'.nolimit ⟨gs', setGen_at hsz1, ?_⟩⟩
        exact hk hc _ rfl rfl (allBare_setGen (s := s₁.setGen g gs') (allBare_setGen I'.bare hb) rfl)
      | false =>
        have hq' := hq (by rw [hc]; decide)
        simp only [if_true, Bool.false_eq_true, if_false]
        refine wpAny_bind (wpAny_rule (wpAny_pure ?_))
        exact hS H' σ' _ (inv_gens I' rfl rfl (allBare_setGen I'.bare hb)) hq'
    · intro hsz
      obtain ⟨H', σ', I', hq⟩ := hp
      refine wpAny_bind (wpAny_rule (wpAny_pure ?_))
      exact hT H' σ' _ (I'.call' (ch := []) rfl (Un.kept hk) (I'.hok.kept hk) (allBare_setGen I'.bare rfl) (fun b z => absurd z (by simp))) hq

/-- any: the consumer's loop -/
theorem drain_any {X : Cx} {s3 : Shared} {H3 : Hp} {cenv : Env} {fp : List Addr} {a : Addr} {go : Obj} {g : Nat} {σ0 : L2.St} {Qt Qs : Hp → Prop} {R : Result → Shared → Prop}
    (hh : X.A.handled = none) (hd : X.A.depth < recursionLimit) (hgen : ∀ h : Heap, h.get? a = some go → h.IsGen a g)
    (hT : ∀ H' σ' s', Inv (CxGen X s3 H3 cenv fp (a, go)) [] σ' H' s' → Qt H' → R (.ok (.ret (.bool false))) s')
    (hS : ∀ H' σ' s', Inv (CxGen X s3 H3 cenv fp (a, go)) [] σ' H' s' → Qs H' → R (.ok (.ret (.bool (!false)))) s') :
    ∀ (n : Nat) (s : Shared), s.heap.IsGen a g → s.heap.NoLimit →
      (∃ gs, s.gens[g]? = some gs ∧ gs.Goes (model X.prog X.w) X.A.in1.in1 (GRx (CxGen X s3 H3 cenv fp (a, go)) Qt) (GYx (CxGen X s3 H3 cenv fp (a, go)) σ0 false Qs) n (.send .none) (s.setGen g .running)) →
      codeAny (model X.prog X.w) X.A (.builtin "any.loop" ⟨[.ref a], []⟩) R s := by
  intro n
  induction n with
  | zero =>
    intro s hg hl ⟨gs, hgs, hgo⟩
    refine codeAny_builtin F.entry_any_loop ?_
    rw [Around.under_plainId F.plain_any_loop _]
    show wpAny _ X.A.in1 (pyNext (.ref a) >>= _) _ _ s
    refine wpAny_bind (wpAny_pyNext_genexpQ (A := X.A.in1) (P := fun _ _ s => ∃ H' σ', Inv (CxGen X s3 H3 cenv fp (a, go)) [] σ' H' s ∧ Qt H') hh hl hd hg hgs hgo (fun v s₁ gs' hb hv => ?_) (fun s₁ hp h' hk => ?_))
    · obtain ⟨c, H', σ', rfl, I', hq, hk⟩ := hv
      refine wpAny_bind (wpAny_holding (wpAny_truthy_bool ?_))
      refine wpAny_bind (wpAny_letGo ?_)
      cases hc : c with
      | false => exact (hk hc s₁ rfl rfl I'.bare).elim
      | true =>
        have hq' := hq (by rw [hc]; decide)
        simp only [if_true, Bool.false_eq_true, if_false]
        refine wpAny_bind (wpAny_rule (wpAny_pure ?_))
        exact hS H' σ' _ (inv_gens I' rfl rfl (allBare_setGen I'.bare hb)) hq'
    · obtain ⟨H', σ', I', hq⟩ := hp
      refine wpAny_bind (wpAny_rule (wpAny_pure ?_))
      exact hT H' σ' _ (I'.call' (ch := []) rfl (Un.kept hk) (I'.hok.kept hk) (allBare_setGen I'.bare rfl) (fun b z => absurd z (by simp))) hq
  | succ n ih =>
    intro s hg hl ⟨gs, hgs, hgo⟩
    have hgl : g < s.gens.size := (Array.getElem?_eq_some_iff.mp hgs).1
    refine codeAny_builtin F.entry_any_loop ?_
    rw [Around.under_plainId F.plain_any_loop _]
    show wpAny _ X.A.in1 (pyNext (.ref a) >>= _) _ _ s
    refine wpAny_bind (wpAny_gsz (n := g + 1) hgl (wpAny_pyNext_genexpQ (A := X.A.in1) (P := fun _ _ s => ∃ H' σ', Inv (CxGen X s3 H3 cenv fp (a, go)) [] σ' H' s ∧ Qt H') hh hl hd hg hgs hgo (fun v s₁ gs' hb hv => ?_) (fun s₁ hp h' hk => ?_)))
    · intro hsz
      obtain ⟨c, H', σ', rfl, I', hq, hk⟩ := hv
      refine wpAny_bind (wpAny_holding (wpAny_truthy_bool ?_))
      refine wpAny_bind (wpAny_letGo ?_)
      have hsz1 : g < s₁.gens.size := by
        have q : (s₁.setGen g gs').gens.size = s₁.gens.size := setGen_size _ _ _
        have hsz' : g + 1 ≤ (s₁.setGen g gs').gens.size := hsz
        omega
      have hpin := (I'.pin (a, go) (List.mem_append_left _ (List.mem_singleton.mpr rfl))).1
      cases hc : c with
      | false =>
        simp only [if_true, Bool.false_eq_true, if_false]
        refine wpAny_pure ⟨plainId_quiet F.plain_any_loop _, ih (s₁.setGen g gs') (hgen _ hpin) I'.nolimit ⟨gs', setGen_at hsz1, ?_⟩⟩
        exact hk hc _ rfl rfl (allBare_setGen (s := s₁.setGen g gs') (allBare_setGen I'.bare hb) rfl)
      | true =>
        have hq' := hq (by rw [hc]; decide)
        simp only [if_true, Bool.false_eq_true, if_false]
        refine wpAny_bind (wpAny_rule (wpAny_pure ?_))
        exact hS H' σ' _ (inv_gens I' rfl rfl (allBare_setGen I'.bare hb)) hq'
    · intro hsz
      obtain ⟨H', σ', I', hq⟩ := hp
      refine wpAny_bind (wpAny_rule (wpAny_pure ?_))
      exact hT H' σ' _ (I'.call' (ch := []) rfl (Un.kept hk) (I'.hok.kept hk) (allBare_setGen I'.bare rfl) (fun b z => absurd z (by simp))) hq


/-! ### code objects that are made on the way -/
/-- the object at c is a code object, its table stands at P -/
def CodeX (c P : Addr) : HO := .ext fun h => PySem.W.CodeHd h c P
theorem codeX_nt {c P : Addr} (ps : Array Value) : CodeX c P ≠ .tbl ps := fun z => by
  unfold CodeX at z
  cases z
theorem codeHd_one {h : Heap} {c P Q : Addr} (a : PySem.W.CodeHd h c P) (b : PySem.W.CodeHd h c Q) : P = Q := by
  obtain ⟨o, vs, _, _, _, _, _, _, _, e1, _, e3, e4, _⟩ := a
  obtain ⟨o', vs', _, _, _, _, _, _, _, f1, _, f3, f4, _⟩ := b
  rw [e1] at f1
  cases f1
  rw [e3] at f3
  cases f3
  rw [e4] at f4
  cases f4
  rfl
theorem codeX_inj {c P Q : Addr} (hw : ∃ h, PySem.W.CodeHd h c P) (e : CodeX c P = CodeX c Q) : P = Q := by
  obtain ⟨h, a⟩ := hw
  unfold CodeX at e
  injection e with e
  exact codeHd_one a ((congrFun e h) ▸ a)
/-- the code object at c, its table at P: known from the start, or seen -/
def CdAt (base : Heap) (H : Hp) (c P : Addr) : Prop := PySem.W.CodeHd base c P ∨ H c = some (CodeX c P)
/-- the code object of the place gp is taken out of the table at P, or made and put into it -/
def TabX (gp : Pos) (P : Addr) (H H2 : Hp) (code : Value) : Prop :=
  (∃ ps : Array Value, H P = some (.tbl ps) ∧ codeAmong gp ps.toList = some code ∧ H2 = H) ∨
  ∃ (ps : Array Value) (c' P' : Addr), H P = some (.tbl ps) ∧ code = .ref c' ∧ H c' = none ∧ H P' = none ∧ c' ≠ P' ∧ (∃ h, PySem.W.CodeHd h c' P') ∧
    TriplesOk (ps ++ #[rawInt gp.line, rawInt gp.col, .ref c']).toList ∧ H2 = upd (upd (upd H P (.tbl (ps ++ #[rawInt gp.line, rawInt gp.col, .ref c']))) c' (CodeX c' P')) P' (.tbl #[])
section
variable {X : Cx} {pins : List (Addr × Obj)} {σ : L2.St} {H : Hp} {s : Shared}
theorem cdAt_hd {c P : Addr} (I : Inv X pins σ H s) (x : CdAt X.base H c P) : PySem.W.CodeHd s.heap c P := by
  rcases x with x | x
  · exact x.keeps fun b u e => I.bk b u e
  · exact (I.hok c _ x).1
theorem inv_tabX {P c' P' : Addr} {ps more : Array Value} {h' : Heap} {t' : Nat} (I : Inv X pins σ H s) (hP : H P = some (.tbl ps)) (k : ∀ b o, b ≠ P → s.heap.get? b = some o → h'.get? b = some o)
    (hm : h'.get? P = some { cls := .none, data := .fields (ps ++ more) }) (hc : s.heap.objs.size ≤ c') (hp : s.heap.objs.size ≤ P') (hcp : c' ≠ P') (cd : PySem.W.CodeHd h' c' P') (hp' : h'.get? P' = some { cls := .none, data := .fields #[] }) :
    Inv X pins σ (upd (upd (upd H P (.tbl (ps ++ more))) c' (CodeX c' P')) P' (.tbl #[])) { s with heap := h', toks := t' } := by
  have n1 : H c' = none := I.hok.fresh hc
  have n2 : H P' = none := I.hok.fresh hp
  have ne1 : P ≠ c' := ne_of_none hP n1
  have ne2 : P ≠ P' := ne_of_none hP n2
  have off : ∀ b, b ≠ P → b ≠ c' → b ≠ P' → upd (upd (upd H P (.tbl (ps ++ more))) c' (CodeX c' P')) P' (.tbl #[]) b = H b := fun b h1 h2 h3 => by rw [upd_ne h3, upd_ne h2, upd_ne h1]
  have onP : upd (upd (upd H P (.tbl (ps ++ more))) c' (CodeX c' P')) P' (.tbl #[]) P = some (.tbl (ps ++ more)) := by rw [upd_ne ne2, upd_ne ne1, upd_same]
  have onC : upd (upd (upd H P (.tbl (ps ++ more))) c' (CodeX c' P')) P' (.tbl #[]) c' = some (CodeX c' P') := by rw [upd_ne hcp, upd_same]
  have nt : ∀ b u, H b = some u → (∀ q, u ≠ .tbl q) → b ≠ P := fun b u e q z => by rw [z, hP] at e; cases e; exact q ps rfl
  have nn : ∀ b, H b = none → b ≠ P := fun b e z => by rw [z, hP] at e; cases e
  have old : ∀ b o, s.heap.get? b = some o → b ≠ c' ∧ b ≠ P' := fun b o e => by
    have := Heap.lt_size e
    exact ⟨fun z => absurd (Nat.lt_of_lt_of_le (z ▸ this) hc) (Nat.lt_irrefl _), fun z => absurd (Nat.lt_of_lt_of_le (z ▸ this) hp) (Nat.lt_irrefl _)⟩
  have tr : ∀ b u, H b = some u → b ≠ c' ∧ b ≠ P' := fun b u e => ⟨ne_of_none e n1, ne_of_none e n2⟩
  have same : ∀ b u, H b = some u → (∀ q, u ≠ .tbl q) → upd (upd (upd H P (.tbl (ps ++ more))) c' (CodeX c' P')) P' (.tbl #[]) b = some u := fun b u e q => by rw [off b (nt b u e q) (tr b u e).1 (tr b u e).2]; exact e
  refine I.step (g' := s.gens) (d' := s.drawn) (ch := []) (fun b hb => absurd hb (by simp)) (fun b o _ _ _ e n => k b o (nn b n) e) (fun b o _ _ _ e n => ⟨o.slots, k b o (nn b n) e⟩)
    (fun b o _ e n => by rw [off b (nn b n) (old b o e).1 (old b o e).2]; exact n) (fun b o _ e => ?_) (fun b xs e => same b _ e fun q z => by cases z) (fun b o u e => same b _ e fun q z => by cases z) (fun b qs e => ?_) (fun m hn => ?_) (fun b u e => ?_) I.bare
  · by_cases hb : b = P
    · exact ⟨_, hb ▸ hm⟩
    · exact ⟨o, k b o hb e⟩
  · by_cases hb : b = P
    · subst hb
      rw [hP] at e
      cases e
      exact ⟨more, onP⟩
    · exact ⟨#[], by rw [off b hb (tr b _ e).1 (tr b _ e).2, e, Array.append_empty]⟩
  · obtain ⟨ob, es, ep, ho, r⟩ := hn
    exact ⟨ob, es, ep, k _ ob (nn _ I.free) ho, r⟩
  · by_cases b3 : b = P'
    · subst b3
      rw [upd_same] at e
      cases e
      exact hp'
    · by_cases b2 : b = c'
      · subst b2
        rw [onC] at e
        cases e
        refine ⟨cd, ?_, fun h1 h2 x st => ?_⟩
        · obtain ⟨o, _, _, _, _, _, _, _, _, e1, _⟩ := cd
          exact ⟨o, e1⟩
        · obtain ⟨o, vs, f, tf, fl, tg, inF, text, tt, e1, r⟩ := x
          exact ⟨o, vs, f, tf, fl, tg, inF, text, tt, st _ e1, r⟩
      · by_cases b1 : b = P
        · subst b1
          rw [onP] at e
          cases e
          exact hm
        · rw [off b b1 b2 b3] at e
          refine (I.hok b u e).stay (fun d v hd q => k d v ?_ q) (fun d q => same d _ q fun q z => by cases z) fun d xs q => same d _ q fun q z => by cases z
          rcases hd with z | z
          · rw [z]; exact b1
          · exact nt d _ z (fun q z => by cases z)
end

/-! ### the rule -/
/-- any | all of a generator expression; C: the running code object, P: its table -/
def tGen (b0 : Bool) (base : Heap) (C P : Addr) (gp : Pos) (wi : TI) (g : Addr → Addr → TG) (tt : Addr → Addr → TT) (te : Addr → Addr → TE) (vs : List Nat) : TE := fun σ H Q => wi σ H fun J H1 => TabG H1 P ∧ CdAt base H1 C P ∧ ∀ H2 code, TabX gp P H1 H2 code →
  ∃ c' P', code = .ref c' ∧ ∃ W : Nat → Nat → Hp → Prop, (∃ m, W 0 m H2) ∧ tTurn b0 J (g c' P') (tt c' P') (te c' P') (wipe σ vs) vs W (Q (.bl b0)) (Q (.bl (!b0)))

/-- what the generator's scope must be -/
structure GenOk (N : List Str) (sc scope : Scope) (own : List (Str × Nat)) : Prop where
  blk : BlkOk N sc scope own
  co : scope.isCoroutine = false
  cell : ∀ y ∈ scope.names, y.2 ≠ .cell
  dot : scope.names.lookup (".0" : Str) = some NameKind.local

section
variable {X : Cx} {pins : List (Addr × Obj)} {σ : L2.St} {H : Hp} {s : Shared}

theorem gen_made {c P : Addr} {elt tg iter : Expr} {ifs : List Expr} {scope : Scope} {own : List (Str × Nat)} {gpos : Pos} {wi : TI} {g : Addr → Addr → TG} {tt : Addr → Addr → TT} {te : Addr → Addr → TE} {k : Nat} {b0 : Bool} {Q : VK} {Q' : Value → Shared → Prop}
    (hr : Room k X.A) (hc : X.calm = true) (hN : X.N.Nodup) (TB : ∃ P0, X.base.BuiltinsAt X.mg P0) (hcode : X.env.code = .ref c) (S : GenOk X.N X.env.scope scope own) (hi : PI X tg iter wi)
    (pg : ∀ (s : Shared) (H : Hp) (C : Addr) (c' P' : Addr) (fp : List Addr) (go : Addr × Obj), PG (CxGen X s H (genEnv scope (cloFrom X.env.cells scope.names []) C (.ref c') builtinsNs X.env) fp go) tg (g c' P'))
    (pt : ∀ (s : Shared) (H : Hp) (C : Addr) (c' P' : Addr) (fp : List Addr) (go : Addr × Obj), PTs (CxGen X s H (genEnv scope (cloFrom X.env.cells scope.names []) C (.ref c') builtinsNs X.env) fp go) ifs (tt c' P'))
    (pe : ∀ (s : Shared) (H : Hp) (C : Addr) (c' P' : Addr) (fp : List Addr) (go : Addr × Obj), PE (CxGen X s H (genEnv scope (cloFrom X.env.cells scope.names []) C (.ref c') builtinsNs X.env) fp go) elt (te c' P'))
    (hs : ∀ v, genFold iter X.env v = pure v) (I : Inv X pins σ H s) (h : tGen b0 X.base c P gpos wi g tt te (own.map (·.2)) σ H Q)
    (hQ : ∀ (s3 : Shared) (H3 : Hp) (cenv : Env) (fp : List Addr) (a : Addr) (go : Obj) (gn : Nat) (m : Nat) (s5 : Shared),
      (∀ h : Heap, h.get? a = some go → h.IsGen a gn) → s5.heap.IsGen a gn → s5.heap.NoLimit →
      (∀ (H' : Hp) (σ' : L2.St) (s' : Shared), Inv (CxGen X s3 H3 cenv fp (a, go)) [] σ' H' s' → Inv X pins σ H' s') →
      (∃ gs, s5.gens[gn]? = some gs ∧ gs.Goes (model X.prog X.w) X.A.in1.in1 (GRx (CxGen X s3 H3 cenv fp (a, go)) (Q (.bl b0))) (GYx (CxGen X s3 H3 cenv fp (a, go)) (wipe σ (own.map (·.2))) b0 (Q (.bl (!b0)))) (m + 1) (.send .none) (s5.setGen gn .running)) →
      Q' (.ref a) s5) :
    wpAny (model X.prog X.w) X.A (eval (.GeneratorExp elt [⟨tg, iter, ifs, 0⟩] scope gpos) X.env) Q' X.xe s := by
  have hfree : ∀ y ∈ scope.names, y.2 = .free → ∃ c, X.env.cells.lookup y.1 = some c := fun y hy e => by
    rcases S.blk.free y hy e with k | k
    · exact I.ok.has _ (.inl k)
    · exact I.ok.has _ (.inr k)
  refine wpAny_GeneratorExp_make S.co (closure_ok hfree) S.cell S.dot S.blk.kind (by have := hr.dp; omega) ?_ hs
  refine thn (hi.run pins s σ H _ I h) fun xv s1 hx => thn hx fun itv s2 h2 => ?_
  obtain ⟨it, fp, tn, J, H2, rfl, I2, T, st2, f2, ⟨ps, hP, ht⟩, hcd, hW⟩ := h2
  have hPs : s2.heap.get? P = some { cls := .none, data := .fields ps } := I2.hok P _ hP
  have hPlt : P < s2.heap.objs.size := Heap.lt_size hPs
  have cd : PySem.W.CodeHd s2.heap c P := cdAt_hd I2 hcd
  have nfP : ∀ b ∈ fp, b ≠ P := fun b hb z => by
    have := (f2 b hb).1
    rw [z, hP] at this; cases this
  have cont : ∀ (code : Value) (h3 : Heap) (tk : Nat) (H3 : Hp), Heap.ExtBut P s2.heap h3 → s2.heap.objs.size ≤ h3.objs.size → Inv X pins σ H3 { s2 with heap := h3, toks := tk } → TabX gpos P H2 H3 code → (∀ b ∈ fp, H3 b = none) →
      wpAny (model X.prog X.w) X.A (builtinsFor X.env.globals X.env.builtins) (fun bi s₄ => ∀ h', h'.Ns s₄.heap.objs.size (fun y => if y = (".0" : Str) then some (Value.ref it) else none) → Heap.SameBut s₄.heap.objs.size (s₄.heap.push { cls := .type "frame", data := .dict #[] }) h' →
          Q' (.ref h'.objs.size) { s₄ with
            gens := s₄.gens.push (.fresh (.compStart (.GeneratorExp elt [⟨tg, iter, ifs, 0⟩] scope gpos) 0 (.ref it) .none (genEnv scope (cloFrom X.env.cells scope.names []) s₄.heap.objs.size code bi X.env))),
            toks := s₄.toks + 1 + 1 + 1,
            heap := h'.push { cls := .type "generator", data := .fields #[.int s₄.gens.size 0, .str "<genexpr>" (s₄.toks + 1), .str (X.env.qual ++ "<genexpr>") (s₄.toks + 1 + 1)] } }) X.xe { s2 with heap := h3, toks := tk } := by
    intro code h3 tk H3 hx3 hsz I3 tX hfr
    obtain ⟨P0, bm, ob, e1, e2, e3, e4, e5, e6, e7, e8⟩ := TB
    obtain ⟨c', P', rfl, W, ⟨m, w0⟩, turn⟩ := hW H3 code tX
    refine wpAny_builtinsFor (m := X.mg) (by rw [I.ok.glob]; exact I3.mod.glob.keeps I3.bk) e1 e2 (I3.bk _ _ e5) e6 e7 e8 ?_
    intro h' hn' hs'
    have hszh : h'.objs.size = h3.objs.size + 1 := by rw [hs'.1, Heap.size_push]
    generalize hgo : ({ cls := .type "generator", data := .fields #[.int s2.gens.size 0, .str "<genexpr>" (tk + 1), .str (X.env.qual ++ "<genexpr>") (tk + 1 + 1)] } : Obj) = go
    have hgen : ∀ h : Heap, h.get? h'.objs.size = some go → h.IsGen h'.objs.size s2.gens.size := fun h e => ⟨go, _, _, e, by rw [← hgo], by rw [← hgo], by rw [← hgo]⟩
    have hgot : (h'.push go).get? h'.objs.size = some go := by rw [← hgo]; exact Heap.get?_push_size _ rfl
    have f3 : ∀ b ∈ fp, FpOk X pins H3 b ∧ b < h3.objs.size := fun b hb => by
      obtain ⟨o, e, _⟩ := T.obj _ _ st2 b hb
      exact ⟨⟨hfr b hb, (f2 b hb).2⟩, Nat.lt_of_lt_of_le (Heap.lt_size e) hsz⟩
    have st3 : tn 0 h3 := T.keep _ _ _ st2 fun b hb o e => hx3 b o (nfP b hb) e
    have J5 := gen_start (code := .ref c') (go := go) (gs := .fresh (.compStart (.GeneratorExp elt [⟨tg, iter, ifs, 0⟩] scope gpos) 0 (.ref it) .none (genEnv scope (cloFrom X.env.cells scope.names []) h3.objs.size (.ref c') builtinsNs X.env))) (tk := tk + 1 + 1 + 1) I3 S.blk hN S.cell f3 rfl (fun v e => by rw [← hgo] at e; cases e) hn' hs' hgot
    have st5 : tn 0 (h'.push go) := T.keep _ _ _ st3 fun b _ o e => Heap.get?_push_of_some _ ((hs'.2 b (Nat.ne_of_lt (Heap.lt_size e))).trans (Heap.get?_push_of_some _ e))
    have hfpgo : h'.objs.size ∉ fp := fun z => by
      have := (f3 _ z).2
      rw [hszh] at this
      exact absurd (Nat.lt_of_succ_lt this) (Nat.lt_irrefl _)
    refine hQ { s2 with heap := h3, toks := tk } H3 (genEnv scope (cloFrom X.env.cells scope.names []) h3.objs.size (.ref c') builtinsNs X.env) fp h'.objs.size go s2.gens.size m _ hgen (hgen _ hgot) J5.nolimit (fun H' σ' s' I' => ?_) ⟨_, Array.getElem?_push_size .., rfl, ?_⟩
    · exact I3.call' (ch := fp) I'.os I'.base I'.hok I'.bare fun b hb => ⟨(f3 b hb).1.2.2.2.1, (f3 b hb).1.2.1, (f3 b hb).1.2.2.2.2.1, (f3 b hb).1.2.2.2.2.2⟩
    · refine seg_gxStart hc T S.co (pg _ _ _ _ P' _ _) (pt _ _ _ _ P' _ _) (pe _ _ _ _ P' _ _) turn hfpgo m _ _ H3 ?_ st5 (fun b hb => (f3 b hb).1.1) w0
      exact inv_gens J5 rfl rfl (allBare_setGen J5.bare rfl)
  refine ⟨I2.nolimit, ?_⟩
  cases hf : codeAmong gpos ps.toList with
  | none =>
    refine wpAny_genexprCodeX hcode (cd.code hPs ht) (cd.tab hPs) hf fun c' h' tk hx hge hlt hco' _ htab' hnew => ?_
    obtain ⟨P', hPge, hIs, hTab⟩ := hnew
    have cd' : PySem.W.CodeHd h' c' P' := PySem.W.CodeHd.of hIs hTab
    have hcp : c' ≠ P' := by
      obtain ⟨_, _, _, _, _, _, _, _, _, _, _, _, _, _, _, _, _, _, z⟩ := cd'
      exact z
    obtain ⟨o1, vs, f1, tf, fl, tg, inF, tx, tt, op, _, _, _, _, _, _, _, _, _, htr, _⟩ := hco'
    refine cont _ h' tk _ hx (Nat.le_trans hge (Nat.le_of_lt hlt)) (inv_tabX (t' := tk) I2 hP (fun b o hb e => hx b o hb e) htab'.2 hge hPge hcp cd' hTab.2) (.inr ⟨ps, c', P', hP, rfl, I2.hok.fresh hge, I2.hok.fresh hPge, hcp, ⟨_, cd'⟩, htr, rfl⟩) fun b hb => ?_
    obtain ⟨o, e, _⟩ := T.obj _ _ st2 b hb
    have := Heap.lt_size e
    rw [upd_ne (show b ≠ P' from fun z => absurd (Nat.lt_of_lt_of_le (z ▸ this) hPge) (Nat.lt_irrefl _)), upd_ne (show b ≠ c' from fun z => absurd (Nat.lt_of_lt_of_le (z ▸ this) hge) (Nat.lt_irrefl _)), upd_ne (nfP b hb)]
    exact (f2 b hb).1
  | some cv =>
    refine wpAny_genexprCode_hit hcode (cd.code hPs ht) hf ?_
    exact cont cv s2.heap s2.toks H2 (Heap.ExtBut.refl _ _) (Nat.le_refl _) (I2.tok _) (.inl ⟨ps, hP, hf, rfl⟩) fun b hb => (f2 b hb).1
end

theorem pe_allG {c P : Addr} {elt tg iter : Expr} {ifs : List Expr} {scope : Scope} {own : List (Str × Nat)} {p pos gpos : Pos} {wi : TI} {g : Addr → Addr → TG} {tt : Addr → Addr → TT} {te : Addr → Addr → TE} {k : Nat} {X : Cx}
    (hr : Room k X.A) (hc : X.calm = true) (hN : X.N.Nodup) (hgl : Gl X "all") (hm : X.mg "all" = none) (TB : ∃ P0, X.base.BuiltinsAt X.mg P0) (hcode : X.env.code = .ref c) (S : GenOk X.N X.env.scope scope own) (hi : PI X tg iter wi)
    (pg : ∀ (s : Shared) (H : Hp) (C : Addr) (c' P' : Addr) (fp : List Addr) (go : Addr × Obj), PG (CxGen X s H (genEnv scope (cloFrom X.env.cells scope.names []) C (.ref c') builtinsNs X.env) fp go) tg (g c' P'))
    (pt : ∀ (s : Shared) (H : Hp) (C : Addr) (c' P' : Addr) (fp : List Addr) (go : Addr × Obj), PTs (CxGen X s H (genEnv scope (cloFrom X.env.cells scope.names []) C (.ref c') builtinsNs X.env) fp go) ifs (tt c' P'))
    (pe : ∀ (s : Shared) (H : Hp) (C : Addr) (c' P' : Addr) (fp : List Addr) (go : Addr × Obj), PE (CxGen X s H (genEnv scope (cloFrom X.env.cells scope.names []) C (.ref c') builtinsNs X.env) fp go) elt (te c' P'))
    (hs : ∀ v, genFold iter X.env v = pure v)
    (he : starEach [.GeneratorExp elt [⟨tg, iter, ifs, 0⟩] scope gpos] X.env = (false, eval (.GeneratorExp elt [⟨tg, iter, ifs, 0⟩] scope gpos) X.env) :: starEach [] X.env := by rfl) :
    PE X (.Call (.Name "all" p) [.GeneratorExp elt [⟨tg, iter, ifs, 0⟩] scope gpos] [] pos) (tGen true X.base c P gpos wi g tt te (own.map (·.2))) := by
  refine ⟨fun pins s σ H Q I h => ?_⟩
  refine wpAny_Call_Name_kw (ld_blt I hgl hm (by kernel_rfl : bootBuiltins "all" = some (.builtin "all")) ?_)
  refine PyProof.Rows.callWith_builtin1 ?_ he (by rfl)
  rw [he]
  show wpAny _ _ (spliced ((false, eval (.GeneratorExp elt [⟨tg, iter, ifs, 0⟩] scope gpos) X.env) :: backTo pos (starEach [] X.env))) _ _ s
  refine Calls.spliced_cons (gen_made hr hc hN TB hcode S hi pg pt pe hs I h fun s3 H3 cenv fp a go gn m s5 hgen hg hl back gs => ?_)
  refine Calls.spliced_nil ?_
  refine call_function_tree F.kind_all F.plain_all F.entry_all (F.args_all1 _) ?_
  unfold Builtin.«all»
  refine wpAny_bind (m := oneArg "all" _) (wpAny_pure ?_)
  refine wpAny_bind (wpAny_pyIter_gen hg ?_)
  refine wpAny_pure ⟨plainId_quiet F.plain_all_loop _, drain_all hr.hd (by have := hr.dp; omega) hgen (fun H' σ' s' I' q => ?_) (fun H' σ' s' I' q => ?_) (m + 1) s5 hg hl gs⟩
  · exact ⟨.bl true, H', back _ _ _ I', rfl, q⟩
  · exact ⟨.bl (!true), H', back _ _ _ I', rfl, q⟩


theorem pe_anyG {c P : Addr} {elt tg iter : Expr} {ifs : List Expr} {scope : Scope} {own : List (Str × Nat)} {p pos gpos : Pos} {wi : TI} {g : Addr → Addr → TG} {tt : Addr → Addr → TT} {te : Addr → Addr → TE} {k : Nat} {X : Cx}
    (hr : Room k X.A) (hc : X.calm = true) (hN : X.N.Nodup) (hgl : Gl X "any") (hm : X.mg "any" = none) (TB : ∃ P0, X.base.BuiltinsAt X.mg P0) (hcode : X.env.code = .ref c) (S : GenOk X.N X.env.scope scope own) (hi : PI X tg iter wi)
    (pg : ∀ (s : Shared) (H : Hp) (C : Addr) (c' P' : Addr) (fp : List Addr) (go : Addr × Obj), PG (CxGen X s H (genEnv scope (cloFrom X.env.cells scope.names []) C (.ref c') builtinsNs X.env) fp go) tg (g c' P'))
    (pt : ∀ (s : Shared) (H : Hp) (C : Addr) (c' P' : Addr) (fp : List Addr) (go : Addr × Obj), PTs (CxGen X s H (genEnv scope (cloFrom X.env.cells scope.names []) C (.ref c') builtinsNs X.env) fp go) ifs (tt c' P'))
    (pe : ∀ (s : Shared) (H : Hp) (C : Addr) (c' P' : Addr) (fp : List Addr) (go : Addr × Obj), PE (CxGen X s H (genEnv scope (cloFrom X.env.cells scope.names []) C (.ref c') builtinsNs X.env) fp go) elt (te c' P'))
    (hs : ∀ v, genFold iter X.env v = pure v)
    (he : starEach [.GeneratorExp elt [⟨tg, iter, ifs, 0⟩] scope gpos] X.env = (false, eval (.GeneratorExp elt [⟨tg, iter, ifs, 0⟩] scope gpos) X.env) :: starEach [] X.env := by rfl) :
    PE X (.Call (.Name "any" p) [.GeneratorExp elt [⟨tg, iter, ifs, 0⟩] scope gpos] [] pos) (tGen false X.base c P gpos wi g tt te (own.map (·.2))) := by
  refine ⟨fun pins s σ H Q I h => ?_⟩
  refine wpAny_Call_Name_kw (ld_blt I hgl hm (by kernel_rfl : bootBuiltins "any" = some (.builtin "any")) ?_)
  refine PyProof.Rows.callWith_builtin1 ?_ he (by rfl)
  rw [he]
  show wpAny _ _ (spliced ((false, eval (.GeneratorExp elt [⟨tg, iter, ifs, 0⟩] scope gpos) X.env) :: backTo pos (starEach [] X.env))) _ _ s
  refine Calls.spliced_cons (gen_made hr hc hN TB hcode S hi pg pt pe hs I h fun s3 H3 cenv fp a go gn m s5 hgen hg hl back gs => ?_)
  refine Calls.spliced_nil ?_
  refine call_function_tree F.kind_any F.plain_any F.entry_any (F.args_any1 _) ?_
  unfold Builtin.«any»
  refine wpAny_bind (m := oneArg "any" _) (wpAny_pure ?_)
  refine wpAny_bind (wpAny_pyIter_gen hg ?_)
  refine wpAny_pure ⟨plainId_quiet F.plain_any_loop _, drain_any hr.hd (by have := hr.dp; omega) hgen (fun H' σ' s' I' q => ?_) (fun H' σ' s' I' q => ?_) (m + 1) s5 hg hl gs⟩
  · exact ⟨.bl false, H', back _ _ _ I', rfl, q⟩
  · exact ⟨.bl (!false), H', back _ _ _ I', rfl, q⟩

end Gx

set_option maxHeartbeats 4000000
/-! all and any over a generator expression of two clauses. -/
namespace Gx
open PySem PySem.Spec PyProof.Rows L2 GxR GenW
theorem wipe_setG {σ : L2.St} {i : Nat} {x : Option V} {vs : List Nat} (h : i ∈ vs) : wipe (σ.set i x) vs = wipe σ vs := by
  induction vs with
  | nil => cases h
  | cons v vs ih =>
    unfold wipe
    by_cases hi : i ∈ vs
    · rw [ih hi]
    · have hv : i = v := by
        rcases List.mem_cons.mp h with z | z
        · exact z
        · exact absurd z hi
      subst hv
      have : ∀ (us : List Nat) , i ∉ us → wipe (σ.set i x) us = (wipe σ us).set i x := by
        intro us
        induction us with
        | nil => intro _; rfl
        | cons u us ih2 =>
          intro hn
          unfold wipe
          rw [ih2 (fun z => hn (List.mem_cons_of_mem _ z))]
          exact List.set_comm _ _ (fun e => hn (by rw [e]; exact List.mem_cons_self))
      rw [this vs hi, List.set_set]
theorem wipe_idemG {σ : L2.St} (vs : List Nat) : wipe (wipe σ vs) vs = wipe σ vs := by
  have : ∀ us : List Nat, (∀ i ∈ us, i ∈ vs) → wipe (wipe σ us) vs = wipe σ vs := by
    intro us
    induction us with
    | nil => intro _; rfl
    | cons u us ih =>
      intro h
      show wipe ((wipe σ us).set u none) vs = _
      rw [wipe_setG (h u List.mem_cons_self)]
      exact ih fun i hi => h i (List.mem_cons_of_mem _ hi)
  exact this vs fun i hi => hi
theorem over_in {A : Around} {e : Expr} {gs : List Comprehension} {sc : Scope} {pos p : Pos} {it it0 acc acc0 : Value} {env : Env} {k g l} : A.over (.compLoop (.GeneratorExp e gs sc pos) 1 it acc env) [.ret k none g l (.compLoop (.GeneratorExp e gs sc pos) 0 it0 acc0 env) p []] = A.deeper env := by
  unfold Around.over Around.deeper
  cases h1 : A.frames <;> cases h2 : A.guards <;> rfl
theorem over_inS {A : Around} {e : Expr} {gs : List Comprehension} {sc : Scope} {pos p : Pos} {it it0 acc acc0 : Value} {env : Env} {k g l} : A.over (.compStart (.GeneratorExp e gs sc pos) 1 it acc env) [.ret k none g l (.compLoop (.GeneratorExp e gs sc pos) 0 it0 acc0 env) p []] = A.deeper env := by
  unfold Around.over Around.deeper
  cases h1 : A.frames <;> cases h2 : A.guards <;> rfl
theorem compTurn_g2o (elt t0 i0 t1 i1 : Expr) (ifs0 ifs1 : List Expr) (scope : Scope) (pos : Pos) (it acc : Value) (env : Env) :
    compTurn (.GeneratorExp elt [⟨t0, i0, ifs0, 0⟩, ⟨t1, i1, ifs1, 0⟩] scope pos) 0 it acc env = (do
      standAt i0.pos
      match ← pyNext it with
      | none => pure (.done .next)
      | some v =>
        letOwnedTupleGo t0 it v
        assign t0 env v
        let mut ok := true
        for c in ifs0 do
          if ok then ok ← isTrue c env (eval c env)
        if ok then
          let x ← eval i1 env
          standAt i1.pos
          let x ← foldedSetIterable i1 env x
          let _ ← runOwn (.compStart (.GeneratorExp elt [⟨t0, i0, ifs0, 0⟩, ⟨t1, i1, ifs1, 0⟩] scope pos) 1 (← holding [x] (pyIter x)) acc env) env
        again (.compLoop (.GeneratorExp elt [⟨t0, i0, ifs0, 0⟩, ⟨t1, i1, ifs1, 0⟩] scope pos) 0 it acc env)) := by rfl
theorem compTurn_g2i (elt t0 i0 t1 i1 : Expr) (ifs0 ifs1 : List Expr) (scope : Scope) (pos : Pos) (it acc : Value) (env : Env) :
    compTurn (.GeneratorExp elt [⟨t0, i0, ifs0, 0⟩, ⟨t1, i1, ifs1, 0⟩] scope pos) 1 it acc env = (do
      standAt i1.pos
      match ← pyNext it with
      | none => pure (.done .next)
      | some v =>
        letOwnedTupleGo t1 it v
        assign t1 env v
        let mut ok := true
        for c in ifs1 do
          if ok then ok ← isTrue c env (eval c env)
        if ok then
          (do let v ← eval elt env; standAt elt.pos; let _ ← yieldOut env v)
        again (.compLoop (.GeneratorExp elt [⟨t0, i0, ifs0, 0⟩, ⟨t1, i1, ifs1, 0⟩] scope pos) 1 it acc env)) := by rfl
theorem seg_bind_at {M : Model} {A A' : Around} {R : GenEnd} {Y : Protocol} {n : Nat} {s₀ : Shared} {c : Code} {fs : List Frame} {s : Shared} {α β : Type} {m : Sem α} {K : α → Sem β} {K' : β → Sem PySem.Fin} {H' : Value → Sem PySem.Fin} {gd lv} (ho : A.over c fs = A')
    (h : wpAny M A' m (fun a s' => Seg M A R Y n s₀ c ((K a).wrap K' H' gd lv) fs s') (fun x s' => Seg M A R Y n s₀ c (H' x) fs s') s) : Seg M A R Y n s₀ c ((m >>= K).wrap K' H' gd lv) fs s := by
  subst ho
  exact seg_bind_wrap h
theorem seg_at_wrap {M : Model} {A A' : Around} {R : GenEnd} {Y : Protocol} {n : Nat} {s₀ : Shared} {c : Code} {fs : List Frame} {s : Shared} {α : Type} {m : Sem α} {K' : α → Sem PySem.Fin} {H' : Value → Sem PySem.Fin} {gd lv} (ho : A.over c fs = A')
    (h : wpAny M A' m (fun a s' => Seg M A R Y n s₀ c (K' a) fs s') (fun x s' => Seg M A R Y n s₀ c (H' x) fs s') s) : Seg M A R Y n s₀ c (m.wrap K' H' gd lv) fs s := by
  subst ho
  exact seg_wrap h
section
variable {P : Program} {w : World} {K : PySem.W.Frag}
/-- the inner loop; Pn: what is pinned of the outer one -/
theorem seg_inner {X : Cx} {s3 : Shared} {H3 : Hp} {cenv : Env} {fp0 : List Addr} {fp : List Addr} {gob : Addr × Obj} {Pn : List (Addr × Obj)} {elt t0 i0 t1 i1 : Expr} {ifs0 ifs1 : List Expr} {scope : Scope} {pos p0 : Pos} {it0 : Value} {it : Addr} {tn : Nat → Heap → Prop} {J : It} {g : TG} {tt : TT} {te : TE} {σ : L2.St} {vs : List Nat}
    {W : Nat → Nat → Hp → Prop} {Nx Qs : Hp → Prop} {b0 : Bool} {Rr : GenEnd} {σY : L2.St} {k : Result → Sem PySem.Fin} {l : List Value} (hc : X.calm = true) (T : Turn X.prog X.w X.K t1 J fp it tn)
    (hco : cenv.scope.isCoroutine = false)
    (pg : PG (CxGen X s3 H3 cenv fp0 gob) t1 g) (pt : PTs (CxGen X s3 H3 cenv fp0 gob) ifs1 tt) (pe : PE (CxGen X s3 H3 cenv fp0 gob) elt te)
    (turn : ∀ i m H, W i m H → (J.stop i H ∧ Nx H) ∨ (J.go i H ∧ ∃ Nx1 : Hp → Prop, (∀ H', Nx1 H' → ∃ m', m' < m ∧ W (i + 1) m' H') ∧
      ∀ x H', J.yld i H x H' → g x (wipe σ vs) H' fun σ2 H2 => wipe σ2 vs = wipe σ vs ∧ tt σ2 H2 fun b H3 => if b = true then te σ2 H3 fun y H4 => ∃ c, y = .bl c ∧ (if c = b0 then Nx1 H4 else Qs H4) else Nx1 H3))
    (stat : ∀ {σ' : L2.St} {H' : Hp} {s' : Shared}, Inv (CxGen X s3 H3 cenv fp0 gob) Pn σ' H' s' → (∀ b ∈ fp, H' b = none) → ∀ b ∈ fp, FpOk (CxGen X s3 H3 cenv fp0 gob) Pn H' b) (mo : Nat)
    (out : ∀ (n' : Nat) (s₀ s' : Shared) (H' : Hp) (σ' : L2.St), mo < n' → Inv (CxGen X s3 H3 cenv fp0 gob) Pn σ' H' s' → wipe σ' vs = wipe σ vs → Nx H' →
      Seg (model X.prog X.w) X.A.in1.in1 Rr (GYx (CxGen X s3 H3 cenv fp0 gob) σY b0 Qs) n' s₀ (.compLoop (.GeneratorExp elt [⟨t0, i0, ifs0, 0⟩, ⟨t1, i1, ifs1, 0⟩] scope pos) 0 it0 .none cenv) (k (.ok .next)) [] s') :
    ∀ (m n i : Nat) (s₀ s5 : Shared) (H5 : Hp), m + mo < n → Inv (CxGen X s3 H3 cenv fp0 gob) Pn (wipe σ vs) H5 s5 → tn i s5.heap → (∀ b ∈ fp, H5 b = none) → W i m H5 →
      Seg (model X.prog X.w) X.A.in1.in1 Rr (GYx (CxGen X s3 H3 cenv fp0 gob) σY b0 Qs) n s₀
        (.compLoop (.GeneratorExp elt [⟨t0, i0, ifs0, 0⟩, ⟨t1, i1, ifs1, 0⟩] scope pos) 1 (.ref it) .none cenv)
        ((model X.prog X.w).den (.compLoop (.GeneratorExp elt [⟨t0, i0, ifs0, 0⟩, ⟨t1, i1, ifs1, 0⟩] scope pos) 1 (.ref it) .none cenv))
        [.ret k none false l (.compLoop (.GeneratorExp elt [⟨t0, i0, ifs0, 0⟩, ⟨t1, i1, ifs1, 0⟩] scope pos) 0 it0 .none cenv) p0 []] s5 := by
  intro m
  induction m using Nat.strongRecOn with
  | ind m ih =>
    intro n i s₀ s5 H5 hmn I5 st5 n5 w5
    show Seg _ X.A.in1.in1 _ _ _ s₀ _ ((compTurn (.GeneratorExp elt [⟨t0, i0, ifs0, 0⟩, ⟨t1, i1, ifs1, 0⟩] scope pos) 1 (.ref it) .none cenv).onRaise (fun x => do noteFrame x cenv; theTreesLotGoes x)) _ s5
    rw [compTurn_g2i, Sem.onRaise_eq_wrap]
    refine seg_bind_at over_in (wpAny_standAt ?_)
    rcases turn i m H5 w5 with ⟨stop, qq⟩ | ⟨go, Nx1, hNx, step⟩
    · refine seg_bind_at over_in (thnF (T.done (CxGen X s3 H3 cenv fp0 gob) rfl rfl rfl hc i Pn s5 _ H5 (fun _ _ => False) I5 (stat I5 n5) st5 stop) fun r s6 ⟨hr, I6⟩ => ?_)
      subst hr
      exact seg_leaf (.ok .next) (out n s₀ s6 H5 _ (by omega) I6 (by rw [wipe_idemG]) qq)
    · refine seg_bind_at over_in (thnF (T.item (CxGen X s3 H3 cenv fp0 gob) rfl rfl rfl hc i Pn s5 _ H5 (fun _ _ => False) I5 (stat I5 n5) st5 go) fun r s6 ⟨u, hr, h6⟩ => ?_)
      subst hr
      refine seg_bind_at over_in (thnF h6 fun _ s7 ⟨x, H7, I7, r7, y7, st7, n7⟩ => ?_)
      have I7' := I7.pinned (stat I7 n7) (T.obj _ _ st7)
      refine seg_bind_at over_in (thnF (pg.run _ s7 _ H7 x u _ I7' r7 (step x H7 y7)) fun _ s8 ⟨σ8, H8, I8, hw8, q8⟩ => ?_)
      refine seg_bind_at over_in (thnF (pt.run _ s8 σ8 H8 _ I8 q8) fun b s9 ⟨H9, I9, q9⟩ => ?_)
      have fin : ∀ {s' : Shared} {H' : Hp}, Inv (CxGen X s3 H3 cenv fp0 gob) (Pn ++ pinsAt fp s7.heap) σ8 H' s' → Nx1 H' → ∃ m', m' < m ∧ Inv (CxGen X s3 H3 cenv fp0 gob) Pn (wipe σ vs) H' s' ∧ tn (i + 1) s'.heap ∧ (∀ b ∈ fp, H' b = none) ∧ W (i + 1) m' H' := fun {s' H'} I' nx => by
        obtain ⟨m', hm, w'⟩ := hNx H' nx
        have pin' : ∀ b ∈ fp, ∀ o, s7.heap.get? b = some o → s'.heap.get? b = some o ∧ H' b = none := fun b hb o e =>
          let z := I'.pin (b, o) (List.mem_append_right _ (List.mem_append_right _ (mem_pinsAt hb e)))
          ⟨z.1, z.2.1⟩
        have hl : (wipe σ vs).length = σ8.length := by rw [← hw8, wipe_length]
        refine ⟨m', hm, (I'.unpinned (pins := Pn)).weak hl (fun j v e => ?_), T.keep _ _ _ st7 fun b hb o e => (pin' b hb o e).1, fun b hb => ?_, w'⟩
        · rw [← hw8] at e
          exact (wipe_some e).1
        · obtain ⟨o, e, _⟩ := T.obj _ _ st7 b hb
          exact (pin' b hb o e).2
      cases b with
      | false =>
        simp only [Bool.false_eq_true, if_false] at q9 ⊢
        obtain ⟨m', hm, I', st', n', w'⟩ := fin I9 q9
        exact seg_again rfl (ih m' hm n (i + 1) s₀ s9 H9 (by omega) I' st' n' w')
      | true =>
        simp only [if_true] at q9 ⊢
        have hy : ∀ v, yieldOut cenv v = yieldValue v := fun v => by simp only [yieldOut, hco, Bool.false_eq_true, if_false]
        simp only [hy]
        rw [Sem.bind_eq_wrap', Sem.bind_eq_wrap', Sem.wrap_wrap, Sem.wrap_wrap]
        refine seg_at_wrap over_in (thnF (pe.run _ s9 σ8 H9 _ I9 q9) fun z s10 ⟨yv, H10, I10, r10, c, hyc, q10⟩ => ?_)
        subst hyc
        have ez : z = Value.bool c := r10
        subst ez
        by_cases hcb : c = b0
        · rw [if_pos hcb] at q10
          obtain ⟨m', hm, I', st', n', w'⟩ := fin I10 q10
          obtain ⟨n, rfl⟩ : ∃ k, n = k + 1 := ⟨n - 1, by omega⟩
          refine seg_at (seg_yield rfl rfl rfl ⟨c, H10, _, rfl, I'.pins_of (fun p hp => by cases hp), fun h => absurd hcb h, fun _ s'' hh ho hg => ?_⟩)
          have I'' := inv_gens I' hh ho hg
          exact seg_again rfl (ih m' hm n (i + 1) s'' s'' H10 (by omega) I'' (by rw [hh]; exact st') n' w')
        · rw [if_neg hcb] at q10
          obtain ⟨n, rfl⟩ : ∃ k, n = k + 1 := ⟨n - 1, by omega⟩
          exact seg_at (seg_yield rfl rfl rfl ⟨c, H10, _, rfl, I10.pins_of (fun p hp => by cases hp), fun _ => q10, fun h => absurd h hcb⟩)

def tTurn2 (b0 : Bool) (J : It) (g : TG) (tt : TT) (wi1 : TI) (g1 : TG) (tt1 : TT) (te : TE) (σ0 : L2.St) (vs vs1 : List Nat) (W : Nat → Nat → Hp → Prop) (Qt Qs : Hp → Prop) : Prop :=
  ∀ i m H, W i m H → (J.stop i H ∧ Qt H) ∨ (J.go i H ∧ ∃ (kk mo : Nat) (Nx : Hp → Prop), kk + mo < m ∧ (∀ H', Nx H' → W (i + 1) mo H') ∧
    ∀ x H', J.yld i H x H' → g x σ0 H' fun σ2 H2 => wipe σ2 vs = σ0 ∧ tt σ2 H2 fun b H3 => if b = true then wi1 σ2 H3 fun J1 H4 => ∃ W1 : Nat → Nat → Hp → Prop, (∃ k, k ≤ kk ∧ W1 0 k H4) ∧ ∀ j k H, W1 j k H →
      (J1.stop j H ∧ Nx H) ∨ (J1.go j H ∧ ∃ Nx1 : Hp → Prop, (∀ H', Nx1 H' → ∃ k', k' < k ∧ W1 (j + 1) k' H') ∧
        ∀ x H', J1.yld j H x H' → g1 x (wipe σ2 vs1) H' fun σ3 H5 => wipe σ3 vs1 = wipe σ2 vs1 ∧ tt1 σ3 H5 fun b H6 => if b = true then te σ3 H6 fun y H7 => ∃ c, y = .bl c ∧ (if c = b0 then Nx1 H7 else Qs H7) else Nx1 H6) else Nx H3)
theorem seg_gx2 {X : Cx} {s3 : Shared} {H3 : Hp} {cenv : Env} {fp : List Addr} {gob : Addr × Obj} {elt t0 i0 t1 i1 : Expr} {ifs0 ifs1 : List Expr} {scope : Scope} {pos : Pos} {it : Addr} {tn : Nat → Heap → Prop} {J : It} {g g1 : TG} {tt tt1 : TT} {te : TE} {wi1 : TI} {σ : L2.St} {vs vs1 : List Nat}
    {W : Nat → Nat → Hp → Prop} {Qt Qs : Hp → Prop} {b0 : Bool} (hc : X.calm = true) (T : Turn X.prog X.w X.K t0 J fp it tn)
    (hco : cenv.scope.isCoroutine = false) (hv : ∀ i ∈ vs1, i ∈ vs)
    (pg : PG (CxGen X s3 H3 cenv fp gob) t0 g) (pt : PTs (CxGen X s3 H3 cenv fp gob) ifs0 tt) (pi1 : PI (CxGen X s3 H3 cenv fp gob) t1 i1 wi1) (pg1 : PG (CxGen X s3 H3 cenv fp gob) t1 g1) (pt1 : PTs (CxGen X s3 H3 cenv fp gob) ifs1 tt1) (pe : PE (CxGen X s3 H3 cenv fp gob) elt te)
    (hs1 : ∀ x, foldedSetIterable i1 cenv x = pure x)
    (turn : tTurn2 b0 J g tt wi1 g1 tt1 te (wipe σ vs) vs vs1 W Qt Qs) (hfpgo : gob.1 ∉ fp) :
    ∀ (m n i : Nat) (s₀ s5 : Shared) (H5 : Hp), m < n → Inv (CxGen X s3 H3 cenv fp gob) [] (wipe σ vs) H5 s5 → tn i s5.heap → (∀ b ∈ fp, H5 b = none) → W i m H5 →
      Seg (model X.prog X.w) X.A.in1.in1 (GRx (CxGen X s3 H3 cenv fp gob) Qt) (GYx (CxGen X s3 H3 cenv fp gob) (wipe σ vs) b0 Qs) n s₀
        (.compLoop (.GeneratorExp elt [⟨t0, i0, ifs0, 0⟩, ⟨t1, i1, ifs1, 0⟩] scope pos) 0 (.ref it) .none cenv)
        ((model X.prog X.w).den (.compLoop (.GeneratorExp elt [⟨t0, i0, ifs0, 0⟩, ⟨t1, i1, ifs1, 0⟩] scope pos) 0 (.ref it) .none cenv)) [] s5 := by
  have stat : ∀ {σ' : L2.St} {H' : Hp} {s' : Shared}, Inv (CxGen X s3 H3 cenv fp gob) [] σ' H' s' → (∀ b ∈ fp, H' b = none) → ∀ b ∈ fp, FpOk (CxGen X s3 H3 cenv fp gob) [] H' b := fun {σ' H' s'} I' hn b hb =>
    ⟨hn b hb, (I'.ok.exf b hb).1, I'.ok.exfs b hb, .inl hb, fun x c e => (I'.ok.exf b hb).2 x c e, fun p hp => by
      have e : p = gob := by simpa using hp
      subst e
      exact fun z => hfpgo (z ▸ hb)⟩
  intro m
  induction m using Nat.strongRecOn with
  | ind m ih =>
    intro n i s₀ s5 H5 hmn I5 st5 n5 w5
    show Seg _ X.A.in1.in1 _ _ _ s₀ _ ((compTurn (.GeneratorExp elt [⟨t0, i0, ifs0, 0⟩, ⟨t1, i1, ifs1, 0⟩] scope pos) 0 (.ref it) .none cenv).onRaise (leaving cenv)) [] s5
    rw [compTurn_g2o, Sem.onRaise_eq_wrap]
    refine seg_bind_wrap (wpAny_standAt ?_)
    rcases turn i m H5 w5 with ⟨stop, qq⟩ | ⟨go, kk, mo, Nx, hkm, hNx, step⟩
    · refine seg_bind_wrap (thnF (T.done (CxGen X s3 H3 cenv fp gob) rfl rfl rfl hc i [] s5 _ H5 (fun _ _ => False) I5 (stat I5 n5) st5 stop) fun r s6 ⟨hr, I6⟩ => ?_)
      subst hr
      exact seg_end (.ok .next) ⟨rfl, H5, _, I6, qq⟩
    · refine seg_bind_wrap (thnF (T.item (CxGen X s3 H3 cenv fp gob) rfl rfl rfl hc i [] s5 _ H5 (fun _ _ => False) I5 (stat I5 n5) st5 go) fun r s6 ⟨u, hr, h6⟩ => ?_)
      subst hr
      refine seg_bind_wrap (thnF h6 fun _ s7 ⟨x, H7, I7, r7, y7, st7, n7⟩ => ?_)
      have I7' := I7.pinned (stat I7 n7) (T.obj _ _ st7)
      refine seg_bind_wrap (thnF (pg.run _ s7 _ H7 x u _ I7' r7 (step x H7 y7)) fun _ s8 ⟨σ8, H8, I8, hw8, q8⟩ => ?_)
      refine seg_bind_wrap (thnF (pt.run _ s8 σ8 H8 _ I8 q8) fun b s9 ⟨H9, I9, q9⟩ => ?_)
      have fin : ∀ {σ9 : L2.St} {s' : Shared} {H' : Hp}, Inv (CxGen X s3 H3 cenv fp gob) ([] ++ pinsAt fp s7.heap) σ9 H' s' → (wipe σ vs).length = σ9.length → (∀ (j : Nat) v, (wipe σ vs)[j]? = some (some v) → σ9[j]? = some (some v)) → Nx H' →
          Inv (CxGen X s3 H3 cenv fp gob) [] (wipe σ vs) H' s' ∧ tn (i + 1) s'.heap ∧ (∀ b ∈ fp, H' b = none) ∧ W (i + 1) mo H' := fun {σ9 s' H'} I' hl hk nx => by
        have pin' : ∀ b ∈ fp, ∀ o, s7.heap.get? b = some o → s'.heap.get? b = some o ∧ H' b = none := fun b hb o e =>
          let z := I'.pin (b, o) (List.mem_append_right _ (List.mem_append_right _ (mem_pinsAt hb e)))
          ⟨z.1, z.2.1⟩
        refine ⟨(I'.unpinned (pins := [])).weak hl hk, T.keep _ _ _ st7 fun b hb o e => (pin' b hb o e).1, fun b hb => ?_, hNx H' nx⟩
        obtain ⟨o, e, _⟩ := T.obj _ _ st7 b hb
        exact (pin' b hb o e).2
      have hl8 : (wipe σ vs).length = σ8.length := by rw [← hw8, wipe_length]
      have hk8 : ∀ (j : Nat) v, (wipe σ vs)[j]? = some (some v) → σ8[j]? = some (some v) := fun j v e => by
        rw [← hw8] at e
        exact (wipe_some e).1
      have hk9 : ∀ (j : Nat) v, (wipe σ vs)[j]? = some (some v) → (wipe σ8 vs1)[j]? = some (some v) := fun j v e => by
        rw [← hw8] at e
        obtain ⟨e1, e2⟩ := wipe_some e
        rw [wipe_out fun z => e2 (hv j z)]
        exact e1
      cases b with
      | false =>
        simp only [Bool.false_eq_true, if_false] at q9 ⊢
        obtain ⟨I', st', n', w'⟩ := fin I9 hl8 hk8 q9
        exact seg_again rfl (ih mo (by omega) n (i + 1) s₀ s9 H9 (by omega) I' st' n' w')
      | true =>
        simp only [if_true] at q9 ⊢
        refine seg_bind_wrap (thnF (pi1.run _ s9 σ8 H9 _ I9 q9) fun xv s10 hx => ?_)
        refine seg_bind_wrap (wpAny_standAt ?_)
        refine seg_bind_wrap (wpAny_of_eq (hs1 xv) ?_)
        refine seg_bind_wrap (wpAny_holding (thnF hx fun itv s11 h11 => ?_))
        obtain ⟨it1, fp1, tn1, J1, H11, e1, I11, T1, st11, f11, W1, ⟨m1, hm1, w1⟩, turn1⟩ := h11
        subst e1
        refine seg_call (c' := .compStart (.GeneratorExp elt [⟨t0, i0, ifs0, 0⟩, ⟨t1, i1, ifs1, 0⟩] scope pos) 1 (.ref it1) .none cenv) (h := none) (g := false) (l := _) fun p0 => ?_
        have stat1 : ∀ {σ' : L2.St} {H' : Hp} {s' : Shared}, Inv (CxGen X s3 H3 cenv fp gob) ([] ++ pinsAt fp s7.heap) σ' H' s' → (∀ b ∈ fp1, H' b = none) → ∀ b ∈ fp1, FpOk (CxGen X s3 H3 cenv fp gob) ([] ++ pinsAt fp s7.heap) H' b := fun {σ' H' s'} _ hn b hb => ⟨hn b hb, (f11 b hb).2⟩
        have loop1 := fun (k : Result → Sem PySem.Fin) (l : List Value) out => seg_inner (Rr := GRx (CxGen X s3 H3 cenv fp gob) Qt) (σY := wipe σ vs) (i0 := i0) (t0 := t0) (ifs0 := ifs0) (i1 := i1) (scope := scope) (pos := pos) (p0 := p0) (it0 := .ref it) (k := k) (l := l) hc T1 hco pg1 pt1 pe turn1 stat1 mo out m1 n 0 s₀ s11 H11 (by omega) (I11.weak (wipe_length _ _) (fun j v e => (wipe_some e).1)) st11 (fun b hb => (f11 b hb).1) w1
        show Seg _ X.A.in1.in1 _ _ _ s₀ _ ((compStart (.GeneratorExp elt [⟨t0, i0, ifs0, 0⟩, ⟨t1, i1, ifs1, 0⟩] scope pos) 1 (.ref it1) .none cenv).onRaise (fun x => do noteFrame x cenv; standAt theWindowsPlace)) _ s11
        unfold compStart
        rw [Sem.onRaise_eq_wrap]
        show Seg _ X.A.in1.in1 _ _ _ s₀ _ ((ask >>= _).wrap _ _ _ _) _ s11
        refine seg_bind_at over_inS (wpAny_askSetting ?_)
        have out : ∀ (n' : Nat) (s₀' s' : Shared) (H' : Hp) (σ' : L2.St), mo < n' → Inv (CxGen X s3 H3 cenv fp gob) ([] ++ pinsAt fp s7.heap) σ' H' s' → wipe σ' vs1 = wipe σ8 vs1 → Nx H' →
            Seg (model X.prog X.w) X.A.in1.in1 (GRx (CxGen X s3 H3 cenv fp gob) Qt) (GYx (CxGen X s3 H3 cenv fp gob) (wipe σ vs) b0 Qs) n' s₀' (.compLoop (.GeneratorExp elt [⟨t0, i0, ifs0, 0⟩, ⟨t1, i1, ifs1, 0⟩] scope pos) 0 (.ref it) .none cenv) (.pure (.again (.compLoop (.GeneratorExp elt [⟨t0, i0, ifs0, 0⟩, ⟨t1, i1, ifs1, 0⟩] scope pos) 0 (.ref it) .none cenv))) [] s' := fun n' s₀' s' H' σ' hm I' hw nx => by
          have hl : σ'.length = σ8.length := by rw [← wipe_length σ' vs1, hw, wipe_length]
          obtain ⟨I2, st', n2, w'⟩ := fin I' (by rw [hl8, hl]) (fun j v e => by
            have e2 := hk9 j v e
            rw [← hw] at e2
            exact (wipe_some e2).1) nx
          exact seg_again rfl (ih mo (by omega) n' (i + 1) s₀' s' H' hm I2 st' n2 w')
        split
        · exact seg_again rfl (loop1 _ _ out)
        · first
            | exact seg_bind_at over_inS (wpAny_rule (seg_bind_at over_inS (wpAny_standAt (seg_bind_at over_inS (T1.self _ 0 s11 _ _ st11 (seg_again rfl (loop1 _ _ out)))))))
            | (refine seg_bind_at over_inS (wpAny_rule ?_); show Seg _ X.A.in1.in1 _ _ _ s₀ _ ((standAt i1.pos >>= _).wrap _ _ _ _) _ s11; exact seg_bind_at over_inS (wpAny_standAt (seg_bind_at over_inS (T1.self _ 0 s11 _ _ st11 (seg_again rfl (loop1 _ _ out))))))
theorem seg_gx2Start {X : Cx} {s3 : Shared} {H3 : Hp} {cenv : Env} {fp : List Addr} {gob : Addr × Obj} {elt t0 i0 t1 i1 : Expr} {ifs0 ifs1 : List Expr} {scope : Scope} {pos : Pos} {it : Addr} {tn : Nat → Heap → Prop} {J : It} {g g1 : TG} {tt tt1 : TT} {te : TE} {wi1 : TI} {σ : L2.St} {vs vs1 : List Nat}
    {W : Nat → Nat → Hp → Prop} {Qt Qs : Hp → Prop} {b0 : Bool} (hc : X.calm = true) (T : Turn X.prog X.w X.K t0 J fp it tn)
    (hco : cenv.scope.isCoroutine = false) (hv : ∀ i ∈ vs1, i ∈ vs)
    (pg : PG (CxGen X s3 H3 cenv fp gob) t0 g) (pt : PTs (CxGen X s3 H3 cenv fp gob) ifs0 tt) (pi1 : PI (CxGen X s3 H3 cenv fp gob) t1 i1 wi1) (pg1 : PG (CxGen X s3 H3 cenv fp gob) t1 g1) (pt1 : PTs (CxGen X s3 H3 cenv fp gob) ifs1 tt1) (pe : PE (CxGen X s3 H3 cenv fp gob) elt te)
    (hs1 : ∀ x, foldedSetIterable i1 cenv x = pure x) (turn : tTurn2 b0 J g tt wi1 g1 tt1 te (wipe σ vs) vs vs1 W Qt Qs) (hfpgo : gob.1 ∉ fp) (m : Nat) (s₀ s5 : Shared) (H5 : Hp) (I5 : Inv (CxGen X s3 H3 cenv fp gob) [] (wipe σ vs) H5 s5) (st5 : tn 0 s5.heap) (n5 : ∀ b ∈ fp, H5 b = none) (w5 : W 0 m H5) :
      Seg (model X.prog X.w) X.A.in1.in1 (GRx (CxGen X s3 H3 cenv fp gob) Qt) (GYx (CxGen X s3 H3 cenv fp gob) (wipe σ vs) b0 Qs) (m + 1) s₀
        (.compStart (.GeneratorExp elt [⟨t0, i0, ifs0, 0⟩, ⟨t1, i1, ifs1, 0⟩] scope pos) 0 (.ref it) .none cenv)
        ((model X.prog X.w).den (.compStart (.GeneratorExp elt [⟨t0, i0, ifs0, 0⟩, ⟨t1, i1, ifs1, 0⟩] scope pos) 0 (.ref it) .none cenv)) [] s5 := by
  have loop := seg_gx2 (i0 := i0) (scope := scope) (pos := pos) hc T hco hv pg pt pi1 pg1 pt1 pe hs1 turn hfpgo m (m + 1) 0 s₀ s5 H5 (Nat.lt_succ_self _) I5 st5 n5 w5
  show Seg _ X.A.in1.in1 _ _ _ s₀ _ ((compStart (.GeneratorExp elt [⟨t0, i0, ifs0, 0⟩, ⟨t1, i1, ifs1, 0⟩] scope pos) 0 (.ref it) .none cenv).onRaise (leaving cenv)) [] s5
  unfold compStart
  rw [Sem.onRaise_eq_wrap]
  show Seg _ X.A.in1.in1 _ _ _ s₀ _ ((ask >>= _).wrap _ _ _ _) [] s5
  refine seg_bind_wrap (wpAny_askSetting ?_)
  split
  · exact seg_again rfl loop
  · first
      | exact seg_bind_wrap (wpAny_rule (seg_bind_wrap (wpAny_standAt (seg_bind_wrap (T.self _ 0 s5 _ _ st5 (seg_again rfl loop))))))
      | (refine seg_bind_wrap (wpAny_rule ?_); show Seg _ X.A.in1.in1 _ _ _ s₀ _ ((standAt i0.pos >>= _).wrap _ _ _ _) [] s5; exact seg_bind_wrap (wpAny_standAt (seg_bind_wrap (T.self _ 0 s5 _ _ st5 (seg_again rfl loop)))))
end

theorem eval_gen2 (elt t0 i0 t1 i1 : Expr) (ifs0 ifs1 : List Expr) (scope : Scope) (pos : Pos) (env : Env) (hco : scope.isCoroutine = false) :
    eval (.GeneratorExp elt [⟨t0, i0, ifs0, 0⟩, ⟨t1, i1, ifs1, 0⟩] scope pos) env = (do
      let x ← eval i0 env
      standAt i0.pos
      let x ← genFold i0 env x
      let it ← holding [x] (pyIter x)
      enterFrame
      let cl ← closureFor scope env
      let code ← genexprCode env pos (env.qual ++ "<genexpr>") scope
      let bi ← builtinsFor env.globals env.builtins
      let cenv ← newFunctionEnv scope env.globals cl [(".0", it)] (env.qual ++ "<genexpr>.") none code none bi
      newGenerator (.compStart (.GeneratorExp elt [⟨t0, i0, ifs0, 0⟩, ⟨t1, i1, ifs1, 0⟩] scope pos) 0 it .none cenv) "<genexpr>" (env.qual ++ "<genexpr>")) := by
  rw [arm_eval_GeneratorExp]
  simp only [hco, Bool.false_eq_true, if_false]
  cases i0 <;> rfl
theorem make2 {M : Model} {A : Around} {E : Value → Shared → Prop} {s : Shared} {env : Env} {elt t0 i0 t1 i1 : Expr} {ifs0 ifs1 : List Expr} {scope : Scope} {cl : List (Str × Addr)} {pos : Pos} {Q : Value → Shared → Prop}
    (hco : scope.isCoroutine = false) (hclos : closureFor scope env = pure cl) (hcell : ∀ y ∈ scope.names, y.2 ≠ .cell) (h0 : scope.names.lookup (".0" : Str) = some NameKind.local) (hkind : scope.kind = .function)
    (hroom : A.depth < recursionLimit)
    (h : wpAny M A (eval i0 env) (fun xv s₁ => wpAny M A (pyIter xv) (fun it s₂ => s₂.heap.NoLimit ∧
      wpAny M A (genexprCode env pos (env.qual ++ "<genexpr>") scope) (fun code s₃ => wpAny M A (builtinsFor env.globals env.builtins) (fun bi s₄ =>
        ∀ h', h'.Ns s₄.heap.objs.size (fun y => if y = ".0" then some it else none) → Heap.SameBut s₄.heap.objs.size (s₄.heap.push { cls := .type "frame", data := .dict #[] }) h' →
          Q (.ref h'.objs.size) { s₄ with
            gens := s₄.gens.push (.fresh (.compStart (.GeneratorExp elt [⟨t0, i0, ifs0, 0⟩, ⟨t1, i1, ifs1, 0⟩] scope pos) 0 it .none (genEnv scope cl s₄.heap.objs.size code bi env))),
            toks := s₄.toks + 1 + 1 + 1,
            heap := h'.push { cls := .type "generator", data := .fields #[.int s₄.gens.size 0, .str "<genexpr>" (s₄.toks + 1), .str (env.qual ++ "<genexpr>") (s₄.toks + 1 + 1)] } }) E s₃) E s₂) E s₁) E s)
    (hs : ∀ x, genFold i0 env x = pure x) :
    wpAny M A (eval (.GeneratorExp elt [⟨t0, i0, ifs0, 0⟩, ⟨t1, i1, ifs1, 0⟩] scope pos) env) Q E s := by
  rw [eval_gen2 _ _ _ _ _ _ _ _ _ _ hco, hclos]
  refine wpAny_bind (wpAny_mono h (fun xv s₁ h₁ => ?_) fun _ _ e => e)
  refine wpAny_bind (wpAny_standAt ?_)
  refine wpAny_bind (wpAny_of_eq (hs xv) ?_)
  refine wpAny_bind (wpAny_holding (wpAny_mono h₁ (fun it s₂ h₂ => ?_) fun _ _ e => e))
  refine wpAny_bind (wpAny_enterFrame h₂.1 hroom ?_)
  refine wpAny_bind (wpAny_pure ?_)
  refine wpAny_bind (wpAny_mono h₂.2 (fun code s₃ h₃ => ?_) fun _ _ e => e)
  refine wpAny_bind (wpAny_mono h₃ (fun bi s₄ h₄ => ?_) fun _ _ e => e)
  have hbinds : ∀ y ∈ ([((".0" : Str), it)] : List (Str × Value)), scope.names.lookup y.1 = some NameKind.local := by
    intro y hy
    rcases List.mem_cons.mp hy with rfl | hy
    · exact h0
    · cases hy
  refine wpAny_bind (wpAny_newFunctionEnv hcell hbinds (fun h' hn' hs' => ?_) hkind)
  have e : (fun y : Str => ([((".0" : Str), it)] : List (Str × Value)).reverse.lookup y) = fun y : Str => if y = (".0" : Str) then some it else none := by
    funext y
    by_cases hy : y = ".0"
    · subst hy; simp
    · have : (y == (".0" : Str)) = false := by simpa using hy
      simp [List.lookup, this, hy]
  rw [e] at hn'
  simp only [newGenerator, newFields]
  refine wpAny_bind (wpAny_newGen (wpAny_bind (wpAny_mkText (wpAny_bind (wpAny_mkText (wpAny_newObj_type ?_ (by size_fits)))))))
  exact h₄ h' hn' hs'

/-- any | all of a generator expression of two clauses -/
def tGen2 (b0 : Bool) (base : Heap) (C P : Addr) (gp : Pos) (wi : TI) (g : TG) (tt : TT) (wi1 : TI) (g1 : TG) (tt1 : TT) (te : TE) (vs vs1 : List Nat) : TE := fun σ H Q => wi σ H fun J H1 => TabG H1 P ∧ CdAt base H1 C P ∧ ∀ H2 code, TabX gp P H1 H2 code →
  ∃ W : Nat → Nat → Hp → Prop, (∃ m, W 0 m H2) ∧ tTurn2 b0 J g tt wi1 g1 tt1 te (wipe σ vs) vs vs1 W (Q (.bl b0)) (Q (.bl (!b0)))
section
variable {X : Cx} {pins : List (Addr × Obj)} {σ : L2.St} {H : Hp} {s : Shared}

theorem gen_made2 {c P : Addr} {elt tg iter tg1 iter1 : Expr} {ifs ifs1 : List Expr} {g1 : TG} {tt1 : TT} {wi1 : TI} {vs1 : List Nat} {scope : Scope} {own : List (Str × Nat)} {gpos : Pos} {wi : TI} {g : TG} {tt : TT} {te : TE} {k : Nat} {b0 : Bool} {Q : VK} {Q' : Value → Shared → Prop}
    (hr : Room k X.A) (hc : X.calm = true) (hN : X.N.Nodup) (TB : ∃ P0, X.base.BuiltinsAt X.mg P0) (hcode : X.env.code = .ref c) (S : GenOk X.N X.env.scope scope own) (hi : PI X tg iter wi)
    (pg : ∀ (s : Shared) (H : Hp) (C : Addr) (code : Value) (fp : List Addr) (go : Addr × Obj), PG (CxGen X s H (genEnv scope (cloFrom X.env.cells scope.names []) C code builtinsNs X.env) fp go) tg g)
    (pt : ∀ (s : Shared) (H : Hp) (C : Addr) (code : Value) (fp : List Addr) (go : Addr × Obj), PTs (CxGen X s H (genEnv scope (cloFrom X.env.cells scope.names []) C code builtinsNs X.env) fp go) ifs tt)
    (pe : ∀ (s : Shared) (H : Hp) (C : Addr) (code : Value) (fp : List Addr) (go : Addr × Obj), PE (CxGen X s H (genEnv scope (cloFrom X.env.cells scope.names []) C code builtinsNs X.env) fp go) elt te)
    (pi1 : ∀ (s : Shared) (H : Hp) (C : Addr) (code : Value) (fp : List Addr) (go : Addr × Obj), PI (CxGen X s H (genEnv scope (cloFrom X.env.cells scope.names []) C code builtinsNs X.env) fp go) tg1 iter1 wi1)
    (pg1 : ∀ (s : Shared) (H : Hp) (C : Addr) (code : Value) (fp : List Addr) (go : Addr × Obj), PG (CxGen X s H (genEnv scope (cloFrom X.env.cells scope.names []) C code builtinsNs X.env) fp go) tg1 g1)
    (pt1 : ∀ (s : Shared) (H : Hp) (C : Addr) (code : Value) (fp : List Addr) (go : Addr × Obj), PTs (CxGen X s H (genEnv scope (cloFrom X.env.cells scope.names []) C code builtinsNs X.env) fp go) ifs1 tt1)
    (hv : ∀ i ∈ vs1, i ∈ own.map (·.2)) (hs1 : ∀ env x, foldedSetIterable iter1 env x = pure x)
    (hs : ∀ v, genFold iter X.env v = pure v) (I : Inv X pins σ H s) (h : tGen2 b0 X.base c P gpos wi g tt wi1 g1 tt1 te (own.map (·.2)) vs1 σ H Q)
    (hQ : ∀ (s3 : Shared) (H3 : Hp) (cenv : Env) (fp : List Addr) (a : Addr) (go : Obj) (gn : Nat) (m : Nat) (s5 : Shared),
      (∀ h : Heap, h.get? a = some go → h.IsGen a gn) → s5.heap.IsGen a gn → s5.heap.NoLimit →
      (∀ (H' : Hp) (σ' : L2.St) (s' : Shared), Inv (CxGen X s3 H3 cenv fp (a, go)) [] σ' H' s' → Inv X pins σ H' s') →
      (∃ gs, s5.gens[gn]? = some gs ∧ gs.Goes (model X.prog X.w) X.A.in1.in1 (GRx (CxGen X s3 H3 cenv fp (a, go)) (Q (.bl b0))) (GYx (CxGen X s3 H3 cenv fp (a, go)) (wipe σ (own.map (·.2))) b0 (Q (.bl (!b0)))) (m + 1) (.send .none) (s5.setGen gn .running)) →
      Q' (.ref a) s5) :
    wpAny (model X.prog X.w) X.A (eval (.GeneratorExp elt [⟨tg, iter, ifs, 0⟩, ⟨tg1, iter1, ifs1, 0⟩] scope gpos) X.env) Q' X.xe s := by
  have hfree : ∀ y ∈ scope.names, y.2 = .free → ∃ c, X.env.cells.lookup y.1 = some c := fun y hy e => by
    rcases S.blk.free y hy e with k | k
    · exact I.ok.has _ (.inl k)
    · exact I.ok.has _ (.inr k)
  refine make2 S.co (closure_ok hfree) S.cell S.dot S.blk.kind (by have := hr.dp; omega) ?_ hs
  refine thn (hi.run pins s σ H _ I h) fun xv s1 hx => thn hx fun itv s2 h2 => ?_
  obtain ⟨it, fp, tn, J, H2, rfl, I2, T, st2, f2, ⟨ps, hP, ht⟩, hcd, hW⟩ := h2
  have hPs : s2.heap.get? P = some { cls := .none, data := .fields ps } := I2.hok P _ hP
  have hPlt : P < s2.heap.objs.size := Heap.lt_size hPs
  have cd : PySem.W.CodeHd s2.heap c P := cdAt_hd I2 hcd
  have nfP : ∀ b ∈ fp, b ≠ P := fun b hb z => by
    have := (f2 b hb).1
    rw [z, hP] at this; cases this
  have cont : ∀ (code : Value) (h3 : Heap) (tk : Nat) (H3 : Hp), Heap.ExtBut P s2.heap h3 → s2.heap.objs.size ≤ h3.objs.size → Inv X pins σ H3 { s2 with heap := h3, toks := tk } → TabX gpos P H2 H3 code → (∀ b ∈ fp, H3 b = none) →
      wpAny (model X.prog X.w) X.A (builtinsFor X.env.globals X.env.builtins) (fun bi s₄ => ∀ h', h'.Ns s₄.heap.objs.size (fun y => if y = (".0" : Str) then some (Value.ref it) else none) → Heap.SameBut s₄.heap.objs.size (s₄.heap.push { cls := .type "frame", data := .dict #[] }) h' →
          Q' (.ref h'.objs.size) { s₄ with
            gens := s₄.gens.push (.fresh (.compStart (.GeneratorExp elt [⟨tg, iter, ifs, 0⟩, ⟨tg1, iter1, ifs1, 0⟩] scope gpos) 0 (.ref it) .none (genEnv scope (cloFrom X.env.cells scope.names []) s₄.heap.objs.size code bi X.env))),
            toks := s₄.toks + 1 + 1 + 1,
            heap := h'.push { cls := .type "generator", data := .fields #[.int s₄.gens.size 0, .str "<genexpr>" (s₄.toks + 1), .str (X.env.qual ++ "<genexpr>") (s₄.toks + 1 + 1)] } }) X.xe { s2 with heap := h3, toks := tk } := by
    intro code h3 tk H3 hx3 hsz I3 tX hfr
    obtain ⟨P0, bm, ob, e1, e2, e3, e4, e5, e6, e7, e8⟩ := TB
    obtain ⟨W, ⟨m, w0⟩, turn⟩ := hW H3 code tX
    refine wpAny_builtinsFor (m := X.mg) (by rw [I.ok.glob]; exact I3.mod.glob.keeps I3.bk) e1 e2 (I3.bk _ _ e5) e6 e7 e8 ?_
    intro h' hn' hs'
    have hszh : h'.objs.size = h3.objs.size + 1 := by rw [hs'.1, Heap.size_push]
    generalize hgo : ({ cls := .type "generator", data := .fields #[.int s2.gens.size 0, .str "<genexpr>" (tk + 1), .str (X.env.qual ++ "<genexpr>") (tk + 1 + 1)] } : Obj) = go
    have hgen : ∀ h : Heap, h.get? h'.objs.size = some go → h.IsGen h'.objs.size s2.gens.size := fun h e => ⟨go, _, _, e, by rw [← hgo], by rw [← hgo], by rw [← hgo]⟩
    have hgot : (h'.push go).get? h'.objs.size = some go := by rw [← hgo]; exact Heap.get?_push_size _ rfl
    have f3 : ∀ b ∈ fp, FpOk X pins H3 b ∧ b < h3.objs.size := fun b hb => by
      obtain ⟨o, e, _⟩ := T.obj _ _ st2 b hb
      exact ⟨⟨hfr b hb, (f2 b hb).2⟩, Nat.lt_of_lt_of_le (Heap.lt_size e) hsz⟩
    have st3 : tn 0 h3 := T.keep _ _ _ st2 fun b hb o e => hx3 b o (nfP b hb) e
    have J5 := gen_start (code := code) (go := go) (gs := .fresh (.compStart (.GeneratorExp elt [⟨tg, iter, ifs, 0⟩, ⟨tg1, iter1, ifs1, 0⟩] scope gpos) 0 (.ref it) .none (genEnv scope (cloFrom X.env.cells scope.names []) h3.objs.size code builtinsNs X.env))) (tk := tk + 1 + 1 + 1) I3 S.blk hN S.cell f3 rfl (fun v e => by rw [← hgo] at e; cases e) hn' hs' hgot
    have st5 : tn 0 (h'.push go) := T.keep _ _ _ st3 fun b _ o e => Heap.get?_push_of_some _ ((hs'.2 b (Nat.ne_of_lt (Heap.lt_size e))).trans (Heap.get?_push_of_some _ e))
    have hfpgo : h'.objs.size ∉ fp := fun z => by
      have := (f3 _ z).2
      rw [hszh] at this
      exact absurd (Nat.lt_of_succ_lt this) (Nat.lt_irrefl _)
    refine hQ { s2 with heap := h3, toks := tk } H3 (genEnv scope (cloFrom X.env.cells scope.names []) h3.objs.size code builtinsNs X.env) fp h'.objs.size go s2.gens.size m _ hgen (hgen _ hgot) J5.nolimit (fun H' σ' s' I' => ?_) ⟨_, Array.getElem?_push_size .., rfl, ?_⟩
    · exact I3.call' (ch := fp) I'.os I'.base I'.hok I'.bare fun b hb => ⟨(f3 b hb).1.2.2.2.1, (f3 b hb).1.2.1, (f3 b hb).1.2.2.2.2.1, (f3 b hb).1.2.2.2.2.2⟩
    · refine seg_gx2Start hc T S.co hv (pg _ _ _ _ _ _) (pt _ _ _ _ _ _) (pi1 _ _ _ _ _ _) (pg1 _ _ _ _ _ _) (pt1 _ _ _ _ _ _) (pe _ _ _ _ _ _) (hs1 _) turn hfpgo m _ _ H3 ?_ st5 (fun b hb => (f3 b hb).1.1) w0
      exact inv_gens J5 rfl rfl (allBare_setGen J5.bare rfl)
  refine ⟨I2.nolimit, ?_⟩
  cases hf : codeAmong gpos ps.toList with
  | none =>
    refine wpAny_genexprCodeX hcode (cd.code hPs ht) (cd.tab hPs) hf fun c' h' tk hx hge hlt hco' _ htab' hnew => ?_
    obtain ⟨P', hPge, hIs, hTab⟩ := hnew
    have cd' : PySem.W.CodeHd h' c' P' := PySem.W.CodeHd.of hIs hTab
    have hcp : c' ≠ P' := by
      obtain ⟨_, _, _, _, _, _, _, _, _, _, _, _, _, _, _, _, _, _, z⟩ := cd'
      exact z
    obtain ⟨o1, vs, f1, tf, fl, tg, inF, tx, tt, op, _, _, _, _, _, _, _, _, _, htr, _⟩ := hco'
    refine cont _ h' tk _ hx (Nat.le_trans hge (Nat.le_of_lt hlt)) (inv_tabX (t' := tk) I2 hP (fun b o hb e => hx b o hb e) htab'.2 hge hPge hcp cd' hTab.2) (.inr ⟨ps, c', P', hP, rfl, I2.hok.fresh hge, I2.hok.fresh hPge, hcp, ⟨_, cd'⟩, htr, rfl⟩) fun b hb => ?_
    obtain ⟨o, e, _⟩ := T.obj _ _ st2 b hb
    have := Heap.lt_size e
    rw [upd_ne (show b ≠ P' from fun z => absurd (Nat.lt_of_lt_of_le (z ▸ this) hPge) (Nat.lt_irrefl _)), upd_ne (show b ≠ c' from fun z => absurd (Nat.lt_of_lt_of_le (z ▸ this) hge) (Nat.lt_irrefl _)), upd_ne (nfP b hb)]
    exact (f2 b hb).1
  | some cv =>
    refine wpAny_genexprCode_hit hcode (cd.code hPs ht) hf ?_
    exact cont cv s2.heap s2.toks H2 (Heap.ExtBut.refl _ _) (Nat.le_refl _) (I2.tok _) (.inl ⟨ps, hP, hf, rfl⟩) fun b hb => (f2 b hb).1
end

theorem pe_allG2 {c P : Addr} {elt tg iter tg1 iter1 : Expr} {ifs ifs1 : List Expr} {g1 : TG} {tt1 : TT} {wi1 : TI} {vs1 : List Nat} {scope : Scope} {own : List (Str × Nat)} {p pos gpos : Pos} {wi : TI} {g : TG} {tt : TT} {te : TE} {k : Nat} {X : Cx}
    (hr : Room k X.A) (hc : X.calm = true) (hN : X.N.Nodup) (hgl : Gl X "all") (hm : X.mg "all" = none) (TB : ∃ P0, X.base.BuiltinsAt X.mg P0) (hcode : X.env.code = .ref c) (S : GenOk X.N X.env.scope scope own) (hi : PI X tg iter wi)
    (pg : ∀ (s : Shared) (H : Hp) (C : Addr) (code : Value) (fp : List Addr) (go : Addr × Obj), PG (CxGen X s H (genEnv scope (cloFrom X.env.cells scope.names []) C code builtinsNs X.env) fp go) tg g)
    (pt : ∀ (s : Shared) (H : Hp) (C : Addr) (code : Value) (fp : List Addr) (go : Addr × Obj), PTs (CxGen X s H (genEnv scope (cloFrom X.env.cells scope.names []) C code builtinsNs X.env) fp go) ifs tt)
    (pe : ∀ (s : Shared) (H : Hp) (C : Addr) (code : Value) (fp : List Addr) (go : Addr × Obj), PE (CxGen X s H (genEnv scope (cloFrom X.env.cells scope.names []) C code builtinsNs X.env) fp go) elt te)
    (pi1 : ∀ (s : Shared) (H : Hp) (C : Addr) (code : Value) (fp : List Addr) (go : Addr × Obj), PI (CxGen X s H (genEnv scope (cloFrom X.env.cells scope.names []) C code builtinsNs X.env) fp go) tg1 iter1 wi1)
    (pg1 : ∀ (s : Shared) (H : Hp) (C : Addr) (code : Value) (fp : List Addr) (go : Addr × Obj), PG (CxGen X s H (genEnv scope (cloFrom X.env.cells scope.names []) C code builtinsNs X.env) fp go) tg1 g1)
    (pt1 : ∀ (s : Shared) (H : Hp) (C : Addr) (code : Value) (fp : List Addr) (go : Addr × Obj), PTs (CxGen X s H (genEnv scope (cloFrom X.env.cells scope.names []) C code builtinsNs X.env) fp go) ifs1 tt1)
    (hv : ∀ i ∈ vs1, i ∈ own.map (·.2)) (hs1 : ∀ env x, foldedSetIterable iter1 env x = pure x)
    (hs : ∀ v, genFold iter X.env v = pure v)
    (he : starEach [.GeneratorExp elt [⟨tg, iter, ifs, 0⟩, ⟨tg1, iter1, ifs1, 0⟩] scope gpos] X.env = (false, eval (.GeneratorExp elt [⟨tg, iter, ifs, 0⟩, ⟨tg1, iter1, ifs1, 0⟩] scope gpos) X.env) :: starEach [] X.env := by rfl) :
    PE X (.Call (.Name "all" p) [.GeneratorExp elt [⟨tg, iter, ifs, 0⟩, ⟨tg1, iter1, ifs1, 0⟩] scope gpos] [] pos) (tGen2 true X.base c P gpos wi g tt wi1 g1 tt1 te (own.map (·.2)) vs1) := by
  refine ⟨fun pins s σ H Q I h => ?_⟩
  refine wpAny_Call_Name_kw (ld_blt I hgl hm (by kernel_rfl : bootBuiltins "all" = some (.builtin "all")) ?_)
  refine PyProof.Rows.callWith_builtin1 ?_ he (by rfl)
  rw [he]
  show wpAny _ _ (spliced ((false, eval (.GeneratorExp elt [⟨tg, iter, ifs, 0⟩, ⟨tg1, iter1, ifs1, 0⟩] scope gpos) X.env) :: backTo pos (starEach [] X.env))) _ _ s
  refine Calls.spliced_cons (gen_made2 hr hc hN TB hcode S hi pg pt pe pi1 pg1 pt1 hv hs1 hs I h fun s3 H3 cenv fp a go gn m s5 hgen hg hl back gs => ?_)
  refine Calls.spliced_nil ?_
  refine call_function_tree F.kind_all F.plain_all F.entry_all (F.args_all1 _) ?_
  unfold Builtin.«all»
  refine wpAny_bind (m := oneArg "all" _) (wpAny_pure ?_)
  refine wpAny_bind (wpAny_pyIter_gen hg ?_)
  refine wpAny_pure ⟨plainId_quiet F.plain_all_loop _, drain_all hr.hd (by have := hr.dp; omega) hgen (fun H' σ' s' I' q => ?_) (fun H' σ' s' I' q => ?_) (m + 1) s5 hg hl gs⟩
  · exact ⟨.bl true, H', back _ _ _ I', rfl, q⟩
  · exact ⟨.bl (!true), H', back _ _ _ I', rfl, q⟩


theorem pe_anyG2 {c P : Addr} {elt tg iter tg1 iter1 : Expr} {ifs ifs1 : List Expr} {g1 : TG} {tt1 : TT} {wi1 : TI} {vs1 : List Nat} {scope : Scope} {own : List (Str × Nat)} {p pos gpos : Pos} {wi : TI} {g : TG} {tt : TT} {te : TE} {k : Nat} {X : Cx}
    (hr : Room k X.A) (hc : X.calm = true) (hN : X.N.Nodup) (hgl : Gl X "any") (hm : X.mg "any" = none) (TB : ∃ P0, X.base.BuiltinsAt X.mg P0) (hcode : X.env.code = .ref c) (S : GenOk X.N X.env.scope scope own) (hi : PI X tg iter wi)
    (pg : ∀ (s : Shared) (H : Hp) (C : Addr) (code : Value) (fp : List Addr) (go : Addr × Obj), PG (CxGen X s H (genEnv scope (cloFrom X.env.cells scope.names []) C code builtinsNs X.env) fp go) tg g)
    (pt : ∀ (s : Shared) (H : Hp) (C : Addr) (code : Value) (fp : List Addr) (go : Addr × Obj), PTs (CxGen X s H (genEnv scope (cloFrom X.env.cells scope.names []) C code builtinsNs X.env) fp go) ifs tt)
    (pe : ∀ (s : Shared) (H : Hp) (C : Addr) (code : Value) (fp : List Addr) (go : Addr × Obj), PE (CxGen X s H (genEnv scope (cloFrom X.env.cells scope.names []) C code builtinsNs X.env) fp go) elt te)
    (pi1 : ∀ (s : Shared) (H : Hp) (C : Addr) (code : Value) (fp : List Addr) (go : Addr × Obj), PI (CxGen X s H (genEnv scope (cloFrom X.env.cells scope.names []) C code builtinsNs X.env) fp go) tg1 iter1 wi1)
    (pg1 : ∀ (s : Shared) (H : Hp) (C : Addr) (code : Value) (fp : List Addr) (go : Addr × Obj), PG (CxGen X s H (genEnv scope (cloFrom X.env.cells scope.names []) C code builtinsNs X.env) fp go) tg1 g1)
    (pt1 : ∀ (s : Shared) (H : Hp) (C : Addr) (code : Value) (fp : List Addr) (go : Addr × Obj), PTs (CxGen X s H (genEnv scope (cloFrom X.env.cells scope.names []) C code builtinsNs X.env) fp go) ifs1 tt1)
    (hv : ∀ i ∈ vs1, i ∈ own.map (·.2)) (hs1 : ∀ env x, foldedSetIterable iter1 env x = pure x)
    (hs : ∀ v, genFold iter X.env v = pure v)
    (he : starEach [.GeneratorExp elt [⟨tg, iter, ifs, 0⟩, ⟨tg1, iter1, ifs1, 0⟩] scope gpos] X.env = (false, eval (.GeneratorExp elt [⟨tg, iter, ifs, 0⟩, ⟨tg1, iter1, ifs1, 0⟩] scope gpos) X.env) :: starEach [] X.env := by rfl) :
    PE X (.Call (.Name "any" p) [.GeneratorExp elt [⟨tg, iter, ifs, 0⟩, ⟨tg1, iter1, ifs1, 0⟩] scope gpos] [] pos) (tGen2 false X.base c P gpos wi g tt wi1 g1 tt1 te (own.map (·.2)) vs1) := by
  refine ⟨fun pins s σ H Q I h => ?_⟩
  refine wpAny_Call_Name_kw (ld_blt I hgl hm (by kernel_rfl : bootBuiltins "any" = some (.builtin "any")) ?_)
  refine PyProof.Rows.callWith_builtin1 ?_ he (by rfl)
  rw [he]
  show wpAny _ _ (spliced ((false, eval (.GeneratorExp elt [⟨tg, iter, ifs, 0⟩, ⟨tg1, iter1, ifs1, 0⟩] scope gpos) X.env) :: backTo pos (starEach [] X.env))) _ _ s
  refine Calls.spliced_cons (gen_made2 hr hc hN TB hcode S hi pg pt pe pi1 pg1 pt1 hv hs1 hs I h fun s3 H3 cenv fp a go gn m s5 hgen hg hl back gs => ?_)
  refine Calls.spliced_nil ?_
  refine call_function_tree F.kind_any F.plain_any F.entry_any (F.args_any1 _) ?_
  unfold Builtin.«any»
  refine wpAny_bind (m := oneArg "any" _) (wpAny_pure ?_)
  refine wpAny_bind (wpAny_pyIter_gen hg ?_)
  refine wpAny_pure ⟨plainId_quiet F.plain_any_loop _, drain_any hr.hd (by have := hr.dp; omega) hgen (fun H' σ' s' I' q => ?_) (fun H' σ' s' I' q => ?_) (m + 1) s5 hg hl gs⟩
  · exact ⟨.bl false, H', back _ _ _ I', rfl, q⟩
  · exact ⟨.bl (!false), H', back _ _ _ I', rfl, q⟩

end Gx

/-! The core language: what a def of the text computes, over plain data. -/
noncomputable section
namespace Ce
open PySem

/-- a slot of a def: not stored; a value that nobody changes; a list or dict that only this slot holds -/
inductive Sl where
  | un | fz (d : PyData) | ow (d : PyData)
abbrev Rho := List Sl

inductive Bop where
  | add | sub | mul | mod | fdiv | pow | shl
inductive Cop where
  | eq | ne | lt | le | gt | ge | isin | notin
inductive B1 where
  | len | abs | int | str
inductive Bi where
  | tuple | list | sorted | sum | max | min | all | any
inductive B2 where
  | max | min
inductive Tyn where
  | int | bool | str | tuple
/-- methods of one argument -/
inductive Mt where
  | index | count | join
mutual
inductive Tg where
  | nm (i : Nat) | tp (ts : Tgs)
inductive Tgs where
  | nil | cons (t : Tg) (ts : Tgs)
end
mutual
inductive Ex where
  | var (i : Nat)
  | int (n : Int) | str (s : Str) | bool (b : Bool) | non
  | tup (es : Exs) | lst (es : Exs)
  | bin (op : Bop) (a b : Ex) | neg (a : Ex)
  | not (a : Ex) | and (a b : Ex) | or (a b : Ex)
  | cmp (op : Cop) (a b : Ex) | ch2 (op op' : Cop) (a b c : Ex)
  | isn (a : Ex) | nisn (a : Ex)
  | ife (c a b : Ex)
  | sub (a i : Ex) | sl (a : Ex) (lo hi : Exo) | rev (a : Ex)
  | call (f : Nat) (es : Exs)
  | b1 (b : B1) (a : Ex) | bi (b : Bi) (a : Ex) | conv (l : Bool) (i : It) | b2 (b : B2) (a c : Ex)
  | isi (T : Tyn) (a : Ex)
  | lc (e : Ex) (t : Tg) (i : It) (ifs : Exo)
  | gen (b0 : Bool) (e : Ex) (t : Tg) (i : It) (ifs : Exo)
  | st (l : Bool) (a : Ex)
  | lc2 (e : Ex) (t : Tg) (i : It) (ifs : Exo) (t1 : Tg) (i1 : It) (ifs1 : Exo)
  | mt (m : Mt) (a b : Ex)
  | gen2 (b0 : Bool) (e : Ex) (t : Tg) (i : It) (ifs : Exo) (t1 : Tg) (i1 : It) (ifs1 : Exo)
inductive Exs where
  | nil | cons (e : Ex) (es : Exs)
inductive Exo where
  | no | yes (e : Ex)
inductive It where
  | ex (e : Ex) | rng1 (a : Ex) | rng2 (a b : Ex) | enum (i : Ex) | zip (a b : Ex) | rv (a : Ex) | rrng (i : It)
end

/-! ### operations on data -/
def LIM : Nat := 16777216
/-- where p; never decided by running -/
noncomputable def gd {α : Type} (p : Prop) (x : Option α) : Option α := @ite (Option α) p (Classical.propDecidable p) x none
theorem gd_pos {α : Type} {p : Prop} {x : Option α} (h : p) : gd p x = x := if_pos h
theorem gd_some {α : Type} {p : Prop} {x : Option α} {y : α} : gd p x = some y ↔ p ∧ x = some y := by
  unfold gd
  by_cases h : p
  · rw [if_pos h]; exact ⟨fun e => ⟨h, e⟩, fun e => e.2⟩
  · rw [if_neg h]
    refine ⟨fun e => ?_, fun e => absurd e.1 h⟩
    cases e
@[simp] theorem gd_true {α : Type} (x : Option α) : gd True x = x := gd_pos trivial
@[simp] theorem gd_false {α : Type} (x : Option α) : gd False x = none := if_neg id
@[simp] theorem gd_none {α : Type} (p : Prop) : gd p (none : Option α) = none := by
  unfold gd
  split <;> rfl
def isN : PyData → Bool
  | .none => true
  | _ => false
def truthy : PyData → Option Bool
  | .none => some false
  | .bool b => some b
  | .int i => some (i != 0)
  | .str s => gd (s.length ≤ LIM) (some ((s.length : Int) != 0))
  | .list xs => some (!xs.isEmpty)
  | .tuple xs => some (!xs.isEmpty)
  | .dict kvs => some (!kvs.isEmpty)
def binop : Bop → PyData → PyData → Option PyData
  | .add, .int i, .int j => some (.int (i + j))
  | .add, .str s, .str t => gd (s.length + t.length ≤ LIM) (some (.str (s ++ t)))
  | .add, .tuple xs, .tuple ys => gd (xs.length + ys.length ≤ LIM) (some (.tuple (xs ++ ys)))
  | .add, .list xs, .list ys => gd (xs.length + ys.length ≤ LIM) (some (.list (xs ++ ys)))
  | .sub, .int i, .int j => some (.int (i - j))
  | .mul, .int i, .int j => gd ((-(2 ^ 64) < i ∧ i < 2 ^ 64) ∨ (-(2 ^ 64) < j ∧ j < 2 ^ 64)) (some (.int (i * j)))
  | .mod, .int i, .int j => gd (0 < j) (some (.int (i % j)))
  | .fdiv, .int i, .int j => gd (0 < j ∧ j < 1073741824) (some (.int (i / j)))
  | .pow, .int i, .int j => gd (0 ≤ j ∧ j ≤ 1000000 ∧ i.natAbs < 2 ^ 64) (some (.int (i ^ j.toNat)))
  | .shl, .int i, .int j => gd (0 ≤ j ∧ j ≤ 1000000 ∧ i.natAbs < 2 ^ 64) (some (.int (i * 2 ^ j.toNat)))
  | _, _, _ => none
@[simp] def pk : Nat → PyData → Bool
  | _, .none => true
  | _, .bool _ => true
  | _, .int _ => true
  | _, .str s => PyData.strOk s
  | k + 1, .list xs => xs.all (pk k)
  | k + 1, .tuple xs => xs.all (pk k)
  | _, _ => false
theorem pk_all {k : Nat} (ih : ∀ d : PyData, pk k d = true → d.canLay0 = true ∧ d.depth ≤ k) : ∀ xs : List PyData, xs.all (pk k) = true → PyData.canLayAll0 xs = true ∧ PyData.depthAll xs ≤ k
  | [], _ => ⟨rfl, Nat.zero_le _⟩
  | x :: xs, h => by
    rw [List.all_cons, Bool.and_eq_true] at h
    obtain ⟨h1, h2⟩ := ih x h.1
    obtain ⟨h3, h4⟩ := pk_all ih xs h.2
    refine ⟨by rw [PyData.canLayAll0, h1, h3]; rfl, ?_⟩
    rw [PyData.depthAll]
    omega
theorem pk_ok : ∀ (k : Nat) (d : PyData), pk k d = true → d.canLay0 = true ∧ d.depth ≤ k
  | k, .none, _ => ⟨rfl, Nat.zero_le _⟩
  | k, .bool _, _ => ⟨rfl, Nat.zero_le _⟩
  | k, .int _, _ => ⟨rfl, Nat.zero_le _⟩
  | k, .str s, h => ⟨by simpa [PyData.canLay0] using h, Nat.zero_le _⟩
  | 0, .list xs, h => by simp at h
  | 0, .tuple xs, h => by simp at h
  | 0, .dict xs, h => by simp at h
  | k + 1, .dict xs, h => by simp at h
  | k + 1, .list xs, h => by
    obtain ⟨h1, h2⟩ := pk_all (pk_ok k) xs (by simpa using h)
    exact ⟨by simpa [PyData.canLay0] using h1, by rw [PyData.depth]; omega⟩
  | k + 1, .tuple xs, h => by
    obtain ⟨h1, h2⟩ := pk_all (pk_ok k) xs (by simpa using h)
    exact ⟨by simpa [PyData.canLay0] using h1, by rw [PyData.depth]; omega⟩
theorem pk_shaped {d : PyData} (h : pk 16 d = true) : SeqAt.shaped d = true := by
  obtain ⟨h1, h2⟩ := pk_ok 16 d h
  have h' : (d.canLay0 && decide (d.depth ≤ 64)) = true := by
    rw [h1, Bool.true_and, decide_eq_true_eq]
    omega
  exact h'
@[simp] def isData : PyData → PyData → Bool := fun x y => pk 16 x && pk 16 y
def cmpop : Cop → PyData → PyData → Option Bool
  | .eq, x, y => if isData x y then some (PyData.eqv x y) else none
  | .ne, x, y => if isData x y then some (!PyData.eqv x y) else none
  | .lt, .int i, .int j => some (decide (i < j))
  | .le, .int i, .int j => some (decide (i ≤ j))
  | .gt, .int i, .int j => some (decide (j < i))
  | .ge, .int i, .int j => some (decide (j ≤ i))
  | .lt, .tuple xs, .tuple ys => if isData (.tuple xs) (.tuple ys) && PySem.W.alike (.tuple xs) (.tuple ys) then some (PySem.W.dataLt (.tuple xs) (.tuple ys)) else none
  | .isin, x, .tuple ys => if isData x (.tuple ys) then some (ys.any fun y => PyData.eqv y x) else none
  | .isin, x, .list ys => if isData x (.list ys) then some (ys.any fun y => PyData.eqv y x) else none
  | .notin, x, .tuple ys => if isData x (.tuple ys) then some (!ys.any fun y => PyData.eqv y x) else none
  | .notin, x, .list ys => if isData x (.list ys) then some (!ys.any fun y => PyData.eqv y x) else none
  | _, _, _ => none
def index : PyData → PyData → Option PyData
  | .tuple xs, .int i => L2.atI xs i
  | .list xs, .int i => L2.atI xs i
  | .str z, .int i => gd (z.length ≤ LIM) ((L2.atI z.cps.toList i).map fun c => .str ⟨#[c]⟩)
  | _, _ => none
def cut {α : Type} (xs : List α) (lo hi : Option Int) : List α := (xs.drop (HT.sIx xs.length 0 lo)).take (HT.sIx xs.length xs.length hi - HT.sIx xs.length 0 lo)
def slice (d : PyData) (lo hi : Option Int) : Option PyData := match d with
  | .tuple xs => some (.tuple (cut xs lo hi))
  | .list xs => some (.list (cut xs lo hi))
  | .str z => gd (z.length ≤ LIM) (some (.str ⟨(cut z.cps.toList lo hi).toArray⟩))
  | _ => none
def revd : PyData → Option PyData
  | .tuple xs => some (.tuple xs.reverse)
  | .list xs => some (.list xs.reverse)
  | _ => none
def b1op : B1 → PyData → Option PyData
  | .len, .tuple xs => some (.int xs.length)
  | .len, .list xs => some (.int xs.length)
  | .len, .str s => gd (s.length ≤ LIM) (some (.int s.length))
  | .abs, .int i => some (.int (if i < 0 then -i else i))
  | .int, .int i => some (.int i)
  | .str, .int i => gd (i.natAbs.log2 < 1920) (some (.str (toString i)))
  | _, _ => none
def b2op : B2 → PyData → PyData → Option PyData
  | .max, .int i, .int j => some (.int (if j > i then j else i))
  | .min, .int i, .int j => some (.int (if j < i then j else i))
  | _, _, _ => none
def ints? : List PyData → Option (List Int)
  | [] => some []
  | .int i :: r => (ints? r).map (i :: ·)
  | _ :: _ => none
def bools? : List PyData → Option (List Bool)
  | [] => some []
  | .bool i :: r => (bools? r).map (i :: ·)
  | _ :: _ => none
def maxI : List Int → Int
  | [] => 0
  | x :: r => r.foldl (fun m y => if m < y then y else m) x
def minI : List Int → Int
  | [] => 0
  | x :: r => r.foldl (fun m y => if y < m then y else m) x
/-- may these be sorted -/
def sortable (ds : List PyData) : Bool :=
  ds.all (fun d => ds.all fun e => PySem.W.alike d e) && (ds.all (fun d => match d with | .tuple _ => true | _ => false) || ds.all fun d => match d with | .none => false | .tuple _ => false | _ => true) && ds.all fun d => decide (d.depth ≤ 64)
def sortd (ds : List PyData) : List PyData := ds.mergeSort (PySem.W.dataLe false id)
def seq? : PyData → Option (List PyData)
  | .tuple xs => some xs
  | .list xs => some xs
  | _ => none
def lst? : PyData → Option (List PyData)
  | .list xs => some xs
  | _ => none
/-- the signs of a string -/
def chrs (z : Str) : List PyData := z.cps.toList.map fun c => .str ⟨#[c]⟩
/-- what a loop goes through -/
def itm? : PyData → Option (List PyData)
  | .tuple xs => some xs
  | .list xs => some xs
  | .str z => some (chrs z)
  | _ => none
/-- may the least of these be sought -/
def mmOk (ds : List PyData) : Bool := ds.all (pk 16) && (ds.all (fun d => ds.all fun e => PySem.W.alike d e) && ds.all fun d => match d with | .none => false | .list _ => false | .dict _ => false | _ => true)
def mind (x : PyData) (xs : List PyData) : PyData := xs.foldl (fun a y => if PySem.W.dataLt y a then y else a) x
def maxd (x : PyData) (xs : List PyData) : PyData := xs.foldl (fun a y => if PySem.W.dataLt a y then y else a) x
def mmd (b : Bool) : List PyData → Option PyData
  | [] => none
  | x :: xs => if mmOk (x :: xs) then some (if b = true then maxd x xs else mind x xs) else none
def biop : Bi → PyData → Option PyData
  | .tuple, d => (seq? d).map .tuple
  | .list, d => (seq? d).map .list
  | .sorted, d => (seq? d).bind fun ds => gd (sortable ds = true ∧ ds.length ≤ LIM) (some (.list (sortd ds)))
  | .sum, d => (seq? d).bind fun ds => (ints? ds).map fun ns => .int ns.sum
  | .max, d => (seq? d).bind (mmd true)
  | .min, d => (seq? d).bind (mmd false)
  | .all, d => (lst? d).bind fun ds => (bools? ds).map fun bs => .bool (bs.all id)
  | .any, d => (lst? d).bind fun ds => (bools? ds).map fun bs => .bool (bs.any id)
/-- without repeats -/
def nub {α : Type} [DecidableEq α] : List α → List α
  | [] => []
  | x :: xs => if x ∈ xs then nub xs else x :: nub xs
@[reducible] def tupD (ns : List Int) : PyData := .tuple (ns.map .int)
def tupI? : List PyData → Option (List (List Int))
  | [] => some []
  | .tuple xs :: r => (ints? xs).bind fun ns => (tupI? r).map (ns :: ·)
  | _ :: _ => none
/-- the members of a set, in order -/
def setI (ns : List Int) : List Int := (nub ns).mergeSort fun a b => decide (a ≤ b)
def setT (nss : List (List Int)) : List (List Int) := (nub nss).mergeSort fun a b => decide (a ≤ b)
def setd? (ds : List PyData) : Option (List PyData) := gd (ds.length < 64) (match ints? ds with
  | some ns => some ((setI ns).map .int)
  | none => (tupI? ds).map fun nss => (setT nss).map tupD)
def sts? : List PyData → Option (List Str)
  | [] => some []
  | .str x :: r => (sts? r).map (x :: ·)
  | _ :: _ => none
/-- x.m(y) -/
def mtop : Mt → PyData → PyData → Option PyData
  | .index, .list ds, d => if isData d (.list ds) then (ds.findIdx? fun z => PyData.eqv z d).map fun i => .int (i : Nat) else none
  | .index, .str a, .str b => (Builtin.Str.occurrences a b 0 a.length 1).head?.map fun i => .int (i : Nat)
  | .count, .list ds, d => if isData d (.list ds) then some (.int (ds.countP fun z => PyData.eqv z d : Nat)) else none
  | .count, .str a, .str b => some (.int (Txt.count a b))
  | .join, .str a, .list ds => (sts? ds).bind fun ys => gd ((ys.map (·.length)).sum + ys.length * a.length ≤ 1000000) (some (.str (Txt.join a ys)))
  | .join, .str a, .tuple ds => (sts? ds).bind fun ys => gd ((ys.map (·.length)).sum + ys.length * a.length ≤ 1000000) (some (.str (Txt.join a ys)))
  | _, _, _ => none
def isTy : Tyn → PyData → Option Bool
  | .int, .int _ => some true
  | .int, .bool _ => some true
  | .int, .str _ => some false
  | .int, .tuple _ => some false
  | .int, .none => some false
  | .int, .list _ => some false
  | .bool, .int _ => some false
  | .bool, .bool _ => some true
  | .bool, .str _ => some false
  | .bool, .tuple _ => some false
  | .bool, .none => some false
  | .bool, .list _ => some false
  | .str, .int _ => some false
  | .str, .bool _ => some false
  | .str, .str _ => some true
  | .str, .tuple _ => some false
  | .str, .none => some false
  | .str, .list _ => some false
  | .tuple, .int _ => some false
  | .tuple, .bool _ => some false
  | .tuple, .str _ => some false
  | .tuple, .tuple _ => some true
  | .tuple, .none => some false
  | .tuple, .list _ => some false
  | _, .dict _ => none
def rng (a b : Int) : Option (List PyData) := gd ((-(2 ^ 62) ≤ a ∧ a < 2 ^ 62 ∧ -(2 ^ 62) ≤ b ∧ b < 2 ^ 62) ∧ (b - a).toNat ≤ LIM) (some ((List.range (b - a).toNat).map fun k => .int (a + (k : Nat))))
def enumd (ds : List PyData) : List PyData := ds.mapIdx fun i d => .tuple [.int i, d]

mutual
def bindT : Tg → PyData → Rho → Option Rho
  | .nm i, d, ρ => if i < ρ.length then some (ρ.set i (.fz d)) else none
  | .tp ts, .tuple ds, ρ => bindTs ts ds ρ
  | .tp _, _, _ => none
def bindTs : Tgs → List PyData → Rho → Option Rho
  | .nil, [], ρ => some ρ
  | .cons t ts, d :: ds, ρ => (bindT t d ρ).bind (bindTs ts ds)
  | _, _, _ => none
end
mutual
def slots : Tg → List Nat
  | .nm i => [i]
  | .tp ts => slotss ts
def slotss : Tgs → List Nat
  | .nil => []
  | .cons t ts => slots t ++ slotss ts
end
def wipeR (ρ : Rho) : List Nat → Rho
  | [] => ρ
  | v :: vs => (wipeR ρ vs).set v .un

/-- a list comprehension's turns -/
def lcF (f : PyData → Option (Option PyData)) : List PyData → Option (List PyData)
  | [] => some []
  | x :: xs => (f x).bind fun r => match r with
    | none => lcF f xs
    | some y => (lcF f xs).map (y :: ·)
/-- all (b0 = true), any (b0 = false) -/
def genF (b0 : Bool) (f : PyData → Option (Option Bool)) : List PyData → Option Bool
  | [] => some b0
  | x :: xs => (f x).bind fun r => match r with
    | none => genF b0 f xs
    | some c => if c = b0 then genF b0 f xs else some (!b0)

def zipd : PyData → PyData → Option (List PyData)
  | .list xs, .list ys => some (List.zipWith (fun x y => .tuple [x, y]) xs ys)
  | .tuple xs, .tuple ys => some (List.zipWith (fun x y => .tuple [x, y]) xs ys)
  | _, _ => none
/-- the slots that nobody changes -/
def unOw : Sl → Sl
  | .ow _ => .un
  | .fz d => .fz d
  | .un => .un
def dropOw (ρ : Rho) : Rho := ρ.map unOw
/-- the turns of an outer clause -/
def lcN (f : PyData → Option (List PyData)) : List PyData → Option (List PyData)
  | [] => some []
  | x :: xs => (f x).bind fun ys => (lcN f xs).map (ys ++ ·)
abbrev Fns := Nat → List PyData → Option PyData
mutual
def ev (Φ : Fns) : Ex → Rho → Bool → Option PyData
  | .var i, ρ, bor => match ρ[i]? with
    | some (.fz d) => some d
    | some (.ow d) => if bor then some d else none
    | _ => none
  | .int n, _, _ => some (.int n)
  | .str s, _, _ => some (.str s)
  | .bool b, _, _ => some (.bool b)
  | .non, _, _ => some .none
  | .tup es, ρ, _ => (evs Φ es ρ).bind fun ds => gd (ds.length ≤ LIM) (some (.tuple ds))
  | .lst es, ρ, _ => (evs Φ es ρ).bind fun ds => gd (ds.length ≤ LIM) (some (.list ds))
  | .bin op a b, ρ, _ => (ev Φ a ρ true).bind fun x => (ev Φ b ρ true).bind fun y => binop op x y
  | .neg a, ρ, _ => (ev Φ a ρ true).bind fun x => match x with
    | .int i => some (.int (-i))
    | _ => none
  | .not a, ρ, _ => (ev Φ a ρ true).bind fun x => (truthy x).map fun b => .bool (!b)
  | .and a b, ρ, bor => (ev Φ a ρ true).bind fun x => match x with
    | .bool false => some (.bool false)
    | .bool true => ev Φ b ρ bor
    | _ => none
  | .or a b, ρ, bor => (ev Φ a ρ true).bind fun x => match x with
    | .bool true => some (.bool true)
    | .bool false => ev Φ b ρ bor
    | _ => none
  | .cmp op a b, ρ, _ => (ev Φ a ρ true).bind fun x => (ev Φ b ρ true).bind fun y => (cmpop op x y).map .bool
  | .ch2 op op' a b c, ρ, _ => (ev Φ a ρ true).bind fun x => (ev Φ b ρ true).bind fun y => (cmpop op x y).bind fun t =>
      if t = true then (ev Φ c ρ true).bind fun z => (cmpop op' y z).map .bool else some (.bool false)
  | .isn a, ρ, _ => (ev Φ a ρ true).map fun x => .bool (isN x)
  | .nisn a, ρ, _ => (ev Φ a ρ true).map fun x => .bool (!isN x)
  | .ife c a b, ρ, bor => (ev Φ c ρ true).bind fun x => (truthy x).bind fun t => if t = true then ev Φ a ρ bor else ev Φ b ρ bor
  | .sub a i, ρ, _ => (ev Φ a ρ true).bind fun x => (ev Φ i ρ true).bind fun y => index x y
  | .sl a lo hi, ρ, _ => (ev Φ a ρ true).bind fun x => (evo Φ lo ρ).bind fun l => (evo Φ hi ρ).bind fun h => slice x l h
  | .rev a, ρ, _ => (ev Φ a ρ true).bind revd
  | .call f es, ρ, _ => (evs Φ es ρ).bind (Φ f)
  | .b1 b a, ρ, _ => (ev Φ a ρ true).bind (b1op b)
  | .bi b a, ρ, _ => (ev Φ a ρ true).bind (biop b)
  | .conv l i, ρ, _ => (itms Φ i ρ true).map fun ds => if l = true then .list ds else .tuple ds
  | .b2 b a c, ρ, _ => (ev Φ a ρ true).bind fun x => (ev Φ c ρ true).bind fun y => b2op b x y
  | .isi T a, ρ, _ => (ev Φ a ρ true).bind fun x => (isTy T x).map .bool
  | .lc e t i ifs, ρ, _ => (itms Φ i ρ true).bind fun ds => gd (ds.length ≤ LIM) <| (lcF (fun d => (bindT t d (wipeR ρ (slots t))).bind fun ρ1 => (tsto Φ ifs ρ1).bind fun c => if c = true then (ev Φ e ρ1 false).map some else some none) ds).map .list
  | .gen b0 e t i ifs, ρ, _ => (itms Φ i ρ true).bind fun ds => (genF b0 (fun d => (bindT t d (wipeR ρ (slots t))).bind fun ρ1 => (tsto Φ ifs ρ1).bind fun c => if c = true then (ev Φ e ρ1 true).bind fun x => match x with
      | .bool r => some (some r)
      | _ => none
    else some none) ds).map .bool
  | .gen2 b0 e t i ifs t1 i1 ifs1, ρ, _ => (itms Φ i ρ true).bind fun ds => (genF b0 (fun d => (bindT t d (wipeR ρ (slots t ++ slots t1))).bind fun ρ1 => (tsto Φ ifs ρ1).bind fun c => if c = true then (itms Φ i1 (dropOw ρ1) false).bind fun ds1 => (genF b0 (fun d1 => (bindT t1 d1 (wipeR (dropOw ρ1) (slots t1))).bind fun ρ2 => (tsto Φ ifs1 ρ2).bind fun c1 => if c1 = true then (ev Φ e ρ2 true).bind fun x => match x with
      | .bool r => some (some r)
      | _ => none
    else some none) ds1).map some else some none) ds).map .bool
  | .st l a, ρ, _ => (ev Φ a ρ true).bind fun x => (seq? x).bind fun ds => (setd? ds).map fun es => if l = true then .int es.length else .list es
  | .mt m a b, ρ, _ => (ev Φ a ρ true).bind fun x => (ev Φ b ρ true).bind fun y => mtop m x y
  | .lc2 e t i ifs t1 i1 ifs1, ρ, _ => (itms Φ i ρ true).bind fun ds => (lcN (fun d => (bindT t d (wipeR ρ (slots t ++ slots t1))).bind fun ρ1 => (tsto Φ ifs ρ1).bind fun c => if c = true then (itms Φ i1 (dropOw ρ1) false).bind fun ds1 => lcF (fun d1 => (bindT t1 d1 (wipeR (dropOw ρ1) (slots t1))).bind fun ρ2 => (tsto Φ ifs1 ρ2).bind fun c1 => if c1 = true then (ev Φ e ρ2 false).map some else some none) ds1 else some []) ds).bind fun ys => gd (ys.length ≤ LIM) (some (.list ys))
def evs (Φ : Fns) : Exs → Rho → Option (List PyData)
  | .nil, _ => some []
  | .cons e es, ρ => (ev Φ e ρ false).bind fun d => (evs Φ es ρ).map (d :: ·)
/-- a part of a slice -/
def evo (Φ : Fns) : Exo → Rho → Option (Option Int)
  | .no, _ => some none
  | .yes e, ρ => (ev Φ e ρ true).bind fun x => match x with
    | .int i => some (some i)
    | _ => none
/-- a comprehension's test -/
def tsto (Φ : Fns) : Exo → Rho → Option Bool
  | .no, _ => some true
  | .yes e, ρ => (ev Φ e ρ true).bind truthy
def itms (Φ : Fns) : It → Rho → Bool → Option (List PyData)
  | .ex e, ρ, bor => (ev Φ e ρ bor).bind itm?
  | .rng1 a, ρ, _ => (ev Φ a ρ true).bind fun x => match x with
    | .int n => rng 0 n
    | _ => none
  | .rng2 a b, ρ, _ => (ev Φ a ρ true).bind fun x => (ev Φ b ρ true).bind fun y => match x, y with
    | .int i, .int j => rng i j
    | _, _ => none
  | .enum e, ρ, bor => (ev Φ e ρ bor).bind fun x => (seq? x).map enumd
  | .zip a b, ρ, _ => (ev Φ a ρ false).bind fun x => (ev Φ b ρ false).bind fun y => zipd x y
  | .rv a, ρ, _ => (ev Φ a ρ false).bind fun x => (seq? x).map List.reverse
  | .rrng i, ρ, _ => match i with
    | .rng1 _ => (itms Φ i ρ true).map List.reverse
    | .rng2 _ _ => (itms Φ i ρ true).map List.reverse
    | _ => none
end
@[simp] def tst (Φ : Fns) (e : Ex) (ρ : Rho) : Option Bool := (ev Φ e ρ true).bind truthy

/-! ### statements -/
mutual
inductive Sm where
  | asg (t : Tg) (e : Ex)
  | own (i : Nat) (e : Ex)
  | ret (e : Ex)
  | ife (c : Ex) (a b : Sms)
  | for (t : Tg) (i : It) (body : Sms)
  | whl (c : Ex) (body : Sms)
  | app (x : Nat) (e : Ex)
  | aug (i : Nat) (b : Bool) (e : Ex)
  | frz (is : List Nat) (s : Sm)
  | cont | brk | pass
  | put (x : Nat) (i e : Ex)
  | ext (x : Nat) (e : Ex)
  | rem (x : Nat) (e : Ex)
  | popTo (t : Tg) (x : Nat) (o : Exo)
  | lpop (o : Option Nat) (w : Bool) (x : Nat) (e : Ex) (t : Tg) (i : It)
  | par (i j : Nat) (a b : Ex)
inductive Sms where
  | nil | cons (s : Sm) (r : Sms)
end
inductive Res where
  | nx (ρ : Rho) | rt (d : PyData) | ct (ρ : Rho) | bk (ρ : Rho)
def frzR : Rho → List Nat → Rho
  | ρ, [] => ρ
  | ρ, i :: is => frzR (match ρ[i]? with
    | some (.ow d) => ρ.set i (.fz d)
    | _ => ρ) is
def forF (f : PyData → Rho → Option Res) : List PyData → Rho → Option Res
  | [], ρ => some (.nx ρ)
  | x :: xs, ρ => (f x ρ).bind fun r => match r with
    | .nx ρ' => forF f xs ρ'
    | .ct ρ' => forF f xs ρ'
    | .bk ρ' => some (.nx ρ')
    | .rt d => some (.rt d)
def whileF (c : Rho → Option Bool) (f : Rho → Option Res) : Nat → Rho → Option Res
  | 0, _ => none
  | n + 1, ρ => (c ρ).bind fun t => if t = true then (f ρ).bind fun r => match r with
      | .nx ρ' => whileF c f n ρ'
      | .ct ρ' => whileF c f n ρ'
      | .bk ρ' => some (.nx ρ')
      | .rt d => some (.rt d)
    else some (.nx ρ)
@[simp] def isMut : PyData → Bool
  | .list _ => true
  | .dict _ => true
  | _ => false
/-- pop() and pop(i) -/
def popd (ds : List PyData) : Option Int → Option (PyData × List PyData)
  | none => (ds[ds.length - 1]?).map fun d => (d, ds.dropLast)
  | some i => gd (ds.length ≤ LIM) ((L2.ixN ds.length i).bind fun k => (ds[k]?).map fun d => (d, ds.eraseIdx k))
/-- the turns of [x.pop(e) for ..] -/
def popF (f : PyData → List PyData → Option (PyData × List PyData)) : List PyData → List PyData → Option (List PyData)
  | [], _ => some []
  | x :: xs, ls => (f x ls).bind fun r => (popF f xs r.2).map (r.1 :: ·)
mutual
def exS (Φ : Fns) (n : Nat) : Sm → Rho → Option Res
  | .asg t e, ρ => (ev Φ e ρ false).bind fun d => (bindT t d ρ).map .nx
  | .own i e, ρ => (ev Φ e ρ false).bind fun d => if isMut d = true ∧ i < ρ.length then some (.nx (ρ.set i (.ow d))) else none
  | .ret e, ρ => (ev Φ e ρ false).map .rt
  | .ife c a b, ρ => (tst Φ c ρ).bind fun t => if t = true then exSs Φ n a ρ else exSs Φ n b ρ
  | .for t i body, ρ => (itms Φ i ρ false).bind fun ds => forF (fun d ρ' => (bindT t d ρ').bind (exSs Φ n body)) ds ρ
  | .whl c body, ρ => whileF (tst Φ c) (exSs Φ n body) n ρ
  | .app x e, ρ => (ev Φ e ρ false).bind fun d => match ρ[x]? with
    | some (.ow (.list ds)) => gd (ds.length < LIM) (some (.nx (ρ.set x (.ow (.list (ds ++ [d]))))))
    | _ => none
  | .aug i b e, ρ => (ev Φ e ρ true).bind fun d => match ρ[i]?, d with
    | some (.fz (.int x)), .int y => some (.nx (ρ.set i (.fz (.int (if b = true then x + y else x - y)))))
    | _, _ => none
  | .frz is s, ρ => exS Φ n s (frzR ρ is)
  | .cont, ρ => some (.ct ρ)
  | .brk, ρ => some (.bk ρ)
  | .pass, ρ => some (.nx ρ)
  | .put x i e, ρ => (ev Φ e ρ false).bind fun d => (ev Φ i ρ true).bind fun k => match ρ[x]?, k with
    | some (.ow (.list ds)), .int k => (L2.ixN ds.length k).map fun j => .nx (ρ.set x (.ow (.list (ds.set j d))))
    | _, _ => none
  | .ext x e, ρ => (ev Φ e ρ false).bind fun d => match ρ[x]?, d with
    | some (.ow (.list ds)), .list es => gd (ds.length + es.length ≤ LIM) (some (.nx (ρ.set x (.ow (.list (ds ++ es))))))
    | _, _ => none
  | .rem x e, ρ => (ev Φ e ρ true).bind fun d => match ρ[x]?, d with
    | some (.ow (.list ds)), .int k => (ints? ds).bind fun ns => if k ∈ ns then some (.nx (ρ.set x (.ow (.list ((ns.erase k).map .int))))) else none
    | _, _ => none
  | .popTo t x o, ρ => (evo Φ o ρ).bind fun q => match ρ[x]? with
    | some (.ow (.list ds)) => (popd ds q).bind fun r => if x ∈ slots t then none else (bindT t r.1 (ρ.set x (.ow (.list r.2)))).map .nx
    | _ => none
  | .lpop o w x e t i, ρ => match ρ[x]? with
    | some (.ow (.list ls)) => if x ∈ slots t then none else (itms Φ i ρ false).bind fun ds => gd (ds.length ≤ LIM) <| (popF (fun d left => (bindT t d (wipeR (ρ.set x (.ow (.list left))) (slots t))).bind fun ρ1 => (ev Φ e ρ1 true).bind fun k => match k with
        | .int k => popd left (some k)
        | _ => none) ds ls).bind fun ys => match o with
          | none => some (.rt (if w = true then .tuple ys else .list ys))
          | some j => if j < ρ.length then some (.nx ((ρ.set x .un).set j (.fz (if w = true then .tuple ys else .list ys)))) else none
    | _ => none
  | .par i j a b, ρ => (ev Φ a ρ false).bind fun x => (ev Φ b ρ false).bind fun y => if i ≠ j ∧ i < ρ.length ∧ j < ρ.length then some (.nx ((ρ.set i (.fz x)).set j (.fz y))) else none
def exSs (Φ : Fns) (n : Nat) : Sms → Rho → Option Res
  | .nil, ρ => some (.nx ρ)
  | .cons s r, ρ => (exS Φ n s ρ).bind fun x => match x with
    | .nx ρ' => exSs Φ n r ρ'
    | y => some y
end
/-- a def: how many slots, its parameters' number, its body -/
@[simp] def startR (k : Nat) (ds : List PyData) : Rho := ds.map .fz ++ List.replicate (k - ds.length) .un
@[simp] def runD (Φ : Fns) (n k : Nat) (body : Sms) (ds : List PyData) : Option PyData := match exSs Φ n body (startR k ds) with
  | some (.rt d) => some d
  | some (.nx _) => some .none
  | _ => none
/-! the equations, told so that each step stands in the proof -/
section
@[simp] theorem isN_d0 : isN .none = true := rfl
@[simp] theorem isN_d1 (b : Bool) : isN (.bool b) = false := rfl
@[simp] theorem isN_d2 (b : Int) : isN (.int b) = false := rfl
@[simp] theorem isN_d3 (b : Str) : isN (.str b) = false := rfl
@[simp] theorem isN_d4 (b : List PyData) : isN (.tuple b) = false := rfl
@[simp] theorem isN_d5 (b : List PyData) : isN (.list b) = false := rfl
@[simp] theorem truthy_c0  : truthy .none = some false := by
  first
  | rfl
  | (unfold truthy; rfl)
@[simp] theorem truthy_c1 (b : Bool) : truthy (.bool b) = some b := by
  first
  | rfl
  | (unfold truthy; rfl)
@[simp] theorem truthy_c2 (i : Int) : truthy (.int i) = some (i != 0) := by
  first
  | rfl
  | (unfold truthy; rfl)
@[simp] theorem truthy_c3 (s : Str) : truthy (.str s) = gd (s.length ≤ LIM) (some ((s.length : Int) != 0)) := by
  first
  | rfl
  | (unfold truthy; rfl)
@[simp] theorem truthy_c4 (xs : List PyData) : truthy (.list xs) = some (!xs.isEmpty) := by
  first
  | rfl
  | (unfold truthy; rfl)
@[simp] theorem truthy_c5 (xs : List PyData) : truthy (.tuple xs) = some (!xs.isEmpty) := by
  first
  | rfl
  | (unfold truthy; rfl)
@[simp] theorem truthy_c6 (kvs : List (PyData × PyData)) : truthy (.dict kvs) = some (!kvs.isEmpty) := by
  first
  | rfl
  | (unfold truthy; rfl)
@[simp] theorem binop_c0 (i : Int) (j : Int) : binop .add (.int i) (.int j) = some (.int (i + j)) := by
  first
  | rfl
  | (unfold binop; rfl)
@[simp] theorem binop_c1 (s : Str) (t : Str) : binop .add (.str s) (.str t) = gd (s.length + t.length ≤ LIM) (some (.str (s ++ t))) := by
  first
  | rfl
  | (unfold binop; rfl)
@[simp] theorem binop_c2 (xs : List PyData) (ys : List PyData) : binop .add (.tuple xs) (.tuple ys) = gd (xs.length + ys.length ≤ LIM) (some (.tuple (xs ++ ys))) := by
  first
  | rfl
  | (unfold binop; rfl)
@[simp] theorem binop_c3 (xs : List PyData) (ys : List PyData) : binop .add (.list xs) (.list ys) = gd (xs.length + ys.length ≤ LIM) (some (.list (xs ++ ys))) := by
  first
  | rfl
  | (unfold binop; rfl)
@[simp] theorem binop_c4 (i : Int) (j : Int) : binop .sub (.int i) (.int j) = some (.int (i - j)) := by
  first
  | rfl
  | (unfold binop; rfl)
@[simp] theorem binop_c5 (i : Int) (j : Int) : binop .mul (.int i) (.int j) = gd ((-(2 ^ 64) < i ∧ i < 2 ^ 64) ∨ (-(2 ^ 64) < j ∧ j < 2 ^ 64)) (some (.int (i * j))) := by
  first
  | rfl
  | (unfold binop; rfl)
@[simp] theorem binop_c6 (i : Int) (j : Int) : binop .mod (.int i) (.int j) = gd (0 < j) (some (.int (i % j))) := by
  first
  | rfl
  | (unfold binop; rfl)
@[simp] theorem binop_c7 (i : Int) (j : Int) : binop .fdiv (.int i) (.int j) = gd (0 < j ∧ j < 1073741824) (some (.int (i / j))) := by
  first
  | rfl
  | (unfold binop; rfl)
@[simp] theorem binop_c8 (i : Int) (j : Int) : binop .pow (.int i) (.int j) = gd (0 ≤ j ∧ j ≤ 1000000 ∧ i.natAbs < 2 ^ 64) (some (.int (i ^ j.toNat))) := by
  first
  | rfl
  | (unfold binop; rfl)
@[simp] theorem binop_c9 (i : Int) (j : Int) : binop .shl (.int i) (.int j) = gd (0 ≤ j ∧ j ≤ 1000000 ∧ i.natAbs < 2 ^ 64) (some (.int (i * 2 ^ j.toNat))) := by
  first
  | rfl
  | (unfold binop; rfl)
@[simp] theorem cmpop_c0 (x : PyData) (y : PyData) : cmpop .eq x y = if isData x y then some (PyData.eqv x y) else none := by
  first
  | rfl
  | (unfold cmpop; rfl)
@[simp] theorem cmpop_c1 (x : PyData) (y : PyData) : cmpop .ne x y = if isData x y then some (!PyData.eqv x y) else none := by
  first
  | rfl
  | (unfold cmpop; rfl)
@[simp] theorem cmpop_c2 (i : Int) (j : Int) : cmpop .lt (.int i) (.int j) = some (decide (i < j)) := by
  first
  | rfl
  | (unfold cmpop; rfl)
@[simp] theorem cmpop_c3 (i : Int) (j : Int) : cmpop .le (.int i) (.int j) = some (decide (i ≤ j)) := by
  first
  | rfl
  | (unfold cmpop; rfl)
@[simp] theorem cmpop_c4 (i : Int) (j : Int) : cmpop .gt (.int i) (.int j) = some (decide (j < i)) := by
  first
  | rfl
  | (unfold cmpop; rfl)
@[simp] theorem cmpop_c5 (i : Int) (j : Int) : cmpop .ge (.int i) (.int j) = some (decide (j ≤ i)) := by
  first
  | rfl
  | (unfold cmpop; rfl)
@[simp] theorem cmpop_c6 (xs : List PyData) (ys : List PyData) : cmpop .lt (.tuple xs) (.tuple ys) = if isData (.tuple xs) (.tuple ys) && PySem.W.alike (.tuple xs) (.tuple ys) then some (PySem.W.dataLt (.tuple xs) (.tuple ys)) else none := by
  first
  | rfl
  | (unfold cmpop; rfl)
@[simp] theorem cmpop_c7 (x : PyData) (ys : List PyData) : cmpop .isin x (.tuple ys) = if isData x (.tuple ys) then some (ys.any fun y => PyData.eqv y x) else none := by
  first
  | rfl
  | (unfold cmpop; rfl)
@[simp] theorem cmpop_c8 (x : PyData) (ys : List PyData) : cmpop .isin x (.list ys) = if isData x (.list ys) then some (ys.any fun y => PyData.eqv y x) else none := by
  first
  | rfl
  | (unfold cmpop; rfl)
@[simp] theorem cmpop_c9 (x : PyData) (ys : List PyData) : cmpop .notin x (.tuple ys) = if isData x (.tuple ys) then some (!ys.any fun y => PyData.eqv y x) else none := by
  first
  | rfl
  | (unfold cmpop; rfl)
@[simp] theorem cmpop_c10 (x : PyData) (ys : List PyData) : cmpop .notin x (.list ys) = if isData x (.list ys) then some (!ys.any fun y => PyData.eqv y x) else none := by
  first
  | rfl
  | (unfold cmpop; rfl)
@[simp] theorem index_c0 (xs : List PyData) (i : Int) : index (.tuple xs) (.int i) = L2.atI xs i := by
  first
  | rfl
  | (unfold index; rfl)
@[simp] theorem index_c1 (xs : List PyData) (i : Int) : index (.list xs) (.int i) = L2.atI xs i := by
  first
  | rfl
  | (unfold index; rfl)
@[simp] theorem index_c2 (z : Str) (i : Int) : index (.str z) (.int i) = gd (z.length ≤ LIM) ((L2.atI z.cps.toList i).map fun c => .str ⟨#[c]⟩) := by
  first
  | rfl
  | (unfold index; rfl)
@[simp] theorem slice_c0 (xs : List PyData) (lo : Option Int) (hi : Option Int) : slice (.tuple xs) lo hi = some (.tuple (cut xs lo hi)) := by
  first
  | rfl
  | (unfold slice; rfl)
@[simp] theorem slice_c1 (xs : List PyData) (lo : Option Int) (hi : Option Int) : slice (.list xs) lo hi = some (.list (cut xs lo hi)) := by
  first
  | rfl
  | (unfold slice; rfl)
@[simp] theorem revd_c0 (xs : List PyData) : revd (.tuple xs) = some (.tuple xs.reverse) := by
  first
  | rfl
  | (unfold revd; rfl)
@[simp] theorem revd_c1 (xs : List PyData) : revd (.list xs) = some (.list xs.reverse) := by
  first
  | rfl
  | (unfold revd; rfl)
@[simp] theorem b1op_c0 (xs : List PyData) : b1op .len (.tuple xs) = some (.int xs.length) := by
  first
  | rfl
  | (unfold b1op; rfl)
@[simp] theorem b1op_c1 (xs : List PyData) : b1op .len (.list xs) = some (.int xs.length) := by
  first
  | rfl
  | (unfold b1op; rfl)
@[simp] theorem b1op_c2 (s : Str) : b1op .len (.str s) = gd (s.length ≤ LIM) (some (.int s.length)) := by
  first
  | rfl
  | (unfold b1op; rfl)
@[simp] theorem b1op_c3 (i : Int) : b1op .abs (.int i) = some (.int (if i < 0 then -i else i)) := by
  first
  | rfl
  | (unfold b1op; rfl)
@[simp] theorem b1op_c4 (i : Int) : b1op .int (.int i) = some (.int i) := by
  first
  | rfl
  | (unfold b1op; rfl)
@[simp] theorem b1op_c5 (i : Int) : b1op .str (.int i) = gd (i.natAbs.log2 < 1920) (some (.str (toString i))) := by
  first
  | rfl
  | (unfold b1op; rfl)
@[simp] theorem b2op_c0 (i : Int) (j : Int) : b2op .max (.int i) (.int j) = some (.int (if j > i then j else i)) := by
  first
  | rfl
  | (unfold b2op; rfl)
@[simp] theorem b2op_c1 (i : Int) (j : Int) : b2op .min (.int i) (.int j) = some (.int (if j < i then j else i)) := by
  first
  | rfl
  | (unfold b2op; rfl)
@[simp] theorem intsQ_c0  : ints? [] = some [] := by
  rw [ints?]
@[simp] theorem intsQ_c1 (i : Int) (r : List PyData) : ints? (.int i :: r) = (ints? r).map (i :: ·) := by
  rw [ints?]
@[simp] theorem boolsQ_c0  : bools? [] = some [] := by
  rw [bools?]
@[simp] theorem boolsQ_c1 (i : Bool) (r : List PyData) : bools? (.bool i :: r) = (bools? r).map (i :: ·) := by
  rw [bools?]
@[simp] theorem seqQ_c0 (xs : List PyData) : seq? (.tuple xs) = some xs := by
  first
  | rfl
  | (unfold seq?; rfl)
@[simp] theorem seqQ_c1 (xs : List PyData) : seq? (.list xs) = some xs := by
  first
  | rfl
  | (unfold seq?; rfl)
@[simp] theorem lstQ_c0 (xs : List PyData) : lst? (.list xs) = some xs := by
  first
  | rfl
  | (unfold lst?; rfl)
@[simp] theorem biop_c0 (d : PyData) : biop .tuple d = (seq? d).map .tuple := by
  first
  | rfl
  | (unfold biop; rfl)
@[simp] theorem biop_c1 (d : PyData) : biop .list d = (seq? d).map .list := by
  first
  | rfl
  | (unfold biop; rfl)
@[simp] theorem biop_c2 (d : PyData) : biop .sorted d = (seq? d).bind fun ds => gd (sortable ds = true ∧ ds.length ≤ LIM) (some (.list (sortd ds))) := by
  first
  | rfl
  | (unfold biop; rfl)
@[simp] theorem biop_c3 (d : PyData) : biop .sum d = (seq? d).bind fun ds => (ints? ds).map fun ns => .int ns.sum := by
  first
  | rfl
  | (unfold biop; rfl)
@[simp] theorem biop_c4 (d : PyData) : biop .max d = (seq? d).bind (mmd true) := by
  first
  | rfl
  | (unfold biop; rfl)
@[simp] theorem biop_c5 (d : PyData) : biop .min d = (seq? d).bind (mmd false) := by
  first
  | rfl
  | (unfold biop; rfl)
@[simp] theorem biop_c6 (d : PyData) : biop .all d = (lst? d).bind fun ds => (bools? ds).map fun bs => .bool (bs.all id) := by
  first
  | rfl
  | (unfold biop; rfl)
@[simp] theorem biop_c7 (d : PyData) : biop .any d = (lst? d).bind fun ds => (bools? ds).map fun bs => .bool (bs.any id) := by
  first
  | rfl
  | (unfold biop; rfl)
@[simp] theorem isTy_c0 (q0 : Int) : isTy .int (.int q0) = some true := by
  first
  | rfl
  | (unfold isTy; rfl)
@[simp] theorem isTy_c1 (q0 : Bool) : isTy .int (.bool q0) = some true := by
  first
  | rfl
  | (unfold isTy; rfl)
@[simp] theorem isTy_c2 (q0 : Str) : isTy .int (.str q0) = some false := by
  first
  | rfl
  | (unfold isTy; rfl)
@[simp] theorem isTy_c3 (q0 : List PyData) : isTy .int (.tuple q0) = some false := by
  first
  | rfl
  | (unfold isTy; rfl)
@[simp] theorem isTy_c4  : isTy .int .none = some false := by
  first
  | rfl
  | (unfold isTy; rfl)
@[simp] theorem isTy_c5 (q0 : List PyData) : isTy .int (.list q0) = some false := by
  first
  | rfl
  | (unfold isTy; rfl)
@[simp] theorem isTy_c6 (q0 : Int) : isTy .bool (.int q0) = some false := by
  first
  | rfl
  | (unfold isTy; rfl)
@[simp] theorem isTy_c7 (q0 : Bool) : isTy .bool (.bool q0) = some true := by
  first
  | rfl
  | (unfold isTy; rfl)
@[simp] theorem isTy_c8 (q0 : Str) : isTy .bool (.str q0) = some false := by
  first
  | rfl
  | (unfold isTy; rfl)
@[simp] theorem isTy_c9 (q0 : List PyData) : isTy .bool (.tuple q0) = some false := by
  first
  | rfl
  | (unfold isTy; rfl)
@[simp] theorem isTy_c10  : isTy .bool .none = some false := by
  first
  | rfl
  | (unfold isTy; rfl)
@[simp] theorem isTy_c11 (q0 : List PyData) : isTy .bool (.list q0) = some false := by
  first
  | rfl
  | (unfold isTy; rfl)
@[simp] theorem isTy_c12 (q0 : Int) : isTy .str (.int q0) = some false := by
  first
  | rfl
  | (unfold isTy; rfl)
@[simp] theorem isTy_c13 (q0 : Bool) : isTy .str (.bool q0) = some false := by
  first
  | rfl
  | (unfold isTy; rfl)
@[simp] theorem isTy_c14 (q0 : Str) : isTy .str (.str q0) = some true := by
  first
  | rfl
  | (unfold isTy; rfl)
@[simp] theorem isTy_c15 (q0 : List PyData) : isTy .str (.tuple q0) = some false := by
  first
  | rfl
  | (unfold isTy; rfl)
@[simp] theorem isTy_c16  : isTy .str .none = some false := by
  first
  | rfl
  | (unfold isTy; rfl)
@[simp] theorem isTy_c17 (q0 : List PyData) : isTy .str (.list q0) = some false := by
  first
  | rfl
  | (unfold isTy; rfl)
@[simp] theorem isTy_c18 (q0 : Int) : isTy .tuple (.int q0) = some false := by
  first
  | rfl
  | (unfold isTy; rfl)
@[simp] theorem isTy_c19 (q0 : Bool) : isTy .tuple (.bool q0) = some false := by
  first
  | rfl
  | (unfold isTy; rfl)
@[simp] theorem isTy_c20 (q0 : Str) : isTy .tuple (.str q0) = some false := by
  first
  | rfl
  | (unfold isTy; rfl)
@[simp] theorem isTy_c21 (q0 : List PyData) : isTy .tuple (.tuple q0) = some true := by
  first
  | rfl
  | (unfold isTy; rfl)
@[simp] theorem isTy_c22  : isTy .tuple .none = some false := by
  first
  | rfl
  | (unfold isTy; rfl)
@[simp] theorem isTy_c23 (q0 : List PyData) : isTy .tuple (.list q0) = some false := by
  first
  | rfl
  | (unfold isTy; rfl)
@[simp] theorem isN_c0  : isN .none = true := by
  first
  | rfl
  | (unfold isN; rfl)
@[simp] theorem bindT_e0 (i : Nat) (d : PyData) (ρ : Rho) : bindT (.nm i) d ρ = if i < ρ.length then some (ρ.set i (.fz d)) else none := by
  rw [bindT]
@[simp] theorem bindT_e1 (ts : Tgs) (ds : List PyData) (ρ : Rho) : bindT (.tp ts) (.tuple ds) ρ = bindTs ts ds ρ := by
  rw [bindT]
@[simp] theorem bindTs_e0 (ρ : Rho) : bindTs .nil [] ρ = some ρ := by
  rw [bindTs]
@[simp] theorem bindTs_e1 (t : Tg) (ts : Tgs) (d : PyData) (ds : List PyData) (ρ : Rho) : bindTs (.cons t ts) (d :: ds) ρ = (bindT t d ρ).bind (bindTs ts ds) := by
  rw [bindTs]
@[simp] theorem slots_e0 (i : Nat) : slots (.nm i) = [i] := by
  rw [slots]
@[simp] theorem slots_e1 (ts : Tgs) : slots (.tp ts) = slotss ts := by
  rw [slots]
@[simp] theorem slotss_e0 : slotss .nil = [] := by
  rw [slotss]
@[simp] theorem slotss_e1 (t : Tg) (ts : Tgs) : slotss (.cons t ts) = slots t ++ slotss ts := by
  rw [slotss]
@[simp] theorem wipeR_e0 (ρ : Rho) : wipeR ρ [] = ρ := by
  rw [wipeR]
@[simp] theorem wipeR_e1 (ρ : Rho) (v : Nat) (vs : List Nat) : wipeR ρ (v :: vs) = (wipeR ρ vs).set v .un := by
  rw [wipeR]
@[simp] theorem frzR_e0 (ρ : Rho) : frzR ρ [] = ρ := by
  rw [frzR]
@[simp] theorem frzR_e1 (ρ : Rho) (i : Nat) (is : List Nat) : frzR ρ (i :: is) = frzR (match ρ[i]? with
    | some (.ow d) => ρ.set i (.fz d)
    | _ => ρ) is := by
  rw [frzR]
@[simp] theorem ev_e0 (Φ : Fns) (i : Nat) (ρ : Rho) (bor : Bool) : ev Φ (.var i) ρ bor = match ρ[i]? with
    | some (.fz d) => some d
    | some (.ow d) => if bor then some d else none
    | _ => none := by
  rw [ev]
@[simp] theorem ev_e1 (Φ : Fns) (n : Int) (z0 : Rho) (z1 : Bool) : ev Φ (.int n) z0 z1 = some (.int n) := by
  rw [ev]
@[simp] theorem ev_e2 (Φ : Fns) (s : Str) (z0 : Rho) (z1 : Bool) : ev Φ (.str s) z0 z1 = some (.str s) := by
  rw [ev]
@[simp] theorem ev_e3 (Φ : Fns) (b : Bool) (z0 : Rho) (z1 : Bool) : ev Φ (.bool b) z0 z1 = some (.bool b) := by
  rw [ev]
@[simp] theorem ev_e4 (Φ : Fns)  (z0 : Rho) (z1 : Bool) : ev Φ .non z0 z1 = some .none := by
  rw [ev]
@[simp] theorem ev_e5 (Φ : Fns) (es : Exs) (ρ : Rho) (z1 : Bool) : ev Φ (.tup es) ρ z1 = (evs Φ es ρ).bind fun ds => gd (ds.length ≤ LIM) (some (.tuple ds)) := by
  rw [ev]
@[simp] theorem ev_e6 (Φ : Fns) (es : Exs) (ρ : Rho) (z1 : Bool) : ev Φ (.lst es) ρ z1 = (evs Φ es ρ).bind fun ds => gd (ds.length ≤ LIM) (some (.list ds)) := by
  rw [ev]
@[simp] theorem ev_e7 (Φ : Fns) (op : Bop) (a b : Ex) (ρ : Rho) (z1 : Bool) : ev Φ (.bin op a b) ρ z1 = (ev Φ a ρ true).bind fun x => (ev Φ b ρ true).bind fun y => binop op x y := by
  rw [ev]
@[simp] theorem ev_e8 (Φ : Fns) (a : Ex) (ρ : Rho) (z1 : Bool) : ev Φ (.neg a) ρ z1 = (ev Φ a ρ true).bind fun x => match x with
    | .int i => some (.int (-i))
    | _ => none := by
  rw [ev]
@[simp] theorem ev_e9 (Φ : Fns) (a : Ex) (ρ : Rho) (z1 : Bool) : ev Φ (.not a) ρ z1 = (ev Φ a ρ true).bind fun x => (truthy x).map fun b => .bool (!b) := by
  rw [ev]
@[simp] theorem ev_e10 (Φ : Fns) (a b : Ex) (ρ : Rho) (bor : Bool) : ev Φ (.and a b) ρ bor = (ev Φ a ρ true).bind fun x => match x with
    | .bool false => some (.bool false)
    | .bool true => ev Φ b ρ bor
    | _ => none := by
  rw [ev]
@[simp] theorem ev_e11 (Φ : Fns) (a b : Ex) (ρ : Rho) (bor : Bool) : ev Φ (.or a b) ρ bor = (ev Φ a ρ true).bind fun x => match x with
    | .bool true => some (.bool true)
    | .bool false => ev Φ b ρ bor
    | _ => none := by
  rw [ev]
@[simp] theorem ev_e12 (Φ : Fns) (op : Cop) (a b : Ex) (ρ : Rho) (z1 : Bool) : ev Φ (.cmp op a b) ρ z1 = (ev Φ a ρ true).bind fun x => (ev Φ b ρ true).bind fun y => (cmpop op x y).map .bool := by
  rw [ev]
@[simp] theorem ev_e13 (Φ : Fns) (op op' : Cop) (a b c : Ex) (ρ : Rho) (z1 : Bool) : ev Φ (.ch2 op op' a b c) ρ z1 = (ev Φ a ρ true).bind fun x => (ev Φ b ρ true).bind fun y => (cmpop op x y).bind fun t =>
      if t = true then (ev Φ c ρ true).bind fun z => (cmpop op' y z).map .bool else some (.bool false) := by
  rw [ev]
@[simp] theorem ev_e14 (Φ : Fns) (a : Ex) (ρ : Rho) (z1 : Bool) : ev Φ (.isn a) ρ z1 = (ev Φ a ρ true).map fun x => .bool (isN x) := by
  rw [ev]
@[simp] theorem ev_e15 (Φ : Fns) (a : Ex) (ρ : Rho) (z1 : Bool) : ev Φ (.nisn a) ρ z1 = (ev Φ a ρ true).map fun x => .bool (!isN x) := by
  rw [ev]
@[simp] theorem ev_e16 (Φ : Fns) (c a b : Ex) (ρ : Rho) (bor : Bool) : ev Φ (.ife c a b) ρ bor = (ev Φ c ρ true).bind fun x => (truthy x).bind fun t => if t = true then ev Φ a ρ bor else ev Φ b ρ bor := by
  rw [ev]
@[simp] theorem ev_e17 (Φ : Fns) (a i : Ex) (ρ : Rho) (z1 : Bool) : ev Φ (.sub a i) ρ z1 = (ev Φ a ρ true).bind fun x => (ev Φ i ρ true).bind fun y => index x y := by
  rw [ev]
@[simp] theorem ev_e18 (Φ : Fns) (a : Ex) (lo hi : Exo) (ρ : Rho) (z1 : Bool) : ev Φ (.sl a lo hi) ρ z1 = (ev Φ a ρ true).bind fun x => (evo Φ lo ρ).bind fun l => (evo Φ hi ρ).bind fun h => slice x l h := by
  rw [ev]
@[simp] theorem ev_e19 (Φ : Fns) (a : Ex) (ρ : Rho) (z1 : Bool) : ev Φ (.rev a) ρ z1 = (ev Φ a ρ true).bind revd := by
  rw [ev]
@[simp] theorem ev_e20 (Φ : Fns) (f : Nat) (es : Exs) (ρ : Rho) (z1 : Bool) : ev Φ (.call f es) ρ z1 = (evs Φ es ρ).bind (Φ f) := by
  rw [ev]
@[simp] theorem ev_e21 (Φ : Fns) (b : B1) (a : Ex) (ρ : Rho) (z1 : Bool) : ev Φ (.b1 b a) ρ z1 = (ev Φ a ρ true).bind (b1op b) := by
  rw [ev]
@[simp] theorem ev_e22 (Φ : Fns) (b : Bi) (a : Ex) (ρ : Rho) (z1 : Bool) : ev Φ (.bi b a) ρ z1 = (ev Φ a ρ true).bind (biop b) := by
  rw [ev]
@[simp] theorem ev_e23 (Φ : Fns) (l : Bool) (i : It) (ρ : Rho) (z1 : Bool) : ev Φ (.conv l i) ρ z1 = (itms Φ i ρ true).map fun ds => if l = true then .list ds else .tuple ds := by
  rw [ev]
@[simp] theorem ev_e24 (Φ : Fns) (b : B2) (a c : Ex) (ρ : Rho) (z1 : Bool) : ev Φ (.b2 b a c) ρ z1 = (ev Φ a ρ true).bind fun x => (ev Φ c ρ true).bind fun y => b2op b x y := by
  rw [ev]
@[simp] theorem ev_e25 (Φ : Fns) (T : Tyn) (a : Ex) (ρ : Rho) (z1 : Bool) : ev Φ (.isi T a) ρ z1 = (ev Φ a ρ true).bind fun x => (isTy T x).map .bool := by
  rw [ev]
@[simp] theorem ev_e26 (Φ : Fns) (e : Ex) (t : Tg) (i : It) (ifs : Exo) (ρ : Rho) (z1 : Bool) : ev Φ (.lc e t i ifs) ρ z1 = (itms Φ i ρ true).bind fun ds => gd (ds.length ≤ LIM) <| (lcF (fun d => (bindT t d (wipeR ρ (slots t))).bind fun ρ1 => (tsto Φ ifs ρ1).bind fun c => if c = true then (ev Φ e ρ1 false).map some else some none) ds).map .list := by
  rw [ev]
@[simp] theorem ev_e27 (Φ : Fns) (b0 : Bool) (e : Ex) (t : Tg) (i : It) (ifs : Exo) (ρ : Rho) (z1 : Bool) : ev Φ (.gen b0 e t i ifs) ρ z1 = (itms Φ i ρ true).bind fun ds => (genF b0 (fun d => (bindT t d (wipeR ρ (slots t))).bind fun ρ1 => (tsto Φ ifs ρ1).bind fun c => if c = true then (ev Φ e ρ1 true).bind fun x => match x with
      | .bool r => some (some r)
      | _ => none
    else some none) ds).map .bool := by
  rw [ev]
@[simp] theorem ev_e28 (Φ : Fns) (l : Bool) (a : Ex) (ρ : Rho) (z1 : Bool) : ev Φ (.st l a) ρ z1 = (ev Φ a ρ true).bind fun x => (seq? x).bind fun ds => (setd? ds).map fun es => if l = true then .int es.length else .list es := by
  rw [ev]
@[simp] theorem ev_e29 (Φ : Fns) (e : Ex) (t : Tg) (i : It) (ifs : Exo) (t1 : Tg) (i1 : It) (ifs1 : Exo) (ρ : Rho) (z1 : Bool) : ev Φ (.lc2 e t i ifs t1 i1 ifs1) ρ z1 = (itms Φ i ρ true).bind fun ds => (lcN (fun d => (bindT t d (wipeR ρ (slots t ++ slots t1))).bind fun ρ1 => (tsto Φ ifs ρ1).bind fun c => if c = true then (itms Φ i1 (dropOw ρ1) false).bind fun ds1 => lcF (fun d1 => (bindT t1 d1 (wipeR (dropOw ρ1) (slots t1))).bind fun ρ2 => (tsto Φ ifs1 ρ2).bind fun c1 => if c1 = true then (ev Φ e ρ2 false).map some else some none) ds1 else some []) ds).bind fun ys => gd (ys.length ≤ LIM) (some (.list ys)) := by
  rw [ev]
@[simp] theorem ev_e30 (Φ : Fns) (m : Mt) (a b : Ex) (ρ : Rho) (z1 : Bool) : ev Φ (.mt m a b) ρ z1 = (ev Φ a ρ true).bind fun x => (ev Φ b ρ true).bind fun y => mtop m x y := by
  rw [ev]
@[simp] theorem ev_e31 (Φ : Fns) (b0 : Bool) (e : Ex) (t : Tg) (i : It) (ifs : Exo) (t1 : Tg) (i1 : It) (ifs1 : Exo) (ρ : Rho) (z1 : Bool) : ev Φ (.gen2 b0 e t i ifs t1 i1 ifs1) ρ z1 = (itms Φ i ρ true).bind fun ds => (genF b0 (fun d => (bindT t d (wipeR ρ (slots t ++ slots t1))).bind fun ρ1 => (tsto Φ ifs ρ1).bind fun c => if c = true then (itms Φ i1 (dropOw ρ1) false).bind fun ds1 => (genF b0 (fun d1 => (bindT t1 d1 (wipeR (dropOw ρ1) (slots t1))).bind fun ρ2 => (tsto Φ ifs1 ρ2).bind fun c1 => if c1 = true then (ev Φ e ρ2 true).bind fun x => match x with
      | .bool r => some (some r)
      | _ => none
    else some none) ds1).map some else some none) ds).map .bool := by
  rw [ev]
@[simp] theorem evs_e0 (Φ : Fns)  (z0 : Rho) : evs Φ .nil z0 = some [] := by
  rw [evs]
@[simp] theorem evs_e1 (Φ : Fns) (e : Ex) (es : Exs) (ρ : Rho) : evs Φ (.cons e es) ρ = (ev Φ e ρ false).bind fun d => (evs Φ es ρ).map (d :: ·) := by
  rw [evs]
@[simp] theorem evo_e0 (Φ : Fns)  (z0 : Rho) : evo Φ .no z0 = some none := by
  rw [evo]
@[simp] theorem evo_e1 (Φ : Fns) (e : Ex) (ρ : Rho) : evo Φ (.yes e) ρ = (ev Φ e ρ true).bind fun x => match x with
    | .int i => some (some i)
    | _ => none := by
  rw [evo]
@[simp] theorem tsto_e0 (Φ : Fns)  (z0 : Rho) : tsto Φ .no z0 = some true := by
  rw [tsto]
@[simp] theorem tsto_e1 (Φ : Fns) (e : Ex) (ρ : Rho) : tsto Φ (.yes e) ρ = (ev Φ e ρ true).bind truthy := by
  rw [tsto]
@[simp] theorem itms_e0 (Φ : Fns) (e : Ex) (ρ : Rho) (bor : Bool) : itms Φ (.ex e) ρ bor = (ev Φ e ρ bor).bind itm? := by
  rw [itms]
@[simp] theorem itms_e1 (Φ : Fns) (a : Ex) (ρ : Rho) (z1 : Bool) : itms Φ (.rng1 a) ρ z1 = (ev Φ a ρ true).bind fun x => match x with
    | .int n => rng 0 n
    | _ => none := by
  rw [itms]
@[simp] theorem itms_e2 (Φ : Fns) (a b : Ex) (ρ : Rho) (z1 : Bool) : itms Φ (.rng2 a b) ρ z1 = (ev Φ a ρ true).bind fun x => (ev Φ b ρ true).bind fun y => match x, y with
    | .int i, .int j => rng i j
    | _, _ => none := by
  rw [itms]
@[simp] theorem itms_e3 (Φ : Fns) (e : Ex) (ρ : Rho) (bor : Bool) : itms Φ (.enum e) ρ bor = (ev Φ e ρ bor).bind fun x => (seq? x).map enumd := by
  rw [itms]
@[simp] theorem itms_e4 (Φ : Fns) (a b : Ex) (ρ : Rho) (bor : Bool) : itms Φ (.zip a b) ρ bor = (ev Φ a ρ false).bind fun x => (ev Φ b ρ false).bind fun y => zipd x y := by
  rw [itms]
@[simp] theorem itms_e5 (Φ : Fns) (a : Ex) (ρ : Rho) (bor : Bool) : itms Φ (.rv a) ρ bor = (ev Φ a ρ false).bind fun x => (seq? x).map List.reverse := by
  rw [itms]
@[simp] theorem itms_e6 (Φ : Fns) (a : Ex) (ρ : Rho) (bor : Bool) : itms Φ (.rrng (.rng1 a)) ρ bor = (itms Φ (.rng1 a) ρ true).map List.reverse := by
  simp only [itms]
@[simp] theorem itms_e7 (Φ : Fns) (a b : Ex) (ρ : Rho) (bor : Bool) : itms Φ (.rrng (.rng2 a b)) ρ bor = (itms Φ (.rng2 a b) ρ true).map List.reverse := by
  simp only [itms]
@[simp] theorem exS_e0 (Φ : Fns) (n : Nat) (t : Tg) (e : Ex) (ρ : Rho) : exS Φ n (.asg t e) ρ = (ev Φ e ρ false).bind fun d => (bindT t d ρ).map .nx := by
  rw [exS]
@[simp] theorem exS_e1 (Φ : Fns) (n : Nat) (i : Nat) (e : Ex) (ρ : Rho) : exS Φ n (.own i e) ρ = (ev Φ e ρ false).bind fun d => if isMut d = true ∧ i < ρ.length then some (.nx (ρ.set i (.ow d))) else none := by
  rw [exS]
@[simp] theorem exS_e2 (Φ : Fns) (n : Nat) (e : Ex) (ρ : Rho) : exS Φ n (.ret e) ρ = (ev Φ e ρ false).map .rt := by
  rw [exS]
@[simp] theorem exS_e3 (Φ : Fns) (n : Nat) (c : Ex) (a b : Sms) (ρ : Rho) : exS Φ n (.ife c a b) ρ = (tst Φ c ρ).bind fun t => if t = true then exSs Φ n a ρ else exSs Φ n b ρ := by
  rw [exS]
@[simp] theorem exS_e4 (Φ : Fns) (n : Nat) (t : Tg) (i : It) (body : Sms) (ρ : Rho) : exS Φ n (.for t i body) ρ = (itms Φ i ρ false).bind fun ds => forF (fun d ρ' => (bindT t d ρ').bind (exSs Φ n body)) ds ρ := by
  rw [exS]
@[simp] theorem exS_e5 (Φ : Fns) (n : Nat) (c : Ex) (body : Sms) (ρ : Rho) : exS Φ n (.whl c body) ρ = whileF (tst Φ c) (exSs Φ n body) n ρ := by
  rw [exS]
@[simp] theorem exS_e6 (Φ : Fns) (n : Nat) (x : Nat) (e : Ex) (ρ : Rho) : exS Φ n (.app x e) ρ = (ev Φ e ρ false).bind fun d => match ρ[x]? with
    | some (.ow (.list ds)) => gd (ds.length < LIM) (some (.nx (ρ.set x (.ow (.list (ds ++ [d]))))))
    | _ => none := by
  rw [exS]
@[simp] theorem exS_e7 (Φ : Fns) (n : Nat) (i : Nat) (b : Bool) (e : Ex) (ρ : Rho) : exS Φ n (.aug i b e) ρ = (ev Φ e ρ true).bind fun d => match ρ[i]?, d with
    | some (.fz (.int x)), .int y => some (.nx (ρ.set i (.fz (.int (if b = true then x + y else x - y)))))
    | _, _ => none := by
  rw [exS]
@[simp] theorem exS_e8 (Φ : Fns) (n : Nat) (is : List Nat) (s : Sm) (ρ : Rho) : exS Φ n (.frz is s) ρ = exS Φ n s (frzR ρ is) := by
  rw [exS]
@[simp] theorem exS_e9 (Φ : Fns) (n : Nat)  (ρ : Rho) : exS Φ n .cont ρ = some (.ct ρ) := by
  rw [exS]
@[simp] theorem exS_e10 (Φ : Fns) (n : Nat)  (ρ : Rho) : exS Φ n .brk ρ = some (.bk ρ) := by
  rw [exS]
@[simp] theorem exS_e11 (Φ : Fns) (n : Nat)  (ρ : Rho) : exS Φ n .pass ρ = some (.nx ρ) := by
  rw [exS]
@[simp] theorem exS_n0 (Φ : Fns) (n : Nat) (x : Nat) (i e : Ex) (ρ : Rho) : exS Φ n (.put x i e) ρ = (ev Φ e ρ false).bind fun d => (ev Φ i ρ true).bind fun k => match ρ[x]?, k with
    | some (.ow (.list ds)), .int k => (L2.ixN ds.length k).map fun j => .nx (ρ.set x (.ow (.list (ds.set j d))))
    | _, _ => none := by
  rw [exS]
@[simp] theorem exS_n1 (Φ : Fns) (n : Nat) (x : Nat) (e : Ex) (ρ : Rho) : exS Φ n (.ext x e) ρ = (ev Φ e ρ false).bind fun d => match ρ[x]?, d with
    | some (.ow (.list ds)), .list es => gd (ds.length + es.length ≤ LIM) (some (.nx (ρ.set x (.ow (.list (ds ++ es))))))
    | _, _ => none := by
  rw [exS]
@[simp] theorem exS_n2 (Φ : Fns) (n : Nat) (x : Nat) (e : Ex) (ρ : Rho) : exS Φ n (.rem x e) ρ = (ev Φ e ρ true).bind fun d => match ρ[x]?, d with
    | some (.ow (.list ds)), .int k => (ints? ds).bind fun ns => if k ∈ ns then some (.nx (ρ.set x (.ow (.list ((ns.erase k).map .int))))) else none
    | _, _ => none := by
  rw [exS]
@[simp] theorem exS_n3 (Φ : Fns) (n : Nat) (t : Tg) (x : Nat) (o : Exo) (ρ : Rho) : exS Φ n (.popTo t x o) ρ = (evo Φ o ρ).bind fun q => match ρ[x]? with
    | some (.ow (.list ds)) => (popd ds q).bind fun r => if x ∈ slots t then none else (bindT t r.1 (ρ.set x (.ow (.list r.2)))).map .nx
    | _ => none := by
  rw [exS]
@[simp] theorem exS_n4 (Φ : Fns) (n : Nat) (o : Option Nat) (w : Bool) (x : Nat) (e : Ex) (t : Tg) (i : It) (ρ : Rho) : exS Φ n (.lpop o w x e t i) ρ = match ρ[x]? with
    | some (.ow (.list ls)) => if x ∈ slots t then none else (itms Φ i ρ false).bind fun ds => gd (ds.length ≤ LIM) <| (popF (fun d left => (bindT t d (wipeR (ρ.set x (.ow (.list left))) (slots t))).bind fun ρ1 => (ev Φ e ρ1 true).bind fun k => match k with
        | .int k => popd left (some k)
        | _ => none) ds ls).bind fun ys => match o with
          | none => some (.rt (if w = true then .tuple ys else .list ys))
          | some j => if j < ρ.length then some (.nx ((ρ.set x .un).set j (.fz (if w = true then .tuple ys else .list ys)))) else none
    | _ => none := by
  rw [exS]
@[simp] theorem exS_n5 (Φ : Fns) (n : Nat) (i j : Nat) (a b : Ex) (ρ : Rho) : exS Φ n (.par i j a b) ρ = (ev Φ a ρ false).bind fun x => (ev Φ b ρ false).bind fun y => if i ≠ j ∧ i < ρ.length ∧ j < ρ.length then some (.nx ((ρ.set i (.fz x)).set j (.fz y))) else none := by
  rw [exS]
@[simp] theorem exSs_e0 (Φ : Fns) (n : Nat)  (ρ : Rho) : exSs Φ n .nil ρ = some (.nx ρ) := by
  rw [exSs]
@[simp] theorem exSs_e1 (Φ : Fns) (n : Nat) (s : Sm) (r : Sms) (ρ : Rho) : exSs Φ n (.cons s r) ρ = (exS Φ n s ρ).bind fun x => match x with
    | .nx ρ' => exSs Φ n r ρ'
    | y => some y := by
  rw [exSs]
end
end Ce

set_option maxHeartbeats 4000000
/-! How plain data stands in the abstract heap. F: what nobody changes any more. -/
noncomputable section
namespace Cs
open PySem PySem.Spec PyProof.Rows L2 GxR Ce Gx

structure Cfg where
  K : PySem.W.Frag
  T : List Addr
  fr : Option (Addr × Addr)
/-- inside a generator: its code object, the table of that -/
abbrev Cfg.at (c : Cfg) (q : Addr × Addr) : Cfg := ⟨c.K, c.T, some q⟩
abbrev Cfg.b (c : Cfg) : Cfg := ⟨c.K, c.T, none⟩

/-! ### data under growing heaps -/
theorem rd_mono {H H' : Hp} {a : Addr} {u : HO} (hu : ∀ ps, u ≠ .tbl ps) (k : ∀ a o, (∀ ps, o ≠ .tbl ps) → H a = some o → H' a = some o) (h : Rd H a u) : Rd H' a u := by
  rcases h with h | ⟨o, h⟩
  · exact .inl (k _ _ hu h)
  · exact .inr ⟨o, k _ _ (fun ps z => by cases z) h⟩
theorem sql_mono {K : PySem.W.Frag} {H H' : Hp} {a : Addr} {xs : List V} (k : ∀ a o, (∀ ps, o ≠ .tbl ps) → H a = some o → H' a = some o) (h : SqL K H a xs) : SqL K H' a xs := by
  rcases h with h | h
  · exact .inl (rd_mono (fun ps z => by cases z) k h)
  · exact .inr h
theorem sqt_mono {K : PySem.W.Frag} {H H' : Hp} {a : Addr} {xs : List V} (k : ∀ a o, (∀ ps, o ≠ .tbl ps) → H a = some o → H' a = some o) (h : SqT K H a xs) : SqT K H' a xs := by
  rcases h with h | h
  · exact .inl (rd_mono (fun ps z => by cases z) k h)
  · exact .inr h
mutual
theorem dp_mono {K : PySem.W.Frag} {H H' : Hp} (k : ∀ a o, (∀ ps, o ≠ .tbl ps) → H a = some o → H' a = some o) : ∀ (d : PyData) (v : V), Dp K H v d → Dp K H' v d
  | .none, _, h => by cases h; exact .non
  | .bool _, _, h => by cases h; exact .bl _
  | .int _, _, h => by cases h; exact .int _
  | .str _, _, h => by cases h; exact .str _
  | .list ds, _, h => by
    cases h with
    | lst hs ha => exact .lst (sql_mono k hs) (dpAll_mono k ds _ ha)
  | .tuple ds, _, h => by
    cases h with
    | tup hs ha => exact .tup (sqt_mono k hs) (dpAll_mono k ds _ ha)
  | .dict _, _, h => by cases h
theorem dpAll_mono {K : PySem.W.Frag} {H H' : Hp} (k : ∀ a o, (∀ ps, o ≠ .tbl ps) → H a = some o → H' a = some o) : ∀ (ds : List PyData) (vs : List V), DpAll K H vs ds → DpAll K H' vs ds
  | [], _, h => by cases h; exact .nil
  | d :: ds, _, h => by
    cases h with
    | cons h1 h2 => exact .cons (dp_mono k d _ h1) (dpAll_mono k ds _ h2)
end
section
variable {K : PySem.W.Frag} {H : Hp}
theorem DpAll.length : ∀ {vs : List V} {ds : List PyData}, DpAll K H vs ds → vs.length = ds.length
  | _, _, .nil => rfl
  | _, _, .cons _ h => by rw [List.length_cons, List.length_cons, DpAll.length h]
theorem DpAll.get : ∀ {vs : List V} {ds : List PyData} {i : Nat} {v : V}, DpAll K H vs ds → vs[i]? = some v → ∃ d, ds[i]? = some d ∧ Dp K H v d
  | _, _, _, _, .nil, e => by simp at e
  | _, _, 0, _, .cons r _, e => by simp at e; subst e; exact ⟨_, rfl, r⟩
  | _, _, i + 1, v, .cons _ t, e => by
    obtain ⟨u, h1, h2⟩ := DpAll.get (i := i) (v := v) t (by simpa using e)
    exact ⟨u, by simpa using h1, h2⟩
theorem DpAll.get' : ∀ {vs : List V} {ds : List PyData} {i : Nat} {d : PyData}, DpAll K H vs ds → ds[i]? = some d → ∃ v, vs[i]? = some v ∧ Dp K H v d
  | _, _, _, _, .nil, e => by simp at e
  | _, _, 0, _, .cons r _, e => by simp at e; subst e; exact ⟨_, rfl, r⟩
  | _, _, i + 1, v, .cons _ t, e => by
    obtain ⟨u, h1, h2⟩ := DpAll.get' (i := i) (d := v) t (by simpa using e)
    exact ⟨u, by simpa using h1, h2⟩
theorem DpAll.append : ∀ {vs ws : List V} {ds es : List PyData}, DpAll K H vs ds → DpAll K H ws es → DpAll K H (vs ++ ws) (ds ++ es)
  | _, _, _, _, .nil, h => h
  | _, _, _, _, .cons r t, h => .cons r (DpAll.append t h)
theorem DpAll.take : ∀ {vs : List V} {ds : List PyData} (n : Nat), DpAll K H vs ds → DpAll K H (vs.take n) (ds.take n)
  | _, _, 0, _ => .nil
  | _, _, _ + 1, .nil => .nil
  | _, _, n + 1, .cons r t => .cons r (DpAll.take n t)
theorem DpAll.drop : ∀ {vs : List V} {ds : List PyData} (n : Nat), DpAll K H vs ds → DpAll K H (vs.drop n) (ds.drop n)
  | _, _, 0, h => h
  | _, _, _ + 1, .nil => .nil
  | _, _, n + 1, .cons _ t => DpAll.drop n t
theorem DpAll.reverse {vs : List V} {ds : List PyData} (h : DpAll K H vs ds) : DpAll K H vs.reverse ds.reverse := by
  induction vs generalizing ds with
  | nil => cases h; exact .nil
  | cons v vs ih =>
    cases h with
    | cons h1 h2 => rw [List.reverse_cons, List.reverse_cons]; exact DpAll.append (ih h2) (.cons h1 .nil)
theorem DpAll.ints : ∀ {vs : List V} {ds : List PyData} {ns : List Int}, DpAll K H vs ds → ints? ds = some ns → vs = ns.map V.int
  | _, _, _, .nil, e => by cases e; rfl
  | _, d :: ds, ns, .cons r t, e => by
    cases d <;> try (simp [ints?] at e; done)
    rename_i i
    simp only [ints?, Option.map_eq_some_iff] at e
    obtain ⟨ms, e1, rfl⟩ := e
    cases r
    rw [DpAll.ints t e1]; rfl
theorem DpAll.bools : ∀ {vs : List V} {ds : List PyData} {ns : List Bool}, DpAll K H vs ds → bools? ds = some ns → vs = ns.map V.bl
  | _, _, _, .nil, e => by cases e; rfl
  | _, d :: ds, ns, .cons r t, e => by
    cases d <;> try (simp [bools?] at e; done)
    rename_i i
    simp only [bools?, Option.map_eq_some_iff] at e
    obtain ⟨ms, e1, rfl⟩ := e
    cases r
    rw [DpAll.bools t e1]; rfl
end

/-! ### heaps in order, and later ones -/
/-- the table at P; the code objects that it tells are known, too -/
def TabF (F H : Hp) (P : Addr) : Prop := ∃ ps : Array Value, H P = some (.tbl ps) ∧ TriplesOk ps.toList ∧ ∀ (pos : Pos) (cv : Value), codeAmong pos ps.toList = some cv → ∃ c' P', cv = .ref c' ∧ F c' = some (CodeX c' P')
theorem TabF.g {F H : Hp} {P : Addr} (t : TabF F H P) : TabG H P := by
  obtain ⟨ps, h1, h2, _⟩ := t
  exact ⟨ps, h1, h2⟩
theorem TabF.mono {F H F' H' : Hp} {P : Addr} (t : TabF F H P) (k : ∀ a o, F a = some o → F' a = some o) (h : ∀ ps, H P = some (.tbl ps) → H' P = some (.tbl ps)) : TabF F' H' P := by
  obtain ⟨ps, h1, h2, h3⟩ := t
  refine ⟨ps, h _ h1, h2, fun pos cv hc => ?_⟩
  obtain ⟨c', P', e1, e2⟩ := h3 pos cv hc
  exact ⟨c', P', e1, k _ _ e2⟩
structure Ok (c : Cfg) (F H : Hp) : Prop where
  tab : ∀ P ∈ c.T, TabF F H P
  tabs : ∀ c' P', F c' = some (CodeX c' P') → TabF F H P'
  fr : ∀ q, c.fr = some q → F q.1 = some (CodeX q.1 q.2)
  fh : ∀ a o, F a = some o → H a = some o
  nt : ∀ a ps, F a ≠ some (.tbl ps)
structure Ext (c : Cfg) (F H F' H' : Hp) : Prop where
  keep : ∀ a o, (∀ ps, o ≠ .tbl ps) → H a = some o → H' a = some o
  fk : ∀ a o, F a = some o → F' a = some o
  fn : ∀ a o, F' a = some o → F a = some o ∨ H a = none
  grow : ∀ a, H' a = none → H a = none
  ok : Ok c F' H'
theorem Ext.refl {c : Cfg} {F H : Hp} (o : Ok c F H) : Ext c F H F H := ⟨fun _ _ _ e => e, fun _ _ e => e, fun _ _ e => .inl e, fun _ e => e, o⟩
theorem Ext.trans {c : Cfg} {F H F1 H1 F2 H2 : Hp} (a : Ext c F H F1 H1) (b : Ext c F1 H1 F2 H2) : Ext c F H F2 H2 :=
  ⟨fun p o h e => b.keep p o h (a.keep p o h e), fun p o e => b.fk p o (a.fk p o e), fun p o e => by
    rcases b.fn p o e with z | z
    · exact a.fn p o z
    · exact .inr (a.grow p z), fun p e => a.grow p (b.grow p e), b.ok⟩
theorem Ext.fkT {c : Cfg} {F H F' H' : Hp} (e : Ext c F H F' H') : ∀ a o, (∀ ps, o ≠ .tbl ps) → F a = some o → F' a = some o := fun a o _ h => e.fk a o h
theorem Ok.fhT {c : Cfg} {F H : Hp} (e : Ok c F H) : ∀ a o, (∀ ps, o ≠ .tbl ps) → F a = some o → H a = some o := fun a o _ h => e.fh a o h
theorem Ext.conv {c c1 : Cfg} {F H F' H' : Hp} (hT : c1.T = c.T) (o : Ok c F H) (e : Ext c1 F H F' H') : Ext c F H F' H' :=
  ⟨e.keep, e.fk, e.fn, e.grow, ⟨hT ▸ e.ok.tab, e.ok.tabs, fun q hq => e.fk _ _ (o.fr q hq), e.ok.fh, e.ok.nt⟩⟩
theorem Ok.at {c : Cfg} {F H : Hp} {q : Addr × Addr} (o : Ok c F H) (h : F q.1 = some (CodeX q.1 q.2)) : Ok (c.at q) F H := ⟨o.tab, o.tabs, fun q' hq => by cases hq; exact h, o.fh, o.nt⟩
theorem Ok.b {c : Cfg} {F H : Hp} (o : Ok c F H) : Ok c.b F H := ⟨o.tab, o.tabs, fun q' hq => (by cases hq), o.fh, o.nt⟩
/-- a code object was taken out of a table, or put into it -/
theorem Ext.tabX {c : Cfg} {F H H2 : Hp} {P : Addr} {gp : Pos} {code : Value} (o : Ok c F H) (hP : TabF F H P) (t : TabX gp P H H2 code) : ∃ F2 c' P', code = .ref c' ∧ F2 c' = some (CodeX c' P') ∧ Ext c F H F2 H2 := by
  rcases t with ⟨ps, h1, h2, rfl⟩ | ⟨ps, c', P', h1, rfl, n1, n2, ne, hw, ht, rfl⟩
  · obtain ⟨ps', h1', _, h3⟩ := hP
    rw [h1] at h1'
    cases h1'
    obtain ⟨c', P', e1, e2⟩ := h3 _ _ h2
    exact ⟨F, c', P', e1, e2, Ext.refl o⟩
  · obtain ⟨ps', h1', _, h3⟩ := hP
    rw [h1] at h1'
    cases h1'
    generalize hN : ps ++ #[rawInt gp.line, rawInt gp.col, Value.ref c'] = ns at ht
    have nP1 : P ≠ c' := fun z => by rw [z, n1] at h1; cases h1
    have nP2 : P ≠ P' := fun z => by rw [z, n2] at h1; cases h1
    have off : ∀ a, a ≠ P → a ≠ c' → a ≠ P' → upd (upd (upd H P (.tbl ns)) c' (CodeX c' P')) P' (.tbl #[]) a = H a := fun a q1 q2 q3 => by rw [upd_ne q3, upd_ne q2, upd_ne q1]
    have tr : ∀ a u, H a = some u → a ≠ c' ∧ a ≠ P' := fun a u e => ⟨fun z => (by rw [z, n1] at e; cases e), fun z => (by rw [z, n2] at e; cases e)⟩
    have onP : upd (upd (upd H P (.tbl ns)) c' (CodeX c' P')) P' (.tbl #[]) P = some (.tbl ns) := by rw [upd_ne nP2, upd_ne nP1, upd_same]
    have onC : upd (upd (upd H P (.tbl ns)) c' (CodeX c' P')) P' (.tbl #[]) c' = some (CodeX c' P') := by rw [upd_ne ne, upd_same]
    have fc : F c' = none := by
      cases q : F c' with
      | none => rfl
      | some u => rw [o.fh _ _ q] at n1; cases n1
    have keep : ∀ a u, (∀ ps, u ≠ .tbl ps) → H a = some u → upd (upd (upd H P (.tbl ns)) c' (CodeX c' P')) P' (.tbl #[]) a = some u := fun a u hu e => by
      have : a ≠ P := fun z => by rw [z, h1] at e; cases e; exact hu _ rfl
      rw [off a this (tr a u e).1 (tr a u e).2]; exact e
    have fk : ∀ a u, F a = some u → upd F c' (CodeX c' P') a = some u := fun a u e => by
      rw [upd_ne (fun z => by rw [z, fc] at e; cases e)]; exact e
    have tabP : TabF (upd F c' (CodeX c' P')) (upd (upd (upd H P (.tbl ns)) c' (CodeX c' P')) P' (.tbl #[])) P := by
      refine ⟨ns, onP, ht, fun pos cv hc => ?_⟩
      rw [← hN] at hc
      rw [show (ps ++ #[rawInt gp.line, rawInt gp.col, Value.ref c']).toList = ps.toList ++ [rawInt gp.line, rawInt gp.col, .ref c'] by simp] at hc
      rcases LamX.among_app ps.toList (by assumption) hc with z | z
      · obtain ⟨c1, P1, e1, e2⟩ := h3 _ _ z
        exact ⟨c1, P1, e1, fk _ _ e2⟩
      · exact ⟨c', P', z, upd_same⟩
    have tabQ : ∀ Q, TabF F H Q → TabF (upd F c' (CodeX c' P')) (upd (upd (upd H P (.tbl ns)) c' (CodeX c' P')) P' (.tbl #[])) Q := fun Q q => by
      by_cases e : Q = P
      · rw [e]; exact tabP
      · exact q.mono fk fun ps e2 => by rw [off Q e (tr Q _ e2).1 (tr Q _ e2).2]; exact e2
    refine ⟨upd F c' (CodeX c' P'), c', P', rfl, upd_same, keep, fk, fun a u e => ?_, fun a e => ?_, ⟨fun Q hQ => tabQ Q (o.tab Q hQ), fun c1 P1 e => ?_, fun q hq => fk _ _ (o.fr q hq), fun a u e => ?_, fun a ps e => ?_⟩⟩
    · by_cases h : a = c'
      · rw [h]; exact .inr n1
      · rw [upd_ne h] at e; exact .inl e
    · by_cases q1 : a = P'
      · rw [q1, upd_same] at e; cases e
      · by_cases q2 : a = c'
        · rw [q2, onC] at e; cases e
        · by_cases q3 : a = P
          · rw [q3, onP] at e; cases e
          · rw [off a q3 q2 q1] at e; exact e
    · by_cases h : c1 = c'
      · subst h
        rw [upd_same] at e
        have e := codeX_inj hw (Option.some.inj e)
        subst e
        exact ⟨#[], upd_same, True.intro, fun pos cv hc => by simp [codeAmong] at hc⟩
      · rw [upd_ne h] at e
        exact tabQ _ (o.tabs _ _ e)
    · by_cases h : a = c'
      · rw [h, upd_same] at e; cases e; rw [h]; exact onC
      · rw [upd_ne h] at e
        exact keep a u (fun ps z => o.nt a ps (by rw [e, z])) (o.fh a u e)
    · by_cases h : a = c'
      · rw [h, upd_same] at e
        exact codeX_nt ps (Option.some.inj e)
      · rw [upd_ne h] at e; exact o.nt a ps e
/-- a new object, unshared -/
theorem Ext.new {c : Cfg} {F H : Hp} {p : Addr} {u : HO} (o : Ok c F H) (hn : H p = none) (hu : ∀ ps, u ≠ .tbl ps) : Ext c F H F (upd H p u) := by
  have ne : ∀ a v, H a = some v → a ≠ p := fun a v e z => by rw [z, hn] at e; cases e
  refine ⟨fun a v _ e => by rw [upd_ne (ne a v e)]; exact e, fun _ _ e => e, fun _ _ e => .inl e, fun a e => ?_, ⟨fun P hP => ?_, fun c1 P1 e => ?_, o.fr, fun a v e => by rw [upd_ne (ne a v (o.fh a v e))]; exact o.fh a v e, o.nt⟩⟩
  · by_cases h : a = p
    · rw [h]; exact hn
    · rw [upd_ne h] at e; exact e
  · exact (o.tab P hP).mono (fun _ _ e => e) fun ps e2 => by rw [upd_ne (ne P _ e2)]; exact e2
  · exact (o.tabs _ _ e).mono (fun _ _ e => e) fun ps e2 => by rw [upd_ne (ne P1 _ e2)]; exact e2
/-- a new object that nobody will change -/
theorem Ext.newF {c : Cfg} {F H : Hp} {p : Addr} {u : HO} (o : Ok c F H) (hn : H p = none) (hu : ∀ ps, u ≠ .tbl ps) (hx : ∀ f, u ≠ .ext f := by intro f z; cases z) : Ext c F H (upd F p u) (upd H p u) := by
  have ne : ∀ a v, H a = some v → a ≠ p := fun a v e z => by rw [z, hn] at e; cases e
  have fk : ∀ a v, F a = some v → upd F p u a = some v := fun a v e => by rw [upd_ne (ne a v (o.fh a v e))]; exact e
  refine ⟨fun a v _ e => by rw [upd_ne (ne a v e)]; exact e, fk, fun a v e => ?_, fun a e => ?_, ⟨fun P hP => ?_, fun c1 P1 e => ?_, fun q hq => fk _ _ (o.fr q hq), fun a v e => ?_, fun a ps e => ?_⟩⟩
  · by_cases h : a = p
    · rw [h]; exact .inr hn
    · rw [upd_ne h] at e; exact .inl e
  · by_cases h : a = p
    · rw [h]; exact hn
    · rw [upd_ne h] at e; exact e
  · exact (o.tab P hP).mono fk fun ps e2 => by rw [upd_ne (ne P _ e2)]; exact e2
  · by_cases h : c1 = p
    · rw [h, upd_same] at e
      exact absurd (Option.some.inj e) (hx _)
    · rw [upd_ne h] at e
      exact (o.tabs _ _ e).mono fk fun ps e2 => by rw [upd_ne (ne P1 _ e2)]; exact e2
  · by_cases h : a = p
    · rw [h, upd_same] at e; cases e; rw [h, upd_same]
    · rw [upd_ne h] at e; rw [upd_ne h]; exact o.fh a v e
  · by_cases h : a = p
    · rw [h, upd_same] at e; cases e; exact hu ps rfl
    · rw [upd_ne h] at e; exact o.nt a ps e

/-! ### slots -/
def OwnOf (K : PySem.W.Frag) (F : Hp) (o : HO) (d : PyData) : Prop := match o, d with
  | .lst xs, .list ds => DpAll K F xs ds
  | _, _ => False
theorem OwnOf.nt {K : PySem.W.Frag} {F : Hp} {o : HO} {d : PyData} (h : OwnOf K F o d) : ∀ ps, o ≠ .tbl ps := fun ps z => by subst z; exact h
theorem OwnOf.mono {K : PySem.W.Frag} {F F' : Hp} {o : HO} {d : PyData} (k : ∀ a o, (∀ ps, o ≠ .tbl ps) → F a = some o → F' a = some o) (h : OwnOf K F o d) : OwnOf K F' o d := by
  cases o <;> try exact h
  cases d <;> try exact h
  exact dpAll_mono k _ _ h
theorem OwnOf.dp {K : PySem.W.Frag} {F : Hp} {o : HO} {d : PyData} {a : Addr} (h : OwnOf K F o d) (e : F a = some o) : Dp K F (.ref a) d := by
  cases o <;> try exact h.elim
  cases d <;> try exact h.elim
  exact .lst (SqL.of e) h
structure StE (c : Cfg) (F H : Hp) (σ : L2.St) (ρ : Rho) : Prop where
  ok : Ok c F H
  len : σ.length = ρ.length
  slot : ∀ (i : Nat) (d : PyData), ρ[i]? = some (.fz d) → ∃ v, σ[i]? = some (some v) ∧ Dp c.K F v d
  own : ∀ (i : Nat) (d : PyData), ρ[i]? = some (.ow d) → ∃ a o, σ[i]? = some (some (.ref a)) ∧ F a = none ∧ H a = some o ∧ OwnOf c.K F o d
theorem StE.ext {c : Cfg} {F H F' H' : Hp} {σ : L2.St} {ρ : Rho} (s : StE c F H σ ρ) (e : Ext c F H F' H') : StE c F' H' σ ρ where
  ok := e.ok
  len := s.len
  slot := fun i d h => by
    obtain ⟨v, h1, h2⟩ := s.slot i d h
    exact ⟨v, h1, dp_mono e.fkT _ _ h2⟩
  own := fun i d h => by
    obtain ⟨a, o, h1, h2, h3, h4⟩ := s.own i d h
    refine ⟨a, o, h1, ?_, e.keep a o h4.nt h3, h4.mono e.fkT⟩
    cases q : F' a with
    | none => rfl
    | some u =>
      rcases e.fn a u q with z | z
      · rw [h2] at z; cases z
      · rw [h3] at z; cases z
theorem StE.set {c : Cfg} {F H : Hp} {σ : L2.St} {ρ : Rho} (s : StE c F H σ ρ) {i : Nat} {v : V} {d : PyData} (h : Dp c.K F v d) : StE c F H (σ.set i (some v)) (ρ.set i (.fz d)) where
  ok := s.ok
  len := by rw [List.length_set, List.length_set]; exact s.len
  slot := fun j e hj => by
    by_cases hij : i = j
    · subst hij
      by_cases hl : i < ρ.length
      · rw [List.getElem?_set_self hl] at hj
        cases hj
        exact ⟨v, by rw [List.getElem?_set_self (by rw [s.len]; exact hl)], h⟩
      · rw [List.getElem?_eq_none (by simpa using hl)] at hj; cases hj
    · rw [List.getElem?_set_ne hij] at hj
      rw [List.getElem?_set_ne hij]
      exact s.slot j e hj
  own := fun j e hj => by
    by_cases hij : i = j
    · subst hij
      by_cases hl : i < ρ.length
      · rw [List.getElem?_set_self hl] at hj; cases hj
      · rw [List.getElem?_eq_none (by simpa using hl)] at hj; cases hj
    · rw [List.getElem?_set_ne hij] at hj
      rw [List.getElem?_set_ne hij]
      exact s.own j e hj
theorem wipeR_length (ρ : Rho) : ∀ vs : List Nat, (wipeR ρ vs).length = ρ.length
  | [] => rfl
  | v :: vs => by unfold wipeR; rw [List.length_set, wipeR_length ρ vs]
theorem StE.un {c : Cfg} {F H : Hp} {σ : L2.St} {ρ : Rho} (s : StE c F H σ ρ) (i : Nat) (v : Option V) : StE c F H (σ.set i v) (ρ.set i .un) where
  ok := s.ok
  len := by rw [List.length_set, List.length_set]; exact s.len
  slot := fun j e hj => by
    by_cases hij : i = j
    · subst hij
      by_cases hl : i < ρ.length
      · rw [List.getElem?_set_self hl] at hj; cases hj
      · rw [List.getElem?_eq_none (by simpa using hl)] at hj; cases hj
    · rw [List.getElem?_set_ne hij] at hj
      rw [List.getElem?_set_ne hij]
      exact s.slot j e hj
  own := fun j e hj => by
    by_cases hij : i = j
    · subst hij
      by_cases hl : i < ρ.length
      · rw [List.getElem?_set_self hl] at hj; cases hj
      · rw [List.getElem?_eq_none (by simpa using hl)] at hj; cases hj
    · rw [List.getElem?_set_ne hij] at hj
      rw [List.getElem?_set_ne hij]
      exact s.own j e hj
theorem StE.wipe {c : Cfg} {F H : Hp} {σ : L2.St} {ρ : Rho} (s : StE c F H σ ρ) : ∀ vs : List Nat, StE c F H (wipe σ vs) (wipeR ρ vs)
  | [] => s
  | v :: vs => (StE.wipe s vs).un v none

/-! ### what an expression gives -/
inductive Md where
  | fr | bo | nw
def Md.b : Md → Bool
  | .bo => true
  | _ => false
/-- a value read at once: perhaps a list that a slot holds alone -/
def Rq (K : PySem.W.Frag) (F H : Hp) (v : V) (d : PyData) : Prop := Dp K F v d ∨ ∃ a xs ds, v = .ref a ∧ d = .list ds ∧ H a = some (.lst xs) ∧ DpAll K F xs ds
def Fin (c : Cfg) (m : Md) (F H F' H' : Hp) (v : V) (d : PyData) : Prop := match m with
  | .fr => Dp c.K F' v d
  | .bo => Rq c.K F' H' v d
  | .nw => if isMut d = true then ∃ a o, v = .ref a ∧ F' a = none ∧ H a = none ∧ H' a = some o ∧ OwnOf c.K F' o d else Dp c.K F' v d
theorem Rq.ext {c : Cfg} {F H F' H' : Hp} {v : V} {d : PyData} (h : Rq c.K F H v d) (e : Ext c F H F' H') : Rq c.K F' H' v d := by
  rcases h with h | ⟨a, xs, ds, h1, h2, h3, h4⟩
  · exact .inl (dp_mono e.fkT _ _ h)
  · exact .inr ⟨a, xs, ds, h1, h2, e.keep a _ (fun ps z => by cases z) h3, dpAll_mono e.fkT _ _ h4⟩
theorem Rq.dp {c : Cfg} {F H : Hp} {v : V} {d : PyData} (h : Rq c.K F H v d) (o : Ok c F H) : Dp c.K H v d := by
  rcases h with h | ⟨a, xs, ds, rfl, rfl, h3, h4⟩
  · exact dp_mono o.fhT _ _ h
  · exact .lst (SqL.of h3) (dpAll_mono o.fhT _ _ h4)
theorem Rq.lst {c : Cfg} {F H : Hp} {v : V} {ds : List PyData} (h : Rq c.K F H v (.list ds)) (o : Ok c F H) : ∃ a xs, v = .ref a ∧ SqL c.K H a xs ∧ DpAll c.K F xs ds := by
  rcases h with h | ⟨a, xs, ds', rfl, e, h3, h4⟩
  · cases h with
    | lst hs ha => exact ⟨_, _, rfl, sql_mono o.fhT hs, ha⟩
  · cases e
    exact ⟨a, xs, rfl, SqL.of h3, h4⟩
theorem Rq.tup {c : Cfg} {F H : Hp} {v : V} {ds : List PyData} (h : Rq c.K F H v (.tuple ds)) (o : Ok c F H) : ∃ a xs, v = .ref a ∧ SqT c.K H a xs ∧ DpAll c.K F xs ds ∧ Dp c.K F v (.tuple ds) := by
  rcases h with h | ⟨a, xs, ds', rfl, e, h3, h4⟩
  · have h0 := h
    cases h with
    | tup hs ha => exact ⟨_, _, rfl, sqt_mono o.fhT hs, ha, h0⟩
  · cases e
theorem Rq.int {c : Cfg} {F H : Hp} {v : V} {i : Int} (h : Rq c.K F H v (.int i)) : v = .int i := by
  rcases h with h | ⟨a, xs, ds', rfl, e, h3, h4⟩
  · cases h; rfl
  · cases e
theorem Rq.bl {c : Cfg} {F H : Hp} {v : V} {i : Bool} (h : Rq c.K F H v (.bool i)) : v = .bl i := by
  rcases h with h | ⟨a, xs, ds', rfl, e, h3, h4⟩
  · cases h; rfl
  · cases e
theorem Rq.str {c : Cfg} {F H : Hp} {v : V} {i : Str} (h : Rq c.K F H v (.str i)) : v = .str i := by
  rcases h with h | ⟨a, xs, ds', rfl, e, h3, h4⟩
  · cases h; rfl
  · cases e
theorem Rq.non {c : Cfg} {F H : Hp} {v : V} (h : Rq c.K F H v .none) : v = .non := by
  rcases h with h | ⟨a, xs, ds', rfl, e, h3, h4⟩
  · cases h; rfl
  · cases e
theorem Rq.dict {c : Cfg} {F H : Hp} {v : V} {kvs} (h : Rq c.K F H v (.dict kvs)) : False := by
  rcases h with h | ⟨a, xs, ds', rfl, e, h3, h4⟩
  · cases h
  · cases e
theorem Rq.non_iff {c : Cfg} {F H : Hp} {v : V} {d : PyData} (h : Rq c.K F H v d) : decide (v = .non) = isN d := by
  rcases h with h | ⟨a, xs, ds', rfl, e, h3, h4⟩
  · cases h <;> rfl
  · subst e; rfl

/-- the reading of an expression -/
def tE (c : Cfg) (Φ : Fns) (m : Md) (e : Ex) : TE := fun σ H Q => ∃ F ρ d, StE c F H σ ρ ∧ ev Φ e ρ m.b = some d ∧ ∀ v H' F', Ext c F H F' H' → Fin c m F H F' H' v d → Q v H'
def tA (c : Cfg) (Φ : Fns) (es : Exs) : TA := fun σ H Q => ∃ F ρ ds, StE c F H σ ρ ∧ evs Φ es ρ = some ds ∧ ∀ vs H' F', Ext c F H F' H' → DpAll c.K F' vs ds → Q vs H'
/-- of a test -/
def tT (c : Cfg) (Φ : Fns) (e : Ex) : TT := fun σ H Q => ∃ F ρ b, StE c F H σ ρ ∧ tst Φ e ρ = some b ∧ ∀ H' F', Ext c F H F' H' → Q b H'
theorem PE.imp {X : Cx} {e : Expr} {t t' : TE} (h : PE X e t) (i : ∀ σ H Q, t' σ H Q → t σ H Q) : PE X e t' := ⟨fun pins s σ H Q I q => h.run pins s σ H Q I (i σ H Q q)⟩
theorem PT.imp {X : Cx} {e : Expr} {t t' : TT} (h : PT X e t) (i : ∀ σ H Q, t' σ H Q → t σ H Q) : PT X e t' := ⟨fun pins s σ H Q I q => h.run pins s σ H Q I (i σ H Q q)⟩
theorem PA.imp {X : Cx} {e : List Expr} {t t' : TA} (h : PA X e t) (i : ∀ σ H Q, t' σ H Q → t σ H Q) : PA X e t' := ⟨fun pos pins s σ H Q I q => h.run pos pins s σ H Q I (i σ H Q q)⟩
theorem PW.imp {X : Cx} {e : Expr} {t t' : TT} (h : PW X e t) (i : ∀ σ H Q, t' σ H Q → t σ H Q) : PW X e t' := ⟨fun wh pins s σ H Q I q => h.run wh pins s σ H Q I (i σ H Q q)⟩
theorem PS.imp {X : Cx} {e : Stmt} {t t' : TS} (h : PS X e t) (i : ∀ D σ H, t' D σ H → t D σ H) : PS X e t' := ⟨fun pins s σ H D I q => h.run pins s σ H D I (i D σ H q)⟩
theorem PSs.imp {X : Cx} {e : List Stmt} {t t' : TS} (h : PSs X e t) (i : ∀ D σ H, t' D σ H → t D σ H) : PSs X e t' := ⟨fun pins s σ H D I q => h.run pins s σ H D I (i D σ H q)⟩
theorem PI.imp {X : Cx} {tg e : Expr} {t t' : TI} (h : PI X tg e t) (i : ∀ σ H R, t' σ H R → t σ H R) : PI X tg e t' := ⟨fun pins s σ H R I q => h.run pins s σ H R I (i σ H R q)⟩

/-! ### ways to end -/
section
variable {c : Cfg} {F H F1 H1 : Hp} {Q : VK} {d : PyData}
/-- a value that is no object of its own: any way -/
theorem fin_val {m : Md} {v : V} (e : Ext c F H F1 H1) (h : Dp c.K F1 v d) (hm : m = .nw → isMut d = false) (k : ∀ v H' F', Ext c F H F' H' → Fin c m F H F' H' v d → Q v H') : Q v H1 := by
  refine k v H1 F1 e ?_
  cases m with
  | fr => exact h
  | bo => exact .inl h
  | nw => dsimp only [Fin]; rw [hm rfl]; exact h
/-- a new tuple -/
theorem fin_tup {m : Md} {p : Addr} {xs : List V} {ds : List PyData} (e : Ext c F H F1 H1) (hn : H1 p = none) (h : DpAll c.K F1 xs ds) (k : ∀ v H' F', Ext c F H F' H' → Fin c m F H F' H' v (.tuple ds) → Q v H') : Q (.ref p) (upd H1 p (.tup xs)) := by
  have e2 := Ext.newF (u := .tup xs) e.ok hn (fun ps z => by cases z)
  have hd : Dp c.K (upd F1 p (.tup xs)) (.ref p) (.tuple ds) := .tup (SqT.of upd_same) (dpAll_mono e2.fkT _ _ h)
  exact fin_val (F1 := upd F1 p (.tup xs)) (e.trans e2) hd (fun _ => rfl) k
/-- a new list -/
theorem fin_lst {m : Md} {p : Addr} {xs : List V} {ds : List PyData} (e : Ext c F H F1 H1) (hn : H1 p = none) (h : DpAll c.K F1 xs ds) (k : ∀ v H' F', Ext c F H F' H' → Fin c m F H F' H' v (.list ds) → Q v H') : Q (.ref p) (upd H1 p (.lst xs)) := by
  have frz : ∀ m : Md, m ≠ .nw → (∀ v H' F', Ext c F H F' H' → Fin c m F H F' H' v (.list ds) → Q v H') → Q (.ref p) (upd H1 p (.lst xs)) := fun m hm k => by
    have e2 := Ext.newF (u := .lst xs) e.ok hn (fun ps z => by cases z)
    have hd : Dp c.K (upd F1 p (.lst xs)) (.ref p) (.list ds) := .lst (SqL.of upd_same) (dpAll_mono e2.fkT _ _ h)
    exact fin_val (F1 := upd F1 p (.lst xs)) (e.trans e2) hd (fun z => absurd z hm) k
  cases m with
  | fr => exact frz .fr (fun z => by cases z) k
  | bo => exact frz .bo (fun z => by cases z) k
  | nw =>
    have e2 := Ext.new (u := .lst xs) e.ok hn (fun ps z => by cases z)
    refine k (.ref p) (upd H1 p (.lst xs)) F1 (e.trans e2) ?_
    dsimp only [Fin]
    rw [if_pos (show isMut (PyData.list ds) = true from rfl)]
    refine ⟨p, .lst xs, rfl, ?_, ?_, upd_same, h⟩
    · cases q : F1 p with
      | none => rfl
      | some u => rw [e.ok.fh p u q] at hn; cases hn
    · exact e.grow p hn
end
end Cs

set_option maxHeartbeats 4000000
/-! Operations on data, by values. -/
noncomputable section
namespace Cs
open PySem PySem.Spec PyProof.Rows L2 GxR Ce Gx

theorem isData_ok {x y : PyData} (h : isData x y = true) : SeqAt.shaped x = true ∧ SeqAt.shaped y = true := by
  simp only [isData, Bool.and_eq_true] at h
  exact ⟨pk_shaped h.1, pk_shaped h.2⟩
theorem lim_eq : LIM = sizeLine := by rw [sizeLine_eq]; rfl
section
variable {X : Cx}
/-- two lists in a row -/
def rCatL (K : PySem.W.Frag) : R2 := fun x y H Q => ∃ l b xs zs, x = .ref l ∧ y = .ref b ∧ SqL K H l xs ∧ SqL K H b zs ∧ xs.length + zs.length ≤ sizeLine ∧ ∀ p, H p = none → Q (.ref p) (upd H p (.lst (xs ++ zs)))
theorem op_catL : OpR X (binaryOp .Add) (rCatL X.K) := by
  intro pins s σ H x y v u Q I rx ry h
  obtain ⟨l, b, xs, zs, rfl, rfl, hH, hB, hz, q⟩ := h
  cases rx
  cases ry
  obtain ⟨its, r, ⟨⟨cls, dd, data, sl⟩, n, ho, hc, _, hd⟩, _⟩ := I.list hH
  obtain ⟨its2, r2, ⟨⟨cls2, dd2, data2, sl2⟩, n2, ho2, hc2, _, hd2⟩, _⟩ := I.list hB
  simp only at hc hd hc2 hd2
  subst hc hd hc2 hd2
  have l1 := r.length
  have l2 := r2.length
  have e : its.toArray ++ its2.toArray = (its ++ its2).toArray := by simp
  refine concat_meets ⟨_, ho, rfl⟩ ⟨_, ho2, rfl⟩ noFill_list_add seq_list_add PySem.F.slot_list_add PySem.F.entry_list_add (PySem.F.args_list_add_2 _ _) (list_addW l b its.toArray its2.toArray n n2 dd dd2 sl sl2 (by rw [List.size_toArray, List.size_toArray]; omega)) ⟨ho, ho2, ?_⟩
  rw [e]
  exact ⟨.ref _, _, I.lnew (t' := s.toks) (r.append r2) (by rw [List.length_append]; omega), rfl, q _ I.fresh⟩

/-! ### binary operators -/
def bopOf : Bop → Operator
  | .add => .Add | .sub => .Sub | .mul => .Mult | .mod => .Mod | .fdiv => .FloorDiv | .pow => .Pow | .shl => .LShift
/-- what two data give -/
def rD (c : Cfg) (m : Md) (f : PyData → PyData → Option PyData) : R2 := fun x y H Q => ∃ F d1 d2 d, Ok c F H ∧ Rq c.K F H x d1 ∧ Rq c.K F H y d2 ∧ f d1 d2 = some d ∧ ∀ v H' F', Ext c F H F' H' → Fin c m F H F' H' v d → Q v H'
theorem fin_int {c : Cfg} {m : Md} {F H : Hp} {Q : VK} {i : Int} (o : Ok c F H) (k : ∀ v H' F', Ext c F H F' H' → Fin c m F H F' H' v (.int i) → Q v H') : Q (.int i) H := fin_val (Ext.refl o) (.int i) (fun _ => rfl) k
theorem fin_bl {c : Cfg} {m : Md} {F H : Hp} {Q : VK} {i : Bool} (o : Ok c F H) (k : ∀ v H' F', Ext c F H F' H' → Fin c m F H F' H' v (.bool i) → Q v H') : Q (.bl i) H := fin_val (Ext.refl o) (.bl i) (fun _ => rfl) k
theorem fin_str {c : Cfg} {m : Md} {F H : Hp} {Q : VK} {i : Str} (o : Ok c F H) (k : ∀ v H' F', Ext c F H F' H' → Fin c m F H F' H' v (.str i) → Q v H') : Q (.str i) H := fin_val (Ext.refl o) (.str i) (fun _ => rfl) k
theorem op_bin {c : Cfg} (hK : c.K = X.K) {m : Md} (op : Bop) : OpR X (binaryOp (bopOf op)) (rD c m (binop op)) := by
  intro pins s σ H x y v u Q I rx ry ⟨F, d1, d2, d, o, h1, h2, hf, k⟩
  cases op with
  | add =>
    cases d1 <;> cases d2 <;> try (simp [binop] at hf; done)
    · cases hf
      cases h1.int; cases h2.int
      exact op_add pins s σ H _ _ v u Q I rx ry ⟨_, _, rfl, rfl, fin_int o k⟩
    · simp only [binop, gd_some] at hf
      obtain ⟨hz, hf⟩ := hf
      cases hf
      cases h1.str; cases h2.str
      exact op_add_str pins s σ H _ _ v u Q I rx ry ⟨_, _, rfl, rfl, by rw [← lim_eq]; exact hz, fin_str o k⟩
    · simp only [binop, gd_some] at hf
      obtain ⟨hz, hf⟩ := hf
      cases hf
      obtain ⟨a, xs, rfl, s1, a1⟩ := h1.lst o
      obtain ⟨b, ys, rfl, s2, a2⟩ := h2.lst o
      refine op_catL pins s σ H _ _ v u Q I rx ry ⟨a, b, xs, ys, rfl, rfl, hK ▸ s1, hK ▸ s2, by rw [DpAll.length a1, DpAll.length a2, ← lim_eq]; exact hz, fun p hn => ?_⟩
      exact fin_lst (Ext.refl o) hn (DpAll.append a1 a2) k
    · simp only [binop, gd_some] at hf
      obtain ⟨hz, hf⟩ := hf
      cases hf
      obtain ⟨a, xs, rfl, s1, a1, D1⟩ := h1.tup o
      obtain ⟨b, ys, rfl, s2, a2, D2⟩ := h2.tup o
      refine op_catA pins s σ H _ _ v u Q I rx ry ⟨a, b, xs, ys, rfl, rfl, hK ▸ s1, hK ▸ s2, by rw [DpAll.length a1, DpAll.length a2, ← lim_eq]; exact hz, fun e => ?_, fun e1 e2 => ?_, fun e1 e2 p hn => ?_⟩
      · subst e; cases a1
        exact fin_val (Ext.refl o) D2 (fun _ => rfl) k
      · subst e2; cases a2
        rw [List.append_nil] at k
        exact fin_val (Ext.refl o) D1 (fun _ => rfl) k
      · exact fin_tup (Ext.refl o) hn (DpAll.append a1 a2) k
  | sub =>
    cases d1 <;> cases d2 <;> try (simp [binop] at hf; done)
    cases hf
    cases h1.int; cases h2.int
    exact op_sub pins s σ H _ _ v u Q I rx ry ⟨_, _, rfl, rfl, fin_int o k⟩
  | mul =>
    cases d1 <;> cases d2 <;> try (simp [binop] at hf; done)
    simp only [binop, gd_some] at hf
    obtain ⟨hz, hf⟩ := hf
    cases hf
    cases h1.int; cases h2.int
    exact op_mul pins s σ H _ _ v u Q I rx ry ⟨_, _, rfl, rfl, hz, fin_int o k⟩
  | mod =>
    cases d1 <;> cases d2 <;> try (simp [binop] at hf; done)
    simp only [binop, gd_some] at hf
    obtain ⟨hz, hf⟩ := hf
    cases hf
    cases h1.int; cases h2.int
    exact op_mod pins s σ H _ _ v u Q I rx ry ⟨_, _, rfl, rfl, hz, fin_int o k⟩
  | fdiv =>
    cases d1 <;> cases d2 <;> try (simp [binop] at hf; done)
    simp only [binop, gd_some] at hf
    obtain ⟨hz, hf⟩ := hf
    cases hf
    cases h1.int; cases h2.int
    exact op_fdiv pins s σ H _ _ v u Q I rx ry ⟨_, _, rfl, rfl, hz, fin_int o k⟩
  | pow =>
    cases d1 <;> cases d2 <;> try (simp [binop] at hf; done)
    simp only [binop, gd_some] at hf
    obtain ⟨hz, hf⟩ := hf
    cases hf
    cases h1.int; cases h2.int
    exact op_pow pins s σ H _ _ v u Q I rx ry ⟨_, _, rfl, rfl, hz, fin_int o k⟩
  | shl =>
    cases d1 <;> cases d2 <;> try (simp [binop] at hf; done)
    simp only [binop, gd_some] at hf
    obtain ⟨hz, hf⟩ := hf
    cases hf
    cases h1.int; cases h2.int
    exact op_shl pins s σ H _ _ v u Q I rx ry ⟨_, _, rfl, rfl, hz, fin_int o k⟩

/-! ### comparisons -/
def copOf : Cop → CmpOp
  | .eq => .Eq | .ne => .NotEq | .lt => .Lt | .le => .LtE | .gt => .Gt | .ge => .GtE | .isin => .In | .notin => .NotIn
def rC (c : Cfg) (op : Cop) : R2 := fun x y H Q => ∃ F d1 d2 b, Ok c F H ∧ Rq c.K F H x d1 ∧ Rq c.K F H y d2 ∧ cmpop op d1 d2 = some b ∧ Q (.bl b) H
theorem op_ltD (hu : X.A.units + 65 < cLine) : OpR X (compareOp .Lt) (fun x y H Q => ∃ d e, Dp X.K H x d ∧ Dp X.K H y e ∧ PySem.W.alike d e = true ∧ d ≠ .none ∧ d.depth ≤ 64 ∧ Q (.bl (PySem.W.dataLt d e)) H) := by
  intro pins s σ H x y v u Q I rx ry ⟨d, e, hd, he, ha, hn, hdp, q⟩
  obtain ⟨as, r1⟩ := Dp.reads I d x v hd rx
  obtain ⟨bs, r2⟩ := Dp.reads I e y u he ry
  exact PySem.W.rcLt_alike d e X.A s v u as bs r1 r2 ha hn (by omega) _ _ _ _ ⟨.bl _, H, I, rfl, q⟩
theorem op_inT (hu : X.A.units + 65 < cLine) : OpR X (compareOp .In) (fun x y H Q => ∃ d ds, Dp X.K H x d ∧ Dp X.K H y (.tuple ds) ∧ SeqAt.shaped d = true ∧ SeqAt.shaped (.tuple ds) = true ∧ Q (.bl (ds.any fun z => PyData.eqv z d)) H) := by
  intro pins s σ H x y v u Q I rx ry h
  obtain ⟨d, ds, hd, he, sd, se, q⟩ := h
  obtain ⟨as, r1⟩ := Dp.reads I d x v hd rx
  obtain ⟨bs, r2⟩ := Dp.reads I (.tuple ds) y u he ry
  exact SeqAt.in_tuple_reads r2 r1 (SeqAt.canLay_of_shaped se) (SeqAt.canLay_of_shaped sd) (room_in_shaped sd hu) ⟨.bl _, H, I, rfl, q⟩
theorem op_notInT (hu : X.A.units + 65 < cLine) : OpR X (compareOp .NotIn) (fun x y H Q => ∃ d ds, Dp X.K H x d ∧ Dp X.K H y (.tuple ds) ∧ SeqAt.shaped d = true ∧ SeqAt.shaped (.tuple ds) = true ∧ Q (.bl (!ds.any fun z => PyData.eqv z d)) H) := by
  intro pins s σ H x y v u Q I rx ry h
  obtain ⟨d, ds, hd, he, sd, se, q⟩ := h
  obtain ⟨as, r1⟩ := Dp.reads I d x v hd rx
  obtain ⟨bs, r2⟩ := Dp.reads I (.tuple ds) y u he ry
  exact SeqAt.notIn_tuple_reads r2 r1 (SeqAt.canLay_of_shaped se) (SeqAt.canLay_of_shaped sd) (room_in_shaped sd hu) ⟨.bl _, H, I, rfl, q⟩
theorem shaped_depth {d : PyData} (h : SeqAt.shaped d = true) : d.depth ≤ 64 := by
  have h' : (d.canLay0 && decide (d.depth ≤ 64)) = true := h
  rw [Bool.and_eq_true] at h'
  exact of_decide_eq_true h'.2
theorem op_cmp {c : Cfg} (hK : c.K = X.K) (hu : X.A.units + 65 < cLine) (op : Cop) : OpR X (compareOp (copOf op)) (rC c op) := by
  subst_vars
  intro pins s σ H x y v u Q I rx ry ⟨F, d1, d2, b, o, h1, h2, hf, k⟩
  have D1 : Dp X.K H x d1 := hK ▸ h1.dp o
  have D2 : Dp X.K H y d2 := hK ▸ h2.dp o
  cases op with
  | eq =>
    simp only [cmpop] at hf
    split at hf <;> try (cases hf; done)
    rename_i hz
    cases hf
    have hz := isData_ok hz
    exact op_eqD (by omega) pins s σ H x y v u Q I rx ry ⟨d1, d2, D1, D2, hz.1, hz.2, k⟩
  | ne =>
    simp only [cmpop] at hf
    split at hf <;> try (cases hf; done)
    rename_i hz
    cases hf
    have hz := isData_ok hz
    exact op_neD (by omega) pins s σ H x y v u Q I rx ry ⟨d1, d2, D1, D2, hz.1, hz.2, k⟩
  | lt =>
    cases d1 <;> cases d2 <;> try (simp [cmpop] at hf; done)
    · cases hf
      cases h1.int; cases h2.int
      exact op_lt pins s σ H _ _ v u Q I rx ry ⟨_, _, rfl, rfl, k⟩
    · simp only [cmpop] at hf
      split at hf <;> try (cases hf; done)
      rename_i hz
      cases hf
      simp only [Bool.and_eq_true] at hz
      have hz1 := isData_ok hz.1
      exact op_ltD hu pins s σ H x y v u Q I rx ry ⟨_, _, D1, D2, hz.2, (fun z => by cases z), shaped_depth hz1.1, k⟩
  | le =>
    cases d1 <;> cases d2 <;> try (simp [cmpop] at hf; done)
    cases hf
    cases h1.int; cases h2.int
    exact op_le pins s σ H _ _ v u Q I rx ry ⟨_, _, rfl, rfl, k⟩
  | gt =>
    cases d1 <;> cases d2 <;> try (simp [cmpop] at hf; done)
    cases hf
    cases h1.int; cases h2.int
    exact op_gt pins s σ H _ _ v u Q I rx ry ⟨_, _, rfl, rfl, k⟩
  | ge =>
    cases d1 <;> cases d2 <;> try (simp [cmpop] at hf; done)
    cases hf
    cases h1.int; cases h2.int
    exact op_ge pins s σ H _ _ v u Q I rx ry ⟨_, _, rfl, rfl, k⟩
  | isin =>
    cases d2 <;> try (simp [cmpop] at hf; done)
    · simp only [cmpop] at hf
      split at hf <;> try (cases hf; done)
      rename_i hz
      cases hf
      have hz := isData_ok hz
      exact op_inD hu pins s σ H x y v u Q I rx ry ⟨_, _, D1, D2, hz.1, hz.2, k⟩
    · simp only [cmpop] at hf
      split at hf <;> try (cases hf; done)
      rename_i hz
      cases hf
      have hz := isData_ok hz
      exact op_inT hu pins s σ H x y v u Q I rx ry ⟨_, _, D1, D2, hz.1, hz.2, k⟩
  | notin =>
    cases d2 <;> try (simp [cmpop] at hf; done)
    · simp only [cmpop] at hf
      split at hf <;> try (cases hf; done)
      rename_i hz
      cases hf
      have hz := isData_ok hz
      exact op_notInD hu pins s σ H x y v u Q I rx ry ⟨_, _, D1, D2, hz.1, hz.2, k⟩
    · simp only [cmpop] at hf
      split at hf <;> try (cases hf; done)
      rename_i hz
      cases hf
      have hz := isData_ok hz
      exact op_notInT hu pins s σ H x y v u Q I rx ry ⟨_, _, D1, D2, hz.1, hz.2, k⟩
end
end Cs

set_option maxHeartbeats 4000000
/-! More operations on data, by values. -/
noncomputable section
namespace Cs
open PySem PySem.Spec PyProof.Rows L2 GxR Ce Gx

theorem ixN_map {α β : Type} (f : α → β) (xs : List α) (i : Int) : atI (xs.map f) i = (atI xs i).map f := by
  unfold atI
  rw [List.length_map]
  cases ixN xs.length i with
  | none => rfl
  | some j => simp
theorem atI_dp {K : PySem.W.Frag} {H : Hp} {xs : List V} {ds : List PyData} {i : Int} {d : PyData} (h : DpAll K H xs ds) (e : atI ds i = some d) : ∃ v, atI xs i = some v ∧ Dp K H v d := by
  unfold atI at e ⊢
  rw [DpAll.length h]
  cases q : ixN ds.length i with
  | none => rw [q] at e; cases e
  | some j =>
    rw [q] at e
    exact DpAll.get' h e
theorem cut_dp {K : PySem.W.Frag} {H : Hp} {xs : List V} {ds : List PyData} {lo hi : Option Int} (h : DpAll K H xs ds) : DpAll K H (cutV xs lo hi) (cut ds lo hi) := by
  unfold cutV cut
  rw [DpAll.length h]
  exact DpAll.take _ (DpAll.drop _ h)
section
variable {X : Cx} {c : Cfg}
theorem ixr_data (hK : c.K = X.K) {m : Md} : IxR X (rD c (match m with | .nw => .fr | m => m) index) := by
  intro value slice pins s σ H x y v u Q I rx ry ⟨F, d1, d2, d, o, h1, h2, hf, k⟩ hs
  have fin : ∀ w, Dp c.K F w d → Q w H := fun w hw => fin_val (Ext.refl o) hw (fun z => by cases m <;> cases z) k
  cases d2 <;> try (cases d1 <;> simp [index] at hf; done)
  cases h2.int
  cases d1 <;> try (simp [index] at hf; done)
  · simp only [index, gd_some] at hf
    obtain ⟨hz, hf⟩ := hf
    cases h1.str
    rw [Option.map_eq_some_iff] at hf
    obtain ⟨cc, e1, e2⟩ := hf
    subst e2
    exact ix_str value slice pins s σ H _ _ v u Q I rx ry ⟨_, _, cc, rfl, rfl, by rw [← lim_eq]; exact hz, e1, fin _ (.str _)⟩ hs
  · obtain ⟨a, xs, rfl, s1, a1⟩ := h1.lst o
    obtain ⟨w, e1, hw⟩ := atI_dp a1 (show atI _ _ = some d from hf)
    exact ix_list value slice pins s σ H _ _ v u Q I rx ry ⟨a, xs, _, w, rfl, rfl, hK ▸ s1, e1, fin w hw⟩ hs
  · obtain ⟨a, xs, rfl, s1, a1, _⟩ := h1.tup o
    obtain ⟨w, e1, hw⟩ := atI_dp a1 (show atI _ _ = some d from hf)
    exact ix_tup value slice pins s σ H _ _ v u Q I rx ry ⟨a, xs, _, w, rfl, rfl, hK ▸ s1, e1, fin w hw⟩ hs

/-- a slice -/
def rSl (c : Cfg) (m : Md) : V → Option Int → Option Int → Hp → VK → Prop := fun x lo hi H Q => ∃ F d1 d, Ok c F H ∧ Rq c.K F H x d1 ∧ slice d1 lo hi = some d ∧ ∀ v H' F', Ext c F H F' H' → Fin c m F H F' H' v d → Q v H'
theorem cut_all {α : Type} {xs : List α} {lo hi : Option Int} (h : HT.sIx xs.length 0 lo = 0 ∧ HT.sIx xs.length xs.length hi = xs.length) : cut xs lo hi = xs := by
  unfold cut
  rw [h.1, h.2, List.drop_zero, Nat.sub_zero, List.take_length]
theorem slr_data (hK : c.K = X.K) {m : Md} : SlR X (rSl c m) := by
  intro pins s σ H x v vl vu lo hi sl Q I rx hs pl pu ⟨F, d1, d, o, h1, hf, k⟩
  cases d1 <;> try (simp [slice] at hf; done)
  · simp only [slice, gd_some] at hf
    obtain ⟨hz, hf⟩ := hf
    cases hf
    cases h1.str
    refine sl_str pins s σ H _ v vl vu lo hi sl Q I rx hs pl pu ⟨_, rfl, by rw [← lim_eq]; exact hz, ?_⟩
    have e : cutS ‹Str› lo hi = ⟨(cut (‹Str›).cps.toList lo hi).toArray⟩ := by
      unfold cutS cut Str.length
      rw [Array.length_toList]
    rw [e]
    exact fin_val (Ext.refl o) (.str _) (fun _ => rfl) k
  · cases hf
    obtain ⟨a, xs, rfl, s1, a1⟩ := h1.lst o
    exact sl_list pins s σ H _ v vl vu lo hi sl Q I rx hs pl pu ⟨a, xs, rfl, hK ▸ s1, fun p hn => fin_lst (Ext.refl o) hn (cut_dp a1) k⟩
  · cases hf
    obtain ⟨a, xs, rfl, s1, a1, D1⟩ := h1.tup o
    refine sl_tupA pins s σ H _ v vl vu lo hi sl Q I rx hs pl pu ⟨a, xs, rfl, hK ▸ s1, fun hw => ?_, fun hw p hn => fin_tup (Ext.refl o) hn (cut_dp a1) k⟩
    rw [DpAll.length a1] at hw
    rw [cut_all hw] at k
    exact fin_val (Ext.refl o) D1 (fun _ => rfl) k

/-! ### builtins of one and two values -/
def b1Of : B1 → Value
  | .len => .builtin "len" | .abs => .builtin "abs" | .int => .type "int" | .str => .type "str"
def rB1 (c : Cfg) (m : Md) (b : B1) : List V → Hp → VK → Prop := fun xs H Q => ∃ F x d1 d, xs = [x] ∧ Ok c F H ∧ Rq c.K F H x d1 ∧ b1op b d1 = some d ∧ ∀ v H' F', Ext c F H F' H' → Fin c m F H F' H' v d → Q v H'
theorem cr_b1 (hK : c.K = X.K) {m : Md} (b : B1) : CallR X (b1Of b) (rB1 c m b) := by
  intro pins s σ H xs us Q I r ⟨F, x, d1, d, e, o, h1, hf, k⟩
  subst e
  cases b with
  | len =>
    cases d1 <;> try (simp [b1op] at hf; done)
    · simp only [b1op, gd_some] at hf
      obtain ⟨hz, hf⟩ := hf
      cases hf
      cases h1.str
      exact call_len_str pins s σ H _ us Q I r ⟨_, rfl, by rw [← lim_eq]; exact hz, fin_int o k⟩
    · cases hf
      obtain ⟨a, ys, rfl, s1, a1⟩ := h1.lst o
      exact call_len_seq pins s σ H _ us Q I r ⟨a, ys, rfl, .inl (hK ▸ s1), by rw [DpAll.length a1]; exact fin_int o k⟩
    · cases hf
      obtain ⟨a, ys, rfl, s1, a1, _⟩ := h1.tup o
      exact call_len_seq pins s σ H _ us Q I r ⟨a, ys, rfl, .inr (hK ▸ s1), by rw [DpAll.length a1]; exact fin_int o k⟩
  | abs =>
    cases d1 <;> try (simp [b1op] at hf; done)
    cases hf
    cases h1.int
    exact call_abs pins s σ H _ us Q I r ⟨_, rfl, fin_int o k⟩
  | int =>
    cases d1 <;> try (simp [b1op] at hf; done)
    cases hf
    cases h1.int
    exact call_int1 pins s σ H _ us Q I r (.inl ⟨_, rfl, fin_int o k⟩)
  | str =>
    cases d1 <;> try (simp [b1op] at hf; done)
    simp only [b1op, gd_some] at hf
    obtain ⟨hz, hf⟩ := hf
    cases hf
    cases h1.int
    exact call_str_int pins s σ H _ us Q I r ⟨_, rfl, hz, fin_str o k⟩
def b2Of : B2 → Value
  | .max => .builtin "max" | .min => .builtin "min"
def rB2 (c : Cfg) (m : Md) (b : B2) : List V → Hp → VK → Prop := fun xs H Q => ∃ F x y d1 d2 d, xs = [x, y] ∧ Ok c F H ∧ Rq c.K F H x d1 ∧ Rq c.K F H y d2 ∧ b2op b d1 d2 = some d ∧ ∀ v H' F', Ext c F H F' H' → Fin c m F H F' H' v d → Q v H'
theorem cr_b2 (hc : X.calm = true) {m : Md} (b : B2) : CallR X (b2Of b) (rB2 c m b) := by
  intro pins s σ H xs us Q I r ⟨F, x, y, d1, d2, d, e, o, h1, h2, hf, k⟩
  subst e
  cases b with
  | max =>
    cases d1 <;> cases d2 <;> try (simp [b2op] at hf; done)
    cases hf
    cases h1.int; cases h2.int
    exact call_max2 hc pins s σ H _ us Q I r ⟨_, _, rfl, fin_int o k⟩
  | min =>
    cases d1 <;> cases d2 <;> try (simp [b2op] at hf; done)
    cases hf
    cases h1.int; cases h2.int
    exact call_min2 hc pins s σ H _ us Q I r ⟨_, _, rfl, fin_int o k⟩

/-! ### isinstance -/
def tyName : Tyn → String
  | .int => "int" | .bool => "bool" | .str => "str" | .tuple => "tuple"
def dName : PyData → String
  | .none => "NoneType" | .bool _ => "bool" | .int _ => "int" | .str _ => "str" | .list _ => "list" | .tuple _ => "tuple" | .dict _ => "dict"
theorem tyx_rd {K : PySem.W.Frag} {H : Hp} {a : Addr} {xs : List V} (h : SqL K H a xs) : TyX K H (.ref a) (.type "list") := by
  rcases h with (h | ⟨o, h⟩) | ⟨o, its, n, h, hc, _⟩
  · exact .base (.lst h)
  · exact .base (.frz h)
  · exact .kList h hc
theorem tyx_rt {K : PySem.W.Frag} {H : Hp} {a : Addr} {xs : List V} (h : SqT K H a xs) : TyX K H (.ref a) (.type "tuple") := by
  rcases h with (h | ⟨o, h⟩) | ⟨o, its, n, h, hc, _⟩
  · exact .base (.tup h)
  · exact .fTuple h
  · exact .kTuple h hc
theorem dp_tyx {K : PySem.W.Frag} {H : Hp} {v : V} {d : PyData} (h : Dp K H v d) : TyX K H v (.type (dName d)) := by
  cases h with
  | non => exact .base .non
  | bl b => exact .base (.bl b)
  | int i => exact .base (.int i)
  | str x => exact .base (.str x)
  | lst hs _ => exact tyx_rd hs
  | tup hs _ => exact tyx_rt hs
theorem kits : ∀ (T : Tyn) (d : PyData) (b : Bool), isTy T d = some b → kitB (dName d) (tyName T) = some b := by
  have h : ∀ T : Tyn, kitB "NoneType" (tyName T) = some false ∧ kitB "bool" (tyName T) = some (match T with | .int => true | .bool => true | _ => false) ∧ kitB "int" (tyName T) = some (match T with | .int => true | _ => false) ∧
      kitB "str" (tyName T) = some (match T with | .str => true | _ => false) ∧ kitB "list" (tyName T) = some false ∧ kitB "tuple" (tyName T) = some (match T with | .tuple => true | _ => false) := by
    intro T
    cases T <;> refine ⟨?_, ?_, ?_, ?_, ?_, ?_⟩ <;> decide +kernel
  intro T d b e
  obtain ⟨h1, h2, h3, h4, h5, h6⟩ := h T
  cases T <;> cases d <;> try (simp [isTy] at e; done)
  all_goals (cases e; first | exact h1 | exact h2 | exact h3 | exact h4 | exact h5 | exact h6)
def rIsT (c : Cfg) (T : Tyn) : List V → Hp → VK → Prop := fun xs H Q => ∃ F x d1 b, xs = [x, .ty (tyName T)] ∧ Ok c F H ∧ Rq c.K F H x d1 ∧ isTy T d1 = some b ∧ Q (.bl b) H
theorem cr_isT (hK : c.K = X.K) (T : Tyn) : CallR X (.builtin "isinstance") (rIsT c T) := by
  intro pins s σ H xs us Q I r ⟨F, x, d1, b, e, o, h1, hf, k⟩
  have h := h1.dp o
  rw [hK] at h
  exact call_isi pins s σ H xs us Q I r ⟨x, .ty (tyName T), _, _, b, e, .ty _, dp_tyx h, kit_ty (kits T d1 b hf), k⟩

/-! ### truth -/
theorem tru_data (hK : c.K = X.K) {F H : Hp} {v : V} {d : PyData} {b : Bool} (o : Ok c F H) (h : Rq c.K F H v d) (e : Ce.truthy d = some b) : TruV X.K v H b := by
  cases d with
  | none => cases h.non; cases e; rfl
  | bool x => cases h.bl; cases e; rfl
  | int i => cases h.int; cases e; rfl
  | str z =>
    cases h.str
    simp only [Ce.truthy, gd_some] at e
    obtain ⟨hz, e⟩ := e
    cases e
    exact ⟨by rw [← lim_eq]; exact hz, rfl⟩
  | list ds =>
    cases e
    obtain ⟨a, xs, rfl, s1, a1⟩ := h.lst o
    refine .inl ⟨xs, hK ▸ s1, ?_⟩
    cases a1 <;> rfl
  | tuple ds =>
    cases e
    obtain ⟨a, xs, rfl, s1, a1, _⟩ := h.tup o
    refine .inr (.inl ⟨xs, hK ▸ s1, ?_⟩)
    cases a1 <;> rfl
  | dict kvs => exact h.dict.elim
end
end Cs

set_option maxHeartbeats 4000000
/-! Sorting tuples, the empty one among them. -/
namespace PySem.SeqAt
open PySem PySem.Calls PyProof.Rows
section
variable {A : Around} {s : Shared}
theorem call_tuple_lt {prog : Program} {w : World} {E : Value → Shared → Prop} {Q : Value → Shared → Prop} {l b : Addr} {items items2 : Array Value} {e r : Nat → Bool} (hl : s.heap.IsTuple l items) (hb : s.heap.IsTuple b items2)
    (he : ∀ j (h1 : j < items.size) (h2 : j < items2.size), EqAt A.in1 s items[j] items2[j] (e j)) (hr : ∀ j (h1 : j < items.size) (h2 : j < items2.size), e j = false → RcLt A.in1 s items[j] items2[j] (r j))
    (h : Q (.bool (firstLt e r (decide (items.size < items2.size)) (List.range (min items.size items2.size)))) s) : wpAny (model prog w) A (call (.builtin "tuple.__lt__") [.ref l, .ref b]) Q E s := by
  obtain ⟨⟨cls, dd, data, sl⟩, ho, hc, n, hd⟩ := id hl
  obtain ⟨⟨cls2, dd2, data2, sl2⟩, ho2, hc2, n2, hd2⟩ := id hb
  simp only at hc hd hc2 hd2
  subst hc hd hc2 hd2
  exact call_meets F.slot_tuple_lt ⟨_, ho, rfl⟩ F.entry_tuple_lt (F.args_tuple_lt_2 _ _) (tuple_ltAt l b items items2 n n2 dd dd2 sl sl2 e r) ⟨ho, ho2, he, hr, h⟩
end
end PySem.SeqAt
namespace PySem.W
open PySem PySem.Calls PyProof.Rows PySem.SeqAt
section
variable {prog : Program} {w : World} {A : Around} {E : Value → Shared → Prop} {s : Shared}
theorem oneLt_tup {xs ys : List PyData} {a b : Value} {as bs : List Addr} {Q : Bool → Shared → Prop} (ra : Reads s.heap a (.tuple xs) as) (rb : Reads s.heap b (.tuple ys) bs) (hal : alikeAll xs ys = true)
    (hu : A.units + min (PyData.depth (.tuple xs)) (PyData.depth (.tuple ys)) < cLine) (hq : Q (dataLt (.tuple xs) (.tuple ys)) s) : wpAny (model prog w) A (oneLt' true a b) Q E s := by
  cases ra with
  | @tuple l o vs n _ as₁ h1 h2 h3 h4 =>
    cases rb with
    | @tuple l' o' vs' n' _ bs₁ k1 k2 k3 k4 =>
      have n1 : vs.size = xs.length := by simpa using ReadsAll.length _ _ _ h4
      have n2 : vs'.size = ys.length := by simpa using ReadsAll.length _ _ _ k4
      rw [dataLt_tuple, ← firstLt_toks xs ys hal, ← n1, ← n2] at hq
      rw [oneLt'_eq]
      simp only [if_true]
      refine wpAny_bind (wpAny_cRoomFor (room_here hu) ?_)
      refine wpAny_bind (wpAny_callSpecialIfBound?_slot (T := "tuple") ⟨_, h1, h2⟩ F.slot_tuple_lt (call_tuple_lt (e := pairEq xs ys) (r := fun j => dataLt (xs.getD j .none) (ys.getD j .none)) ⟨_, h1, h2, _, h3⟩ ⟨_, k1, k2, _, k3⟩ (fun j j1 j2 => ?_) (fun j j1 j2 hj => ?_) ?_))
      · have := eqAt_alikeAll xs ys A.in1 s vs.toList vs'.toList _ _ h4 k4 hal (room_in hu) j (by simpa using j1) (by simpa using j2)
        simpa using this
      · have := rcLt_alikeAll xs ys A.in1 s vs.toList vs'.toList _ _ h4 k4 hal (room_in hu) j (by simpa using j1) (by simpa using j2) hj
        simpa using this
      · exact wpAny_truthy_bool hq
end
section
variable {M : Model} {A : Around} {E : Value → Shared → Prop} {s : Shared}
/-- which of the tuples are not empty -/
theorem tup_firsts : ∀ (vs : List Value) (ds : List PyData) {Q : List (Option Value) → Shared → Prop}, EachIs (fun v d => ∃ as, Reads s.heap v d as) vs ds → (∀ d ∈ ds, ∃ xs, d = .tuple xs) → (∀ fs, fs.map Option.isSome = ds.map (fun d => match d with | .tuple (_ :: _) => true | _ => false) → Q fs s) →
    wpAny M A (vs.mapM firstOfTuple') Q E s
  | [], _, _, e, _, h => by
    cases e
    rw [List.mapM_nil]
    exact wpAny_pure (h [] rfl)
  | v :: vs, _, Q, e, ht, h => by
    cases e with
    | @cons _ d _ ds r es =>
      obtain ⟨as, r⟩ := r
      obtain ⟨xs, rfl⟩ := ht d List.mem_cons_self
      rw [List.mapM_cons]
      refine wpAny_bind ?_
      rw [kas_first_eq]
      cases r with
      | @tuple a o ws n _ _ h1 h2 h3 h4 =>
        refine wpAny_bind (Looks.here (show Looks M s.heap (typeOf (.ref a)) o.cls from (Looks.ld h1).andThen .now) ?_)
        rw [h2, if_neg (by first | decide | simp)]
        refine wpAny_bind (listItems_at h1 h3 (wpAny_pure ?_))
        refine wpAny_bind (tup_firsts vs ds es (fun d hd => ht d (List.mem_cons_of_mem _ hd)) fun fs hfs => wpAny_pure (h _ ?_))
        rw [List.map_cons, List.map_cons, hfs]
        congr 1
        have hl : ws.size = xs.length := by simpa using ReadsAll.length _ _ _ h4
        cases xs with
        | nil =>
          have : ws[0]? = none := by simp at hl ⊢; exact hl
          rw [this]; rfl
        | cons x xs =>
          have : 0 < ws.size := by rw [hl]; exact Nat.succ_pos _
          rw [getElem?_pos ws 0 this]; rfl
/-- values that read as alike tuples can be sorted -/
theorem SortsAt.tups {prog : Program} {w : World} {vs : List Value} {ds : List PyData} (e : EachIs (fun v d => ∃ as, Reads s.heap v d as) vs ds) (hal : AllAlike ds) (ht : ∀ d, d ∈ ds → ∃ xs, d = .tuple xs) (hu : ∀ d, d ∈ ds → A.units + d.depth < cLine) : SortsAt prog w A s (dataKind s.heap ds) vs := by
  by_cases hne : ∀ d, d ∈ ds → ∃ x r, d = .tuple (x :: r)
  · exact SortsAt.data e hal (.inl hne) hu
  have room : ∀ {d d' : PyData}, d ∈ ds → A.units + min d.depth d'.depth < cLine := fun {d d'} hd => Nat.lt_of_le_of_lt (Nat.add_le_add_left (Nat.min_le_left _ _) _) (hu d hd)
  refine ⟨fun v hv => ?_, ?_⟩
  · obtain ⟨d, hd, as, r⟩ := e.left v hv
    exact ⟨_, dataKind_some hal hd r⟩
  have hf : (ds.map (fun d => match d with | .tuple (_ :: _) => true | _ => false)).all id = false := by
    rw [List.all_eq_false]
    have : ∃ d ∈ ds, ¬ ∃ x r, d = .tuple (x :: r) := Classical.byContradiction fun h => hne fun d hd => Classical.byContradiction fun h2 => h ⟨d, hd, h2⟩
    obtain ⟨d, hd, hx⟩ := this
    obtain ⟨xs, rfl⟩ := ht d hd
    refine ⟨_, List.mem_map.mpr ⟨_, hd, rfl⟩, ?_⟩
    cases xs with
    | nil => simp
    | cons x r => exact absurd ⟨x, r, rfl⟩ hx
  have firsts : ∀ (fs : List (Option Value)), fs.map Option.isSome = ds.map (fun d => match d with | .tuple (_ :: _) => true | _ => false) → (fs.toArray.all fun x => x.isSome) = false := fun fs h => by
    have : (fs.map Option.isSome).all id = false := by rw [h]; exact hf
    rw [List.all_map] at this
    rw [List.all_toArray]
    exact this
  cases ds with
  | nil =>
    exact absurd (fun d hd => by simp at hd) hne
  | cons d₀ ds₀ =>
    obtain ⟨xs₀, rfl⟩ := ht d₀ (List.mem_cons_self ..)
    cases xs₀ with
    | cons x₀ r₀ =>
      refine ⟨general', ?_, fun h2 E Q hq => ?_⟩
      · intro E x y a b Q ha hb hq
        obtain ⟨d, as, hd, ra, rfl⟩ := dataKind_inv ha
        obtain ⟨d', as', hd', rb, rfl⟩ := dataKind_inv hb
        obtain ⟨ys, rfl⟩ := ht d hd
        show wpAny (model prog w) A (oneLt' false x y) Q E s
        exact oneLt_alike (f := false) (fun z => by cases z) ra rb (hal _ hd d' hd') (by simp) (room hd) hq
      · rw [kat_kind_eq, List.mapM_toArray, map_eq_pure_bind]
        refine wpAny_bind (wpAny_bind (tup_firsts vs _ e ht fun fs hfs => wpAny_pure ?_))
        rw [if_neg (by rw [firsts fs hfs]; exact Bool.false_ne_true)]
        cases fs with
        | nil => simp at hfs
        | cons f fs =>
          have h0 : f.isSome = true := by
            rw [List.map_cons, List.map_cons] at hfs
            exact (List.cons.inj hfs).1
          rw [if_pos (by simpa using h0)]
          exact wpAny_pure hq
    | nil =>
      refine ⟨oneType', ?_, fun h2 E Q hq => ?_⟩
      · intro E x y a b Q ha hb hq
        obtain ⟨d, as, hd, ra, rfl⟩ := dataKind_inv ha
        obtain ⟨d', as', hd', rb, rfl⟩ := dataKind_inv hb
        obtain ⟨ys, rfl⟩ := ht d hd
        obtain ⟨zs, rfl⟩ := ht d' hd'
        rw [keyLt'_oneType]
        exact oneLt_tup ra rb (by simpa [alike] using hal _ hd _ hd') (room hd) hq
      · rw [kat_kind_eq, List.mapM_toArray, map_eq_pure_bind]
        refine wpAny_bind (wpAny_bind (tup_firsts vs _ e ht fun fs hfs => wpAny_pure ?_))
        rw [if_neg (by rw [firsts fs hfs]; exact Bool.false_ne_true)]
        cases fs with
        | nil => simp at hfs
        | cons f fs =>
          have h0 : f.isSome = false := by
            rw [List.map_cons, List.map_cons] at hfs
            exact (List.cons.inj hfs).1
          rw [if_neg (by
            have : ((f :: fs).toArray[0]?.bind id) = f := by simp
            rw [this, h0]
            exact Bool.false_ne_true)]
          rw [oneTypeOnly'_eq, List.mapM_toArray, map_eq_pure_bind]
          have hT : ∀ v ∈ vs, Looks (model prog w) s.heap (typeOf v) (Value.type "tuple") := fun v hv => by
            obtain ⟨d, hd, as, r⟩ := e.left v hv
            obtain ⟨ys, rfl⟩ := ht d hd
            exact looks_reads r
          refine wpAny_bind (wpAny_bind (wpAny_bind (kas_mapM (r := Value.type "tuple") _ (fun v hv Q' hq => (hT v hv).here hq) (wpAny_pure ?_))))
          cases vs with
          | nil => cases e
          | cons v vs =>
            have hall2 : ((List.map (fun _ => Value.type "tuple") (v :: vs)).toArray.all fun x => x == Value.type "tuple") = true := by
              simp only [List.all_toArray, List.all_map, List.all_eq_true]
              intro _ _
              rfl
            have h0 : (List.map (fun _ => Value.type "tuple") (v :: vs)).toArray[0]? = some (Value.type "tuple") := by simp
            rw [h0]
            simp only [hall2, if_true]
            exact wpAny_pure (wpAny_pure hq)
end
section
variable {prog : Program} {w : World} {A : Around} {E : Value → Shared → Prop} {s : Shared} {β : Type} {vs : List Value} {bs : List β} {enc : β → PyData} {R : Value → β → Prop}
/-- may be sorted: all tuples, or all of one other kind -/
def SortableT (ds : List PyData) : Prop := (∀ d, d ∈ ds → ∃ xs, d = .tuple xs) ∨ ∀ d, d ∈ ds → d ≠ .none ∧ ∀ xs, d ≠ .tuple xs
theorem SortsAt.dataT {vs : List Value} {ds : List PyData} (e : EachIs (fun v d => ∃ as, Reads s.heap v d as) vs ds) (hal : AllAlike ds) (hk : SortableT ds) (hu : ∀ d, d ∈ ds → A.units + d.depth < cLine) : SortsAt prog w A s (dataKind s.heap ds) vs := by
  rcases hk with h | h
  · exact SortsAt.tups e hal h hu
  · exact SortsAt.data e hal (.inr h) hu
theorem sorted_dataT {l : Addr} {Q : Value → Shared → Prop} (hl : s.heap.IsList l vs.toArray) (e : EachIs R vs bs) (er : EachIs (fun v b => ∃ as, Reads s.heap v (enc b) as) vs bs) (hal : AllAlike (bs.map enc)) (hk : SortableT (bs.map enc)) (hL : bs.length ≤ sizeLine)
    (hu : ∀ b, b ∈ bs → A.units + 2 + (enc b).depth < cLine) (h : ∀ out, out.length = bs.length → EachIs R out (bs.mergeSort (dataLe false enc)) → Q (.ref (s.heap.objs.size + 1)) { s with heap := sortedAll s.heap vs (List.toArray out) }) :
    wpAny (model prog w) A (call (.builtin "sorted") [.ref l]) Q E s := by
  have er' : EachIs (fun v b => ∃ as, Reads (sortingHeap (copyHeap s.heap vs) (s.heap.objs.size + 1) vs) v (enc b) as) vs bs := er.mono fun _ _ ⟨as, r⟩ => ⟨as, PyProof.Rows.Reads.keeps (fun _ _ => sorting_copy_old) r⟩
  exact sorted_vals hl (SortsAt.dataT (s := { s with heap := sortingHeap (copyHeap s.heap vs) (s.heap.objs.size + 1) vs }) (each_map (R := fun v d => ∃ as, Reads (sortingHeap (copyHeap s.heap vs) (s.heap.objs.size + 1) vs) v d as) enc er') hal hk (bound_map hu)) (by rw [e.length]; exact hL)
    (h _ (by rw [sortVals_length false rfl]; exact e.length) (sortVals_data false e er' hal))
end
end PySem.W

set_option maxHeartbeats 4000000
/-! sorted, sum, min, max of a tuple; min, max of data. -/
namespace PyProof.Rows
open PySem PySem.Calls
section
variable {prog : Program} {w : World} {A : Around} {E : Value → Shared → Prop} {s : Shared}
theorem collect_tuple {l : Addr} {vs : List Value} {Q : List Value → Shared → Prop} (hl : s.heap.IsTuple l vs.toArray)
    (h : Q vs { s with heap := (s.heap.push (seqObj "list" #[] 0)).update s.heap.objs.size (Obj.mapSeq (· ++ vs.toArray)) }) (hsz : vs.length ≤ sizeLine) :
    wpAny (model prog w) A (collect (.ref l)) Q E s := by
  obtain ⟨o, ho, hc, n, hd⟩ := id hl
  unfold collect
  refine wpAny_bind (wpAny_runValue (codeAny_builtin entry_proto_collect' ?_))
  show wpAny _ _ (do again (.builtin "list.__iadd__" ⟨[← newList [], .ref l], []⟩)) _ _ s
  refine wpAny_bind (wpAny_newList (wpAny_pure ⟨Code.quiet_builtin _ (by decide +kernel), codeAny_builtin entry_list_iadd' ?_⟩))
  show wpAny _ _ (Builtin.List.listExtendWith (.ref s.heap.objs.size) (.ref l) (.ref s.heap.objs.size)) _ _ { s with heap := s.heap.push (seqObj "list" #[] 0) }
  unfold Builtin.List.listExtendWith
  have ho' : (s.heap.push (seqObj "list" #[] 0)).get? l = some o := Heap.get?_push_of_some _ ho
  refine wpAny_bind (wpAny_typeOf (T := "tuple") ⟨o, ho', hc⟩ ?_)
  have ht : (Value.type "tuple" == Value.type "tuple") = true := by rfl
  rw [if_pos (by rw [ht]; simp)]
  refine wpAny_bind (listItems_at ho' hd ?_)
  refine wpAny_bind (listItems_at (xs := #[]) (n := 0) (Heap.get?_push_size _ rfl) rfl ?_)
  rw [if_neg (by simp)]
  refine wpAny_bind (listUpdate_at (xs := #[]) (n := 0) (Heap.get?_push_size _ rfl) rfl ?_ (Nat.zero_le _) (by show (#[] ++ vs.toArray).size ≤ sizeLine + 1; simp only [Array.size_append, List.size_toArray, List.length_nil]; omega))
  refine wpAny_pure ?_
  show wpAny (model prog w) A (do
      let o ← load s.heap.objs.size
      match o.data with
      | .seq xs _ => pure xs.toList
      | _ => unsupported "internal:collect") Q E { s with heap := (s.heap.push (seqObj "list" #[] 0)).update s.heap.objs.size (Obj.mapSeq (· ++ vs.toArray)) }
  refine wpAny_bind (wpAny_load (get?_update_seq (Heap.get?_push_size _ rfl) _) ?_)
  show wpAny _ _ (pure ((#[] : Array Value) ++ vs.toArray).toList) Q E _
  rw [show ((#[] : Array Value) ++ vs.toArray).toList = vs by simp]
  exact wpAny_pure h
end
end PyProof.Rows
namespace PySem.W
open PySem PySem.Calls PyProof.Rows PySem.SeqAt
section
variable {prog : Program} {w : World} {A : Around} {E : Value → Shared → Prop} {s : Shared} {κ : PyProof.Rows.KeyKind}
theorem sorted_of_sortT {l : Addr} {vs : List Value} {kw : List (Str × Value)} {Q : Value → Shared → Prop} (hl : s.heap.IsTuple l vs.toArray) (hL : vs.length ≤ sizeLine) (ha1 : argsOk "sorted" ⟨[.ref l], kw⟩) (ha2 : ∀ x, argsOk "list.sort" ⟨[.ref x], kw⟩)
    (body : ∀ E' : Value → Shared → Prop, wpAny (model prog w) A.in1.in1 (Builtin.«list.sort» ⟨[.ref (s.heap.objs.size + 1)], kw⟩) (fun f s' => f = .done (.ret .none) ∧ Q (.ref (s.heap.objs.size + 1)) s') E' { s with heap := copyHeap s.heap vs }) :
    wpAny (model prog w) A (call (.builtin "sorted") [.ref l] kw) Q E s := by
  refine call_function_entry_kw kind_sorted plain_sorted entry_sorted ha1 ?_
  unfold Builtin.«sorted»
  refine wpAny_bind (m := checkCount "sorted" 1 1 _) (wpAny_pure ?_)
  refine wpAny_bind (collect_tuple hl ?_ hL)
  refine wpAny_bind (wpAny_newList ?_ hL)
  have hsz : ((s.heap.push (seqObj "list" #[] 0)).update s.heap.objs.size (Obj.mapSeq (· ++ vs.toArray))).objs.size = s.heap.objs.size + 1 := by
    rw [Heap.size_update, Heap.size_push]
  show wpAny _ _ _ _ _ { s with heap := copyHeap s.heap vs }
  rw [hsz]
  refine wpAny_bind (wpAny_holding (wpAny_call_entry_kw slot_list_sort ⟨_, copyHeap_at s.heap vs, rfl⟩ entry_list_sort ?body (ha2 _)))
  case body =>
    show wpAny (model prog w) A.in1.in1 (Builtin.«list.sort» ⟨[.ref (s.heap.objs.size + 1)], kw⟩) _ _ _
    refine wpAny_mono (body _) (fun f s' hf => ?_) fun _ _ e => e
    obtain ⟨rfl, hq⟩ := hf
    exact ⟨_, rfl, wpAny_pure ⟨_, rfl, hq⟩⟩
theorem sorted_valsT {l : Addr} {vs : List Value} {Q : Value → Shared → Prop} (hl : s.heap.IsTuple l vs.toArray) (S : SortsAt prog w A.in1.in1 { s with heap := sortingHeap (copyHeap s.heap vs) (s.heap.objs.size + 1) vs } κ vs) (hL : vs.length ≤ sizeLine)
    (h : Q (.ref (s.heap.objs.size + 1)) { s with heap := sortedAll s.heap vs (sortVals κ false vs vs).toArray }) : wpAny (model prog w) A (call (.builtin "sorted") [.ref l]) Q E s :=
  sorted_of_sortT hl hL (args_sorted1 _) (fun _ => args_list_sort _) fun _ => list_sort_vals (s := { s with heap := copyHeap s.heap vs }) (copyHeap_at s.heap vs) S hL ⟨rfl, h⟩
end
section
variable {prog : Program} {w : World} {A : Around} {E : Value → Shared → Prop} {s : Shared} {β : Type} {vs : List Value} {bs : List β} {enc : β → PyData} {R : Value → β → Prop}
theorem sorted_dataTT {l : Addr} {Q : Value → Shared → Prop} (hl : s.heap.IsTuple l vs.toArray) (e : EachIs R vs bs) (er : EachIs (fun v b => ∃ as, Reads s.heap v (enc b) as) vs bs) (hal : AllAlike (bs.map enc)) (hk : SortableT (bs.map enc)) (hL : bs.length ≤ sizeLine)
    (hu : ∀ b, b ∈ bs → A.units + 2 + (enc b).depth < cLine) (h : ∀ out, out.length = bs.length → EachIs R out (bs.mergeSort (dataLe false enc)) → Q (.ref (s.heap.objs.size + 1)) { s with heap := sortedAll s.heap vs (List.toArray out) }) :
    wpAny (model prog w) A (call (.builtin "sorted") [.ref l]) Q E s := by
  have er' : EachIs (fun v b => ∃ as, Reads (sortingHeap (copyHeap s.heap vs) (s.heap.objs.size + 1) vs) v (enc b) as) vs bs := er.mono fun _ _ ⟨as, r⟩ => ⟨as, PyProof.Rows.Reads.keeps (fun _ _ => sorting_copy_old) r⟩
  exact sorted_valsT hl (SortsAt.dataT (s := { s with heap := sortingHeap (copyHeap s.heap vs) (s.heap.objs.size + 1) vs }) (each_map (R := fun v d => ∃ as, Reads (sortingHeap (copyHeap s.heap vs) (s.heap.objs.size + 1) vs) v d as) enc er') hal hk (bound_map hu)) (by rw [e.length]; exact hL)
    (h _ (by rw [sortVals_length false rfl]; exact e.length) (sortVals_data false e er' hal))
end
end PySem.W
namespace Cs
open PySem PySem.Spec PyProof.Rows L2 GxR Ce Gx
section
variable {X : Cx}
/-- sum of a tuple of ints -/
theorem sumT_raw {A : Around} {s : Shared} {P : Program} {w : World} {E : Value → Shared → Prop} {Q : Value → Shared → Prop} {l : Addr} {its : List Value} {ns : List Int} (hh : A.handled = none) (hl : s.heap.IsTuple l its.toArray) (hi : IntsAre its ns)
    (h : ∀ h' tk t', (∀ b o, s.heap.get? b = some o → h'.get? b = some o) → Q (.int ns.sum t') { s with heap := h', toks := tk }) : wpAny (model P w) A (call (.builtin "sum") [.ref l]) Q E s := by
  obtain ⟨xs, e⟩ := hi.allInts.items
  have hn : numsOf (intItems xs).toList = ns := by rw [← e]; exact hi.numsOf
  rw [nums_intItems] at hn
  rw [e] at hl
  refine PySem.W.ktm_sumG hh hl fun h' tk t' hk => ?_
  have := h h' tk t' hk
  rw [preSum_eq, List.take_of_length_le (by simp), hn]; exact this
theorem mmOk_ok {ds : List PyData} (h : mmOk ds = true) : PySem.W.AlikeAll ds ∧ (∀ d ∈ ds, d.canLay0 = true ∧ isMut d = false) ∧ PyData.depthAll ds ≤ 16 := by
  simp only [mmOk, Bool.and_eq_true, List.all_eq_true] at h
  obtain ⟨h1, h2, h3⟩ := h
  refine ⟨⟨fun x hx y hy => h2 x hx y hy, fun x hx e => ?_⟩, fun d hd => ⟨(pk_ok _ _ (h1 d hd)).1, by have := h3 d hd; cases d <;> first | rfl | cases this⟩, ?_⟩
  · have := h3 x hx
    rw [e] at this; cases this
  · have : ∀ (ds : List PyData), (∀ d ∈ ds, pk 16 d = true) → PyData.depthAll ds ≤ 16 := by
      intro ds
      induction ds with
      | nil => intro _; simp [PyData.depthAll]
      | cons d ds ih =>
        intro h
        have a := (pk_ok _ _ (h d (by simp))).2
        have b := ih fun e he => h e (by simp [he])
        simp only [PyData.depthAll]; omega
    exact this ds h1
theorem fold_mem {f : PyData → PyData → Bool} : ∀ (xs : List PyData) (x : PyData), xs.foldl (fun a y => if f a y = true then y else a) x ∈ x :: xs
  | [], x => by simp
  | y :: ys, x => by
    rw [List.foldl_cons]
    have := fold_mem (f := f) ys (if f x y = true then y else x)
    rcases List.mem_cons.mp this with e | e
    · rw [e]; split <;> simp
    · simp [e]
theorem vals_at {K : PySem.W.Frag} {H : Hp} : ∀ {ys : List V} {its : List Value} {ds : List PyData} {i : Nat} {v : Value}, Vals ys its → DpAll K H ys ds → its[i]? = some v → ∃ y d, ys[i]? = some y ∧ ds[i]? = some d ∧ RelV y v ∧ Dp K H y d
  | _, _, _, i, v, .nil, _, h => by simp at h
  | _, _, _, 0, v, .cons r rs, .cons d ds, h => by
    cases h; exact ⟨_, _, rfl, rfl, r, d⟩
  | _, _, _, i + 1, v, .cons r rs, .cons d ds, h => by
    obtain ⟨y, e, h1, h2, h3, h4⟩ := vals_at (i := i) rs ds (by simpa using h)
    exact ⟨y, e, by simpa using h1, by simpa using h2, h3, h4⟩
/-- min, max of a list or a tuple of data -/
theorem cr_mm {c : Cfg} (hK : c.K = X.K) (hc : X.calm = true) (hu : X.A.units + 200 < cLine) {b : Bool} {F H : Hp} {pins : List (Addr × Obj)} {s : Shared} {σ : L2.St} {a : Addr} {ys : List V} {ds : List PyData} {d : PyData} {Q : VK} (I : Inv X pins σ H s) (o : Ok c F H)
    (hs : SqL X.K H a ys ∨ SqT X.K H a ys) (ha : DpAll c.K F ys ds) (h : mmd b ds = some d) (q : ∀ v, Dp c.K F v d → isMut d = false → Q v H) : wpAny (model X.prog X.w) X.A (call (.builtin (if b = true then "max" else "min")) [.ref a]) (EP X pins σ Q) X.xe s := by
  cases ds with
  | nil => cases h
  | cons x xs =>
    rw [mmd] at h
    split at h <;> try (cases h; done)
    rename_i hok
    obtain ⟨h1, h2, h3⟩ := mmOk_ok hok
    cases h
    have hA : DpAll X.K H ys (x :: xs) := hK ▸ dpAll_mono o.fhT _ _ ha
    have fin : ∀ {its : List Value} (rv : Vals ys its) (i : Nat) (v : Value) (h' : Heap) (tk : Nat) (bs : List Addr) (dd : PyData), dd ∈ x :: xs → its[i]? = some v → Reads h' v dd bs → (∀ b o, s.heap.get? b = some o → h'.get? b = some o) →
        (∀ v, Dp c.K F v dd → isMut dd = false → Q v H) → EP X pins σ Q v { s with heap := h', toks := tk } := by
      intro its rv i v h' tk bs dd hdd hv hr hk q
      obtain ⟨y, e, g1, g2, g3, g4⟩ := vals_at rv ha hv
      have I' : Inv X pins σ H { s with heap := h', toks := tk } := I.kept hk
      obtain ⟨as, r2⟩ := Dp.reads I' e y v (hK ▸ dp_mono o.fhT _ _ g4) g3
      have e1 := SeqAt.readOf_eq (h2 _ hdd).1 hr
      have e2 := SeqAt.readOf_eq (h2 _ (List.mem_of_getElem? g2)).1 r2
      rw [e1] at e2
      subst e2
      exact ⟨y, H, I', g3, q y g4 (h2 _ hdd).2⟩
    have hmin : mind x xs ∈ x :: xs := fold_mem (f := fun a y => PySem.W.dataLt y a) xs x
    have hmax : maxd x xs ∈ x :: xs := fold_mem (f := fun a y => PySem.W.dataLt a y) xs x
    have hroom : X.A.units + 1 + PyData.depthAll (x :: xs) < cLine := by omega
    rcases hs with hs | hs
    · obtain ⟨its, rv, pl, _⟩ := I.list hs
      obtain ⟨as, h4⟩ := Dp.readsAll I _ _ its hA rv
      cases b with
      | false => exact PySem.W.min_list_data (I.ok.hd hc) pl.isList h4 h1 hroom fun i v h' tk bs hv hr hk => fin rv i v h' tk bs _ hmin (by simpa using hv) hr hk q
      | true => exact PySem.W.max_list_data (I.ok.hd hc) pl.isList h4 h1 hroom fun i v h' tk bs hv hr hk => fin rv i v h' tk bs _ hmax (by simpa using hv) hr hk q
    · obtain ⟨its, rv, pl, _⟩ := I.tuple hs
      obtain ⟨as, h4⟩ := Dp.readsAll I _ _ its hA rv
      cases b with
      | false => exact PySem.W.min_tuple_data (I.ok.hd hc) pl h4 h1 hroom fun i v h' tk bs hv hr hk => fin rv i v h' tk bs _ hmin (by simpa using hv) hr hk q
      | true => exact PySem.W.max_tuple_data (I.ok.hd hc) pl h4 h1 hroom fun i v h' tk bs hv hr hk => fin rv i v h' tk bs _ hmax (by simpa using hv) hr hk q
end
end Cs

set_option maxHeartbeats 4000000
/-! Builtins of one list. -/
noncomputable section
namespace Cs
open PySem PySem.Spec PyProof.Rows L2 GxR Ce Gx

theorem each_of {K : PySem.W.Frag} {F : Hp} : ∀ {xs : List V} {its : List Value} {ds : List PyData}, Vals xs its → DpAll K F xs ds → PySem.W.EachIs (fun v d => ∃ x, RelV x v ∧ Dp K F x d) its ds
  | _, _, _, .nil, h => by cases h; exact .nil
  | _, _, _, .cons r rs, h => by
    cases h with
    | cons d ds => exact .cons ⟨_, r, d⟩ (each_of rs ds)
theorem of_each {K : PySem.W.Frag} {F : Hp} : ∀ {its : List Value} {ds : List PyData}, PySem.W.EachIs (fun v d => ∃ x, RelV x v ∧ Dp K F x d) its ds → ∃ zs, Vals zs its ∧ DpAll K F zs ds
  | _, _, .nil => ⟨[], .nil, .nil⟩
  | _, _, .cons ⟨x, r, d⟩ t => by
    obtain ⟨zs, h1, h2⟩ := of_each t
    exact ⟨x :: zs, .cons r h1, .cons d h2⟩
theorem fold_max : ∀ (r : List Int) (x : Int), x ≤ r.foldl (fun m y => if m < y then y else m) x ∧ (∀ y ∈ r, y ≤ r.foldl (fun m y => if m < y then y else m) x) ∧ (r.foldl (fun m y => if m < y then y else m) x = x ∨ r.foldl (fun m y => if m < y then y else m) x ∈ r)
  | [], x => ⟨Int.le_refl _, fun y h => absurd h (by simp), .inl rfl⟩
  | z :: r, x => by
    rw [List.foldl_cons]
    obtain ⟨h1, h2, h3⟩ := fold_max r (if x < z then z else x)
    have a : x ≤ (if x < z then z else x) := by split <;> omega
    have b : z ≤ (if x < z then z else x) := by split <;> omega
    refine ⟨Int.le_trans a h1, fun y hy => ?_, ?_⟩
    · rcases List.mem_cons.mp hy with rfl | hy
      · exact Int.le_trans b h1
      · exact h2 y hy
    · rcases h3 with h3 | h3
      · rw [h3]
        split
        · exact .inr List.mem_cons_self
        · exact .inl rfl
      · exact .inr (List.mem_cons_of_mem _ h3)
theorem fold_min : ∀ (r : List Int) (x : Int), r.foldl (fun m y => if y < m then y else m) x ≤ x ∧ (∀ y ∈ r, r.foldl (fun m y => if y < m then y else m) x ≤ y) ∧ (r.foldl (fun m y => if y < m then y else m) x = x ∨ r.foldl (fun m y => if y < m then y else m) x ∈ r)
  | [], x => ⟨Int.le_refl _, fun y h => absurd h (by simp), .inl rfl⟩
  | z :: r, x => by
    rw [List.foldl_cons]
    obtain ⟨h1, h2, h3⟩ := fold_min r (if z < x then z else x)
    have a : (if z < x then z else x) ≤ x := by split <;> omega
    have b : (if z < x then z else x) ≤ z := by split <;> omega
    refine ⟨Int.le_trans h1 a, fun y hy => ?_, ?_⟩
    · rcases List.mem_cons.mp hy with rfl | hy
      · exact Int.le_trans h1 b
      · exact h2 y hy
    · rcases h3 with h3 | h3
      · rw [h3]
        split
        · exact .inr List.mem_cons_self
        · exact .inl rfl
      · exact .inr (List.mem_cons_of_mem _ h3)
theorem max_spec {ns : List Int} {m : Int} (h : m ∈ ns) (u : ∀ y, y ∈ ns → y ≤ m) : m = maxI ns := by
  cases ns with
  | nil => cases h
  | cons x r =>
    obtain ⟨h1, h2, h3⟩ := fold_max r x
    have a : m ≤ maxI (x :: r) := by
      rcases List.mem_cons.mp h with rfl | h
      · exact h1
      · exact h2 m h
    have b : maxI (x :: r) ≤ m := by
      rcases h3 with h3 | h3
      · show List.foldl _ x r ≤ m
        rw [h3]; exact u x List.mem_cons_self
      · exact u _ (List.mem_cons_of_mem _ h3)
    omega
theorem min_spec {ns : List Int} {m : Int} (h : m ∈ ns) (u : ∀ y, y ∈ ns → m ≤ y) : m = minI ns := by
  cases ns with
  | nil => cases h
  | cons x r =>
    obtain ⟨h1, h2, h3⟩ := fold_min r x
    have a : minI (x :: r) ≤ m := by
      rcases List.mem_cons.mp h with rfl | h
      · exact h1
      · exact h2 m h
    have b : m ≤ minI (x :: r) := by
      rcases h3 with h3 | h3
      · show m ≤ List.foldl _ x r
        rw [h3]; exact u x List.mem_cons_self
      · exact u _ (List.mem_cons_of_mem _ h3)
    omega
theorem ints_length : ∀ {ds : List PyData} {ns : List Int}, ints? ds = some ns → ns.length = ds.length
  | [], _, e => by cases e; rfl
  | d :: ds, ns, e => by
    cases d <;> try (simp [ints?] at e; done)
    simp only [ints?, Option.map_eq_some_iff] at e
    obtain ⟨ms, e1, rfl⟩ := e
    rw [List.length_cons, List.length_cons, ints_length e1]

theorem sortable_ok {ds : List PyData} (h : sortable ds = true) : PySem.W.AllAlike ds ∧ PySem.W.SortableT ds ∧ ∀ d ∈ ds, d.depth ≤ 64 := by
  simp only [sortable, Bool.and_eq_true, Bool.or_eq_true, List.all_eq_true, decide_eq_true_eq] at h
  obtain ⟨⟨h1, h2⟩, h3⟩ := h
  refine ⟨fun d hd d' hd' => h1 d hd d' hd', ?_, h3⟩
  rcases h2 with h2 | h2
  · refine .inl fun d hd => ?_
    have q := h2 d hd
    split at q
    · exact ⟨_, rfl⟩
    · cases q
  · refine .inr fun d hd => ?_
    have q := h2 d hd
    refine ⟨fun e => ?_, fun xs e => ?_⟩ <;> (rw [e] at q; cases q)
section
variable {X : Cx} {c : Cfg}
theorem cr_sortD (hK : c.K = X.K) (hu : X.A.units + 200 < cLine) {F : Hp} {H : Hp} {pins : List (Addr × Obj)} {s : Shared} {σ : L2.St} {x : V} {u : Value} {ds : List PyData} {Q : VK} (I : Inv X pins σ H s) (o : Ok c F H) (r : RelV x u) (h : Rq c.K F H x (.list ds)) (hs : sortable ds = true) (hl : ds.length ≤ LIM)
    (q : ∀ p zs, H p = none → DpAll c.K F zs (sortd ds) → Q (.ref p) (upd H p (.lst zs))) : wpAny (model X.prog X.w) X.A (call (.builtin "sorted") [u]) (EP X pins σ Q) X.xe s := by
  obtain ⟨a, xs, rfl, s1, a1⟩ := h.lst o
  cases r
  obtain ⟨its, rv, pl, hz⟩ := I.list (hK ▸ s1)
  obtain ⟨h1, h2, h3⟩ := sortable_ok hs
  have e := each_of rv a1
  have er : PySem.W.EachIs (fun v b => ∃ as, Reads s.heap v (id b) as) its ds := e.mono fun v d ⟨x, r, d0⟩ => Dp.reads I d x v (hK ▸ dp_mono o.fhT _ _ d0) r
  refine PySem.W.sorted_dataT (enc := id) (bs := ds) pl.isList e er (by rw [List.map_id]; exact h1) (by rw [List.map_id]; exact h2) (by rw [← lim_eq]; exact hl) (fun d hd => by have := h3 d hd; show X.A.units + 2 + d.depth < cLine; omega) fun out hlen ho => ?_
  obtain ⟨zs, r1, r2⟩ := of_each ho
  obtain ⟨ep, he'⟩ := PyProof.Rows.sortedAll_at s.heap its out.toArray
  have hlz : zs.length ≤ sizeLine := by rw [r1.length, hlen, ← lim_eq]; exact hl
  exact ⟨.ref _, upd H (s.heap.objs.size + 1) (.lst zs), I.laid (t' := s.toks) (fun _ _ => PyProof.Rows.sortedAll_old) (Nat.le_succ _) ⟨hlz, out, ep, r1, he'⟩, rfl, q _ _ (I.hok.fresh (Nat.le_succ _)) r2⟩

theorem cr_sortDT (hK : c.K = X.K) (hu : X.A.units + 200 < cLine) {F : Hp} {H : Hp} {pins : List (Addr × Obj)} {s : Shared} {σ : L2.St} {x : V} {u : Value} {ds : List PyData} {Q : VK} (I : Inv X pins σ H s) (o : Ok c F H) (r : RelV x u) (h : Rq c.K F H x (.tuple ds)) (hs : sortable ds = true) (hl : ds.length ≤ LIM)
    (q : ∀ p zs, H p = none → DpAll c.K F zs (sortd ds) → Q (.ref p) (upd H p (.lst zs))) : wpAny (model X.prog X.w) X.A (call (.builtin "sorted") [u]) (EP X pins σ Q) X.xe s := by
  obtain ⟨a, xs, rfl, s1, a1, _⟩ := h.tup o
  cases r
  obtain ⟨its, rv, pl, hz⟩ := I.tuple (hK ▸ s1)
  obtain ⟨h1, h2, h3⟩ := sortable_ok hs
  have e := each_of rv a1
  have er : PySem.W.EachIs (fun v b => ∃ as, Reads s.heap v (id b) as) its ds := e.mono fun v d ⟨x, r, d0⟩ => Dp.reads I d x v (hK ▸ dp_mono o.fhT _ _ d0) r
  refine PySem.W.sorted_dataTT (enc := id) (bs := ds) pl e er (by rw [List.map_id]; exact h1) (by rw [List.map_id]; exact h2) (by rw [← lim_eq]; exact hl) (fun d hd => by have := h3 d hd; show X.A.units + 2 + d.depth < cLine; omega) fun out hlen ho => ?_
  obtain ⟨zs, r1, r2⟩ := of_each ho
  obtain ⟨ep, he'⟩ := PyProof.Rows.sortedAll_at s.heap its out.toArray
  have hlz : zs.length ≤ sizeLine := by rw [r1.length, hlen, ← lim_eq]; exact hl
  exact ⟨.ref _, upd H (s.heap.objs.size + 1) (.lst zs), I.laid (t' := s.toks) (fun _ _ => PyProof.Rows.sortedAll_old) (Nat.le_succ _) ⟨hlz, out, ep, r1, he'⟩, rfl, q _ _ (I.hok.fresh (Nat.le_succ _)) r2⟩
theorem seq_some {d : PyData} {ds : List PyData} (h : seq? d = some ds) : d = .list ds ∨ d = .tuple ds := by
  cases d <;> simp [seq?] at h
  · left; rw [h]
  · right; rw [h]

def biOf : Bi → Value
  | .tuple => .type "tuple" | .list => .type "list" | .sorted => .builtin "sorted" | .sum => .builtin "sum" | .max => .builtin "max" | .min => .builtin "min" | .all => .builtin "all" | .any => .builtin "any"
def rBi (c : Cfg) (m : Md) (b : Bi) : List V → Hp → VK → Prop := fun xs H Q => ∃ F x d1 d, xs = [x] ∧ Ok c F H ∧ Rq c.K F H x d1 ∧ biop b d1 = some d ∧ ∀ v H' F', Ext c F H F' H' → Fin c m F H F' H' v d → Q v H'
theorem lst_some {d : PyData} {ds : List PyData} (h : lst? d = some ds) : d = .list ds := by
  cases d <;> simp [lst?] at h
  rw [h]
theorem cr_bi (hK : c.K = X.K) (hc : X.calm = true) (hu : X.A.units + 200 < cLine) {m : Md} (b : Bi) : CallR X (biOf b) (rBi c m b) := by
  intro pins s σ H xs us Q I r ⟨F, x, d1, d, e, o, h1, hf, k⟩
  subst e
  cases b with
  | tuple =>
    cases d1 <;> try (simp [biop, seq?] at hf; done)
    · cases hf
      obtain ⟨a, ys, rfl, s1, a1⟩ := h1.lst o
      exact call_tuple_of pins s σ H _ us Q I r ⟨a, ys, rfl, .inl ⟨hK ▸ s1, fun l hn => fin_tup (Ext.refl o) hn a1 k⟩⟩
    · cases hf
      obtain ⟨a, ys, rfl, s1, a1, D1⟩ := h1.tup o
      exact call_tuple_of pins s σ H _ us Q I r ⟨a, ys, rfl, .inr ⟨hK ▸ s1, fin_val (Ext.refl o) D1 (fun _ => rfl) k⟩⟩
  | list =>
    cases d1 <;> try (simp [biop, seq?] at hf; done)
    · cases hf
      obtain ⟨a, ys, rfl, s1, a1⟩ := h1.lst o
      exact call_list_of pins s σ H _ us Q I r ⟨a, ys, rfl, .inl (hK ▸ s1), fun l hn => fin_lst (Ext.refl o) hn a1 k⟩
    · cases hf
      obtain ⟨a, ys, rfl, s1, a1, D1⟩ := h1.tup o
      exact call_list_of pins s σ H _ us Q I r ⟨a, ys, rfl, .inr (hK ▸ s1), fun l hn => fin_lst (Ext.refl o) hn a1 k⟩
  | sorted =>
    simp only [biop, Option.bind_eq_some_iff] at hf
    obtain ⟨ds, e1, hf⟩ := hf
    rw [gd_some] at hf
    obtain ⟨hz, hf⟩ := hf
    cases hf
    cases r with
    | cons r0 rr =>
      cases rr
      rcases seq_some e1 with rfl | rfl
      · exact cr_sortD hK hu I o r0 h1 hz.1 hz.2 fun p zs hn hd => fin_lst (Ext.refl o) hn hd k
      · exact cr_sortDT hK hu I o r0 h1 hz.1 hz.2 fun p zs hn hd => fin_lst (Ext.refl o) hn hd k
  | sum =>
    simp only [biop, Option.bind_eq_some_iff, Option.map_eq_some_iff] at hf
    obtain ⟨ds, e1, ns, e2, rfl⟩ := hf
    rcases seq_some e1 with rfl | rfl
    · obtain ⟨a, ys, rfl, s1, a1⟩ := h1.lst o
      rw [DpAll.ints a1 e2] at s1
      exact cr_sum hc pins s σ H _ us Q I r ⟨a, ns, rfl, hK ▸ s1, fin_int o k⟩
    · obtain ⟨a, ys, rfl, s1, a1, _⟩ := h1.tup o
      rw [DpAll.ints a1 e2] at s1
      obtain ⟨its, rv, pl, _⟩ := I.tuple (hK ▸ s1)
      rw [Vals.ref1 r]
      exact sumT_raw (I.ok.hd hc) pl rv.ints fun h' tk t' hk => ⟨.int _, H, I.kept hk, ⟨_, rfl⟩, fin_int o k⟩
  | max =>
    simp only [biop, Option.bind_eq_some_iff] at hf
    obtain ⟨ds, e1, hf⟩ := hf
    rcases seq_some e1 with rfl | rfl
    · obtain ⟨a, ys, rfl, s1, a1⟩ := h1.lst o
      rw [Vals.ref1 r]
      exact cr_mm (b := true) hK hc hu I o (.inl (hK ▸ s1)) a1 hf fun v dv nm => fin_val (Ext.refl o) dv (fun _ => nm) k
    · obtain ⟨a, ys, rfl, s1, a1, _⟩ := h1.tup o
      rw [Vals.ref1 r]
      exact cr_mm (b := true) hK hc hu I o (.inr (hK ▸ s1)) a1 hf fun v dv nm => fin_val (Ext.refl o) dv (fun _ => nm) k
  | min =>
    simp only [biop, Option.bind_eq_some_iff] at hf
    obtain ⟨ds, e1, hf⟩ := hf
    rcases seq_some e1 with rfl | rfl
    · obtain ⟨a, ys, rfl, s1, a1⟩ := h1.lst o
      rw [Vals.ref1 r]
      exact cr_mm (b := false) hK hc hu I o (.inl (hK ▸ s1)) a1 hf fun v dv nm => fin_val (Ext.refl o) dv (fun _ => nm) k
    · obtain ⟨a, ys, rfl, s1, a1, _⟩ := h1.tup o
      rw [Vals.ref1 r]
      exact cr_mm (b := false) hK hc hu I o (.inr (hK ▸ s1)) a1 hf fun v dv nm => fin_val (Ext.refl o) dv (fun _ => nm) k
  | all =>
    simp only [biop, Option.bind_eq_some_iff, Option.map_eq_some_iff] at hf
    obtain ⟨ds, e1, ns, e2, rfl⟩ := hf
    rw [lst_some e1] at h1
    obtain ⟨a, ys, rfl, s1, a1⟩ := h1.lst o
    rw [DpAll.bools a1 e2] at s1
    exact cr_all hc pins s σ H _ us Q I r ⟨a, ns, rfl, hK ▸ s1, fin_bl o k⟩
  | any =>
    simp only [biop, Option.bind_eq_some_iff, Option.map_eq_some_iff] at hf
    obtain ⟨ds, e1, ns, e2, rfl⟩ := hf
    rw [lst_some e1] at h1
    obtain ⟨a, ys, rfl, s1, a1⟩ := h1.lst o
    rw [DpAll.bools a1 e2] at s1
    exact cr_any hc pins s σ H _ us Q I r ⟨a, ns, rfl, hK ▸ s1, fin_bl o k⟩
end
end Cs

set_option maxHeartbeats 4000000
/-! x.m(y): index, count, join. -/
noncomputable section
namespace Cs
open PySem PySem.Spec PyProof.Rows L2 GxR Ce Gx
def mtN : Mt → Str
  | .index => "index" | .count => "count" | .join => "join"
/-- of which type the first value is -/
inductive Kd where
  | li | st
def kdN : Kd → String
  | .li => "list" | .st => "str"
def kdI : Mt → Kd → String
  | .index, .li => "list.index" | .index, .st => "str.index"
  | .count, .li => "list.count" | .count, .st => "str.count"
  | .join, _ => "str.join"
def kdOf : Mt → PyData → Option Kd
  | .join, .str _ => some .st
  | .join, _ => none
  | _, .list _ => some .li
  | _, .str _ => some .st
  | _, _ => none
theorem kd_some {m : Mt} {x y r : PyData} (h : mtop m x y = some r) : ∃ k, kdOf m x = some k := by
  unfold mtop at h
  split at h <;> first | exact ⟨_, rfl⟩ | cases h
theorem kd_attrs (k : Kd) : PlainAttrs (kdN k) := by
  cases k
  · exact PySem.F.plainAttrs_list
  · exact PySem.F.plainAttrs_str
theorem kd_slot {m : Mt} {x : PyData} {k : Kd} (h : kdOf m x = some k) : Slot (kdN k) (mtN m) (kdI m k) ∧ typeOf (.builtin (kdI m k)) = pure (.type "method_descriptor") := by
  cases m <;> cases k
  · exact ⟨PySem.F.slot_list_index, PySem.F.type_list_index⟩
  · exact ⟨PySem.F.slot_str_index, PySem.F.type_str_index⟩
  · exact ⟨PySem.F.slot_list_count, PySem.F.type_list_count⟩
  · exact ⟨PySem.F.slot_str_count, PySem.F.type_str_count⟩
  · cases x <;> cases h
  · exact ⟨PySem.F.slot_str_join, PySem.F.type_str_join⟩
section
variable {X : Cx}
theorem kd_type {m : Mt} {d : PyData} {k : Kd} {pins : List (Addr × Obj)} {σ : L2.St} {H : Hp} {s : Shared} {x : V} {v : Value} (hk : kdOf m d = some k) (I : Inv X pins σ H s) (r : RelV x v) (D : Dp X.K H x d) :
    s.TypeIs v (kdN k) ∧ ∀ a, v = .ref a → ∃ ob, s.heap.get? a = some ob ∧ ob.dict = none := by
  cases D <;> cases m <;> cases hk <;> first
    | (obtain ⟨t, rfl⟩ := r
       exact ⟨typeIs_str s _ t, fun _ e => nomatch e⟩)
    | (cases r
       rename_i hs ha
       obtain ⟨its, _, pl, _⟩ := I.list hs
       refine ⟨pl.isList.typeIs, fun a e => ?_⟩
       cases e
       obtain ⟨o, n, e, c, hd, _⟩ := pl
       exact ⟨o, e, hd⟩)
theorem strs_of {K : PySem.W.Frag} {H : Hp} : ∀ {ds : List PyData} {vs : List V} {ys : List Str}, DpAll K H vs ds → sts? ds = some ys → vs = ys.map V.str
  | [], _, _, h, e => by cases h; cases e; rfl
  | d :: ds, _, ys, h, e => by
    cases h with
    | cons hd hr =>
      cases d <;> try (cases e; done)
      rename_i z
      rw [sts?, Option.map_eq_some_iff] at e
      obtain ⟨zs, e1, rfl⟩ := e
      cases hd
      rw [strs_of hr e1]; rfl
theorem findIdx_at {ds : List PyData} {p : PyData → Bool} {j : Nat} (h : ds.findIdx? p = some j) : ∃ z, ds[j]? = some z ∧ p z = true ∧ ∀ (m : Nat) (z' : PyData), m < j → ds[m]? = some z' → p z' = false := by
  rw [List.findIdx?_eq_some_iff_getElem] at h
  obtain ⟨hj, h1, h2⟩ := h
  refine ⟨ds[j], List.getElem?_eq_getElem hj, h1, fun m z' hm hz => ?_⟩
  have := h2 m hm
  rw [List.getElem?_eq_getElem (by omega)] at hz
  cases hz
  simpa using this
theorem count_run {pins : List (Addr × Obj)} {σ : L2.St} {H : Hp} {s : Shared} {Q : VK} {a : Addr} {y : V} {u : Value} {ds : List PyData} {d : PyData} (hu : X.A.units + 65 < cLine) (I : Inv X pins σ H s) (ry : RelV y u) (hl : Dp X.K H (V.ref a) (.list ds)) (hy : Dp X.K H y d)
    (sl : SeqAt.shaped (.list ds) = true) (sd : SeqAt.shaped d = true) (q : Q (.int (ds.countP fun z => PyData.eqv z d : Nat)) H) : wpAny (model X.prog X.w) X.A (call (.builtin "list.count") [.ref a, u]) (EP X pins σ Q) X.xe s := by
  obtain ⟨bs, r1⟩ := Dp.reads I d y u hy ry
  have hxs : PyData.canLayAll0 ds = true := SeqAt.canLay_of_shaped sl
  have hroom : X.A.units + 1 + min (PyData.depthAll ds) d.depth < cLine := room_in_shaped sd hu
  cases hl with
  | lst hs ha =>
    obtain ⟨its, rv, ⟨⟨cls, dd, data, sls⟩, n, ho, hc, hdn, hdt⟩, hlen⟩ := I.list hs
    simp only at hc hdt
    subst hc hdt
    obtain ⟨as, h4⟩ := Dp.readsAll I ds _ its ha rv
    have hmap : its.map (SeqAt.readOf s.heap) = ds := SeqAt.readsAll_map ds its as hxs h4
    refine call_meets PySem.F.slot_list_count ⟨_, ho, rfl⟩ PySem.F.entry_list_count (PySem.F.args_list_count_2 _ _)
      (SeqAt.list_countAt a its.toArray n dd sls u (fun u => PyData.eqv (SeqAt.readOf s.heap u) d)) ⟨ho, SeqAt.items_eqAt (vs := its.toArray) (show ReadsAll s.heap its.toArray.toList ds as from h4) r1 hxs (SeqAt.canLay_of_shaped sd) hroom, ?_⟩
    have ec : its.toArray.toList.countP (fun u => PyData.eqv (SeqAt.readOf s.heap u) d) = ds.countP fun z => PyData.eqv z d := by
      rw [← hmap, List.countP_map]; rfl
    refine ⟨.int (ds.countP fun z => PyData.eqv z d : Nat), H, I.tok _, ⟨s.toks, ?_⟩, q⟩
    show Value.int ((its.toArray.toList.countP (fun u => PyData.eqv (SeqAt.readOf s.heap u) d) : Nat) : Int) s.toks = _
    rw [ec]
/-- the call -/
theorem mt_run (hu : X.A.units + 65 < cLine) {m : Mt} {d e r : PyData} {k : Kd} {pins : List (Addr × Obj)} {σ : L2.St} {H : Hp} {s : Shared} {x y : V} {v u : Value} {Q : VK} (hk : kdOf m d = some k) (I : Inv X pins σ H s) (rx : RelV x v) (ry : RelV y u) (D : Dp X.K H x d) (E : Dp X.K H y e)
    (h : mtop m d e = some r) (q : ∀ z, (∀ F : Hp, Dp X.K F z r) → isMut r = false → Q z H) : wpAny (model X.prog X.w) X.A (call (.builtin (kdI m k)) [v, u]) (EP X pins σ Q) X.xe s := by
  unfold mtop at h
  split at h
  · cases hk
    split at h <;> try (cases h; done)
    rename_i ds hz
    obtain ⟨j, hj, rfl⟩ := Option.map_eq_some_iff.mp h
    obtain ⟨z, h1, h2, h3⟩ := findIdx_at hj
    have hz := isData_ok hz
    cases D with
    | lst hs ha => exact mt_indexD hu pins s σ H _ [y] v [u] Q I rx (.cons ry .nil) ⟨_, y, _, _, j, z, rfl, rfl, .lst hs ha, E, hz.2, hz.1, h1, h2, h3, q _ (fun _ => .int _) rfl⟩
  · cases hk
    rename_i a b
    cases D; cases E
    obtain ⟨i, hi, rfl⟩ := Option.map_eq_some_iff.mp h
    cases ho : Builtin.Str.occurrences a b 0 a.length 1 with
    | nil => rw [ho] at hi; cases hi
    | cons i' rest =>
      rw [ho] at hi; cases hi
      exact mt_sindex pins s σ H _ [_] v [u] Q I rx (.cons ry .nil) ⟨a, b, i, rest, rfl, rfl, ho, q _ (fun _ => .int _) rfl⟩
  · cases hk
    split at h <;> try (cases h; done)
    rename_i ds hz
    cases h
    have hz := isData_ok hz
    cases D with
    | lst hs ha =>
      cases rx
      exact count_run hu I ry (.lst hs ha) E hz.2 hz.1 (q _ (fun _ => .int _) rfl)
  · cases hk
    rename_i a b
    cases D; cases E; cases h
    exact mt_count pins s σ H _ [_] v [u] Q I rx (.cons ry .nil) ⟨a, b, rfl, rfl, q _ (fun _ => .int _) rfl⟩
  · cases hk
    rename_i a ds
    obtain ⟨ys, hy, h⟩ := Option.bind_eq_some_iff.mp h
    rw [gd_some] at h
    obtain ⟨hl, h⟩ := h
    cases h
    cases D
    cases E with
    | lst hs ha =>
      rw [strs_of ha hy] at hs
      exact mt_join pins s σ H _ [_] v [u] Q I rx (.cons ry .nil) ⟨a, _, ys, rfl, rfl, .inl hs, Nat.le_trans hl (by decide), q _ (fun _ => .str _) rfl⟩
  · cases hk
    rename_i a ds
    obtain ⟨ys, hy, h⟩ := Option.bind_eq_some_iff.mp h
    rw [gd_some] at h
    obtain ⟨hl, h⟩ := h
    cases h
    cases D
    cases E with
    | tup hs ha =>
      rw [strs_of ha hy] at hs
      exact mt_join pins s σ H _ [_] v [u] Q I rx (.cons ry .nil) ⟨a, _, ys, rfl, rfl, .inr hs, Nat.le_trans hl (by decide), q _ (fun _ => .str _) rfl⟩
  · cases h
def noSup : Expr → Bool
  | .Call (.Name _ _) [] [] _ => false
  | _ => true
theorem noSup_ok {o : Expr} {nm : Str} {env : Env} {w : Sem Value} (h : noSup o = true) : attributeBase o nm env w = w := by
  unfold attributeBase
  unfold noSup at h
  split at h
  · cases h
  · rename_i hn
    split
    · rename_i id p pos
      exact absurd rfl (hn _ _ _)
    · rfl
/-- x.m(y) -/
def dMeth : Expr → Option (Expr × Str × Expr)
  | .Call (.Attribute o nm a) [e] [] c => if a.endLine == c.line && noSup o then some (o, nm, e) else none
  | _ => none
theorem dMeth_ok {e : Expr} {o : Expr} {nm : Str} {b : Expr} (h : dMeth e = some (o, nm, b)) : ∃ a c, e = .Call (.Attribute o nm a) [b] [] c ∧ (a.endLine == c.line) = true ∧ noSup o = true := by
  unfold dMeth at h
  split at h
  · split at h
    · rename_i hl
      rw [Bool.and_eq_true] at hl
      cases h; exact ⟨_, _, rfl, hl.1, hl.2⟩
    · cases h
  · cases h
end
end Cs

set_option maxHeartbeats 4000000
/-! Sets of ints, of a list; sorting a set of tuples of ints; their lengths. -/
namespace L2
open PySem PySem.Spec PyProof.Rows Ce
section
variable {P : Program} {w : World} {A : Around} {E : Value → Shared → Prop} {s : Shared}
theorem call_set_listI {l : Addr} {items : Array Value} (ns : List Int) {Q : Value → Shared → Prop} (hh : A.handled = none) (hl : s.heap.IsList l items) (hit : IntsAre items.toList ns) (hb : ns.length + 1 < scanBound)
    (h : ∀ (h' : Heap) (tk c : Nat), SetR w h' s.heap.objs.size (fun j => decide (j ∈ ns)) c → c ≤ ns.length → (∀ b o, s.heap.get? b = some o → h'.get? b = some o) → Q (.ref s.heap.objs.size) { s with heap := h', toks := tk }) :
    wpAny (model P w) A (call (.type "set") [.ref l]) Q E s := by
  have hisz : items.size = ns.length := by
    have q := IntsAre.length hit
    rw [Array.length_toList] at q
    exact q
  obtain ⟨c, tl, hmro⟩ := F.called_set.mro
  have hmade := F.called_set.made
  have hsub := F.called_set.sub
  refine wpAny_call (codeAny_of_tree ?_)
  show wpAny _ _ (callAny (.type "set") _) _ _ _
  refine wpAny_pure ⟨Code.quiet_builtin _ (by decide +kernel), codeAny_builtin F.entry_type_call ?_⟩
  rw [Around.under_plain (weight_type_call_type "set" [.ref l] []) rfl]
  have h1 := F.called_set.notType
  have h2 := F.called_set.canCreate
  have hct := F.typeCall_set_1 (.ref l)
  repeat (any_goals (first | assumption | wp_step))
  refine codeAny_mono (code_set_led1 (.ref l) (E := E) (Q₁ := fun obj s₁ => obj = .ref s.heap.objs.size ∧ s₁ = { s with heap := s.heap.push { cls := .type "set", dict := none, data := .set #[] 0 (.fresh 0 0 (!w.params.followText "set-order")) } }) ⟨rfl, rfl⟩) fun r s₁ hr => ?_
  cases r with
  | error e => exact hr
  | ok fl =>
    cases fl with
    | ret obj =>
      obtain ⟨rfl, rfl⟩ := hr
      have hS : (s.heap.push { cls := .type "set", dict := none, data := .set #[] 0 (.fresh 0 0 (!w.params.followText "set-order")) }).get? s.heap.objs.size = some { cls := .type "set", dict := none, data := .set #[] 0 (.fresh 0 0 (!w.params.followText "set-order")) } := Heap.get?_push_size _ rfl
      have hT : Shared.TypeIs { s with heap := s.heap.push { cls := .type "set", dict := none, data := .set #[] 0 (.fresh 0 0 (!w.params.followText "set-order")) } } (.ref s.heap.objs.size) "set" := ⟨_, hS, rfl⟩
      have hli := F.called_set.init.lookup
      have hbi := F.called_set.init.bind (.ref s.heap.objs.size)
      repeat (any_goals (first | assumption | wp_step))
      refine codeAny_mono (codeAny_call_builtin (R := wants (fun r s₂ => r = .none ∧ ∃ h' tk c, s₂ = { s with heap := h', toks := tk } ∧ SetR w h' s.heap.objs.size (fun j => decide (j ∈ ns)) c ∧ c ≤ ns.length ∧
          (∀ b o, s.heap.get? b = some o → h'.get? b = some o)) E) F.called_set.init.plain F.entry_set_init (check_set_init_1 hT ?_)) fun r₂ s₂ hr₂ => ?_
      · obtain ⟨ol, hol, hcl, nl, hdl⟩ := hl
        obtain ⟨ocls, odict, odata, oslots⟩ := ol
        simp only at hcl hdl
        subst hcl; subst hdl
        have hol' : (s.heap.push { cls := .type "set", dict := none, data := .set #[] 0 (.fresh 0 0 (!w.params.followText "set-order")) }).get? l = some { cls := .type "list", dict := odict, data := .seq items nl, slots := oslots } := Heap.get?_push_of_some _ hol
        have hsls := F.sub_list_set
        have hslf := F.sub_list_frozenset
        have hne : (Value.type "list" == Value.type "dict") = false := by decide
        have hl1 : (s.heap.push { cls := .type "set", dict := none, data := .set #[] 0 (.fresh 0 0 (!w.params.followText "set-order")) }).IsList l items := ⟨_, hol', rfl, nl, rfl⟩
        unfold Builtin.«set.__init__» noKeywords Builtin.Frozenset.updateFrom
        generalize hPI : pyIter = PI
        wp_walk
        subst hPI
        refine wpAny_pyIter_list hl1 ?_
        refine wpAny_bind (wpAny_runValue ?_)
        have hlS : l < s.heap.objs.size := Heap.lt_size hol
        have hh3 : A.in1.in1.in1.handled = none := by simp [hh]
        have hneI : l ≠ (s.heap.push { cls := .type "set", dict := none, data := .set #[] 0 (.fresh 0 0 (!w.params.followText "set-order")) }).objs.size := by
          rw [Heap.size_push]; exact Nat.ne_of_lt (Nat.lt_succ_of_lt hlS)
        have hSf : s.heap.objs.size ∉ [(s.heap.push { cls := .type "set", dict := none, data := .set #[] 0 (.fresh 0 0 (!w.params.followText "set-order")) }).objs.size, l] := by
          rw [Heap.size_push]; simp only [List.mem_cons, List.mem_singleton, List.not_mem_nil, or_false, not_or]
          exact ⟨Nat.ne_of_lt (Nat.lt_succ_self _), Nat.ne_of_gt hlS⟩
        have hval : ∀ (i : Nat) (v : Value), items[i]? = some v → ∃ k t, ns[i]? = some k ∧ v = .int k t := fun i v hv => by
          have hi : i < ns.length := by rw [← hisz]; exact (Array.getElem?_eq_some_iff.mp hv).1
          obtain ⟨t, e⟩ := PyProof.Rows.IntsAre.int_at hit i v (by rw [Array.getElem?_toList]; exact hv)
          refine ⟨ns[i], t, List.getElem?_eq_getElem hi, ?_⟩
          rw [e, List.getD_eq_getElem?_getD, List.getElem?_eq_getElem hi] <;> rfl
        refine set_update_ints ((Walks.list hh3 _ l hneI items).toS) s.heap.objs.size
          hSf ns hisz hb hval (items.size - 0) 0 _ (by omega) (Nat.zero_le _)
          ⟨⟨_, Heap.get?_push_size _ rfl, rfl, rfl⟩, (hl1.push _)⟩ ?hS0 ?hR
        case hS0 =>
          have hget : ((s.heap.push { cls := .type "set", dict := none, data := .set #[] 0 (.fresh 0 0 (!w.params.followText "set-order")) }).push { cls := .type "list_iterator", data := .fields #[.ref l, .int 0 0] }).get? s.heap.objs.size
              = some { cls := .type "set", dict := none, data := .set #[] 0 (.fresh 0 0 (!w.params.followText "set-order")) } := Heap.get?_push_of_some _ hS
          exact ⟨0, Nat.le_refl 0, setR_new_at hget⟩
        case hR =>
          intro s' c' hm hc' hS'
          obtain ⟨h', g2, d', tk', os'⟩ := s'
          have eg : g2 = s.gens := hm.gens
          have ed : d' = s.drawn := hm.drawn
          have eo : os' = s.os := hm.os
          subst eg; subst ed; subst eo
          show wpAny _ _ _ _ _ _
          refine wpAny_pure ?_
          show wpAny _ _ (ret Value.none) _ _ _
          rw [hisz] at hc'
          refine wpAny_pure ⟨rfl, h', tk', c', rfl, hS', hc', fun b o e => ?_⟩
          have hb0 : b < s.heap.objs.size := Heap.lt_size e
          have hb1 : b ≠ s.heap.objs.size := Nat.ne_of_lt hb0
          have hb2 : b ≠ (s.heap.push { cls := .type "set", dict := none, data := .set #[] 0 (.fresh 0 0 (!w.params.followText "set-order")) }).objs.size := by
            rw [Heap.size_push]; exact Nat.ne_of_lt (Nat.lt_succ_of_lt hb0)
          exact hm.heap b o (by simp only [List.mem_cons, List.mem_singleton, List.not_mem_nil, or_false, not_or]; exact ⟨hb1, hb2⟩) (Heap.get?_push_of_some _ (Heap.get?_push_of_some _ e))
      · cases r₂ with
        | error e => exact hr₂
        | ok fl₂ =>
          cases fl₂ with
          | ret r =>
            obtain ⟨rfl, h', tk, c', rfl, hS', hc', hk'⟩ := hr₂
            repeat (any_goals (first | assumption | wp_step))
            exact h _ _ _ hS' hc' hk'
          | _ => exact hr₂.elim
    | _ => exact hr.elim

theorem call_set_tupsT {l : Addr} {items : Array Value} (ks : List (Addr × List Int)) {Q : Value → Shared → Prop} (hh : A.handled = none) (hl : s.heap.IsTuple l items) (hit : items.toList = ks.map fun p => Value.ref p.1)
    (hk : ∀ p ∈ ks, IsT P w s.heap p.2 p.1) (hfew : ks.length < 64) (hu : A.units + 3 < cLine)
    (h : ∀ (h' : Heap) (tk : Nat) L es ep t, SetTR P w h' s.heap.objs.size L es ep t → Got ks ks.length L → (∀ b o, s.heap.get? b = some o → h'.get? b = some o) → Q (.ref s.heap.objs.size) { s with heap := h', toks := tk }) :
    wpAny (model P w) A (call (.type "set") [.ref l]) Q E s := by
  have hisz : items.size = ks.length := by
    have q := congrArg List.length hit
    rw [Array.length_toList, List.length_map] at q
    exact q
  obtain ⟨c, tl, hmro⟩ := F.called_set.mro
  have hmade := F.called_set.made
  have hsub := F.called_set.sub
  refine wpAny_call (codeAny_of_tree ?_)
  show wpAny _ _ (callAny (.type "set") _) _ _ _
  refine wpAny_pure ⟨Code.quiet_builtin _ (by decide +kernel), codeAny_builtin F.entry_type_call ?_⟩
  rw [Around.under_plain (weight_type_call_type "set" [.ref l] []) rfl]
  have h1 := F.called_set.notType
  have h2 := F.called_set.canCreate
  have hct := F.typeCall_set_1 (.ref l)
  repeat (any_goals (first | assumption | wp_step))

  refine codeAny_mono (code_set_led1 (.ref l) (E := E) (Q₁ := fun obj s₁ => obj = .ref s.heap.objs.size ∧ s₁ = { s with heap := s.heap.push { cls := .type "set", dict := none, data := .set #[] 0 (.fresh 0 0 (!w.params.followText "set-order")) } }) ⟨rfl, rfl⟩) fun r s₁ hr => ?_
  cases r with
  | error e => exact hr
  | ok fl =>
    cases fl with
    | ret obj =>
      obtain ⟨rfl, rfl⟩ := hr
      have hS : (s.heap.push { cls := .type "set", dict := none, data := .set #[] 0 (.fresh 0 0 (!w.params.followText "set-order")) }).get? s.heap.objs.size = some { cls := .type "set", dict := none, data := .set #[] 0 (.fresh 0 0 (!w.params.followText "set-order")) } := Heap.get?_push_size _ rfl
      have hT : Shared.TypeIs { s with heap := s.heap.push { cls := .type "set", dict := none, data := .set #[] 0 (.fresh 0 0 (!w.params.followText "set-order")) } } (.ref s.heap.objs.size) "set" := ⟨_, hS, rfl⟩
      have hli := F.called_set.init.lookup
      have hbi := F.called_set.init.bind (.ref s.heap.objs.size)
      repeat (any_goals (first | assumption | wp_step))

      refine codeAny_mono (codeAny_call_builtin (R := wants (fun r s₂ => r = .none ∧ ∃ h' tk L es ep t, s₂ = { s with heap := h', toks := tk } ∧ SetTR P w h' s.heap.objs.size L es ep t ∧ Got ks ks.length L ∧
          (∀ b o, s.heap.get? b = some o → h'.get? b = some o)) E) F.called_set.init.plain F.entry_set_init (check_set_init_1 hT ?_)) fun r₂ s₂ hr₂ => ?_
      · obtain ⟨ol, hol, hcl, nl, hdl⟩ := hl
        obtain ⟨ocls, odict, odata, oslots⟩ := ol
        simp only at hcl hdl
        subst hcl; subst hdl
        have hol' : (s.heap.push { cls := .type "set", dict := none, data := .set #[] 0 (.fresh 0 0 (!w.params.followText "set-order")) }).get? l = some { cls := .type "tuple", dict := odict, data := .seq items nl, slots := oslots } := Heap.get?_push_of_some _ hol
        have hsls := F.sub_tuple_set
        have hslf := F.sub_tuple_frozenset
        have hne : (Value.type "tuple" == Value.type "dict") = false := by decide
        have hl1 : (s.heap.push { cls := .type "set", dict := none, data := .set #[] 0 (.fresh 0 0 (!w.params.followText "set-order")) }).IsTuple l items := ⟨_, hol', rfl, nl, rfl⟩
        unfold Builtin.«set.__init__» noKeywords Builtin.Frozenset.updateFrom
        generalize hPI : pyIter = PI
        wp_walk
        subst hPI

        refine wpAny_pyIter_tuple hl1 ?_
        refine wpAny_bind (wpAny_runValue ?_)
        have hlS : l < s.heap.objs.size := Heap.lt_size hol
        have hh3 : A.in1.in1.in1.handled = none := by simp [hh]
        have hz1 : (s.heap.push { cls := .type "set", dict := none, data := .set #[] 0 (.fresh 0 0 (!w.params.followText "set-order")) }).objs.size = s.heap.objs.size + 1 := Heap.size_push ..
        have hneI : l ≠ (s.heap.push { cls := .type "set", dict := none, data := .set #[] 0 (.fresh 0 0 (!w.params.followText "set-order")) }).objs.size := by
          rw [Heap.size_push]; exact Nat.ne_of_lt (Nat.lt_succ_of_lt hlS)
        have hSf : s.heap.objs.size ∉ [(s.heap.push { cls := .type "set", dict := none, data := .set #[] 0 (.fresh 0 0 (!w.params.followText "set-order")) }).objs.size, l] := by
          rw [Heap.size_push]; simp only [List.mem_cons, List.mem_singleton, List.not_mem_nil, or_false, not_or]
          exact ⟨Nat.ne_of_lt (Nat.lt_succ_self _), Nat.ne_of_gt hlS⟩
        have hval : ∀ (i : Nat) (v : Value), items[i]? = some v → ∃ p, ks[i]? = some p ∧ v = .ref p.1 := fun i v hv => by
          have q : items.toList[i]? = some v := by rw [Array.getElem?_toList]; exact hv
          rw [hit, List.getElem?_map] at q
          cases hq : ks[i]? with
          | none => rw [hq] at q; cases q
          | some p =>
            rw [hq] at q
            exact ⟨p, rfl, (Option.some.inj q).symm⟩
        have none_of : ∀ b, s.heap.objs.size ≤ b → s.heap.get? b = none := fun b hb => by
          cases q : s.heap.get? b with
          | none => rfl
          | some o => exact absurd (Nat.lt_of_lt_of_le (Heap.lt_size q) hb) (Nat.lt_irrefl _)
        refine set_update_tups ((Walks.tuple hh3 _ l hneI items).toS) s.heap.objs.size
          hSf ks hisz hfew hval s.heap hk (none_of _ (Nat.le_refl _)) (fun b hb => none_of b (by
            rw [List.mem_singleton.mp hb, Heap.size_push]
            exact Nat.le_succ _)) hu (items.size - 0) 0 _ (by omega) (Nat.zero_le _)
          ⟨⟨_, Heap.get?_push_size _ rfl, rfl, rfl⟩, (hl1.push _)⟩ (fun b o e => Heap.get?_push_of_some _ (Heap.get?_push_of_some _ e)) ?hS0 ?hR
        case hS0 =>
          have hget : ((s.heap.push { cls := .type "set", dict := none, data := .set #[] 0 (.fresh 0 0 (!w.params.followText "set-order")) }).push { cls := .type "tuple_iterator", data := .fields #[.ref l, .int 0 0] }).get? s.heap.objs.size
              = some { cls := .type "set", dict := none, data := .set #[] 0 (.fresh 0 0 (!w.params.followText "set-order")) } := Heap.get?_push_of_some _ hS
          exact ⟨[], #[], 0, _, setTR_fresh hget, Got.zero ks⟩
        case hR =>
          intro s' L es ep t hm hS' g' hkp
          obtain ⟨h', g2, d', tk', os'⟩ := s'
          have eg : g2 = s.gens := hm.gens
          have ed : d' = s.drawn := hm.drawn
          have eo : os' = s.os := hm.os
          subst eg; subst ed; subst eo
          show wpAny _ _ _ _ _ _
          refine wpAny_pure ?_
          show wpAny _ _ (ret Value.none) _ _ _
          rw [hisz] at g'
          exact wpAny_pure ⟨rfl, h', tk', L, es, ep, t, rfl, hS', g', hkp⟩

      · cases r₂ with
        | error e => exact hr₂
        | ok fl₂ =>
          cases fl₂ with
          | ret r =>
            obtain ⟨rfl, h', tk, L, es, ep, t, rfl, hS', g', hk'⟩ := hr₂
            repeat (any_goals (first | assumption | wp_step))
            exact h _ _ _ _ _ _ hS' g' hk'
          | _ => exact hr₂.elim
    | _ => exact hr.elim

theorem reads_ints {h : Heap} : ∀ {vs : List Value} {k : List Int}, IntsAre vs k → ∃ as, ReadsAll h vs (k.map PyData.int) as
  | _, _, .nil => ⟨_, .nil⟩
  | _, _, .cons n t r => by
    obtain ⟨as, q⟩ := reads_ints (h := h) r
    exact ⟨_, .cons (.int _ _) q⟩
theorem tup_reads {h : Heap} {k : List Int} {b : Addr} (x : IsT P w h k b) : ∃ as, Reads h (.ref b) (tupD k) as := by
  obtain ⟨o, items, n, ho, hc, hd, hi⟩ := x
  obtain ⟨as, q⟩ := reads_ints (h := h) (ints_of_items hi)
  exact ⟨_, .tuple ho hc hd q⟩
theorem tups_alike (a b : List Int) : PySem.W.alikeAll (a.map .int) (b.map .int) = true := by
  induction a generalizing b with
  | nil => cases b <;> simp [PySem.W.alikeAll]
  | cons x a ih => cases b <;> simp [PySem.W.alikeAll, PySem.W.alike, ih]
theorem tupD_alike (a b : List Int) : PySem.W.alike (tupD a) (tupD b) = true := by
  simp [tupD, PySem.W.alike, tups_alike]
theorem ints_depth : ∀ a : List Int, PyData.depthAll (a.map .int) = 0
  | [] => rfl
  | x :: a => by rw [List.map_cons, PyData.depthAll, ints_depth a]; rfl
theorem tupD_depth (a : List Int) : (tupD a).depth = 1 := by
  rw [tupD, PyData.depth, ints_depth a]
theorem each_refs {R : Value → (Addr × List Int) → Prop} {L : List (Addr × List Int)} (h : ∀ q ∈ L, R (.ref q.1) q) : PySem.W.EachIs R (L.map fun q => Value.ref q.1) L := by
  induction L with
  | nil => exact .nil
  | cons q L ih => exact .cons (h q List.mem_cons_self) (ih fun r hr => h r (List.mem_cons_of_mem _ hr))
theorem refs_each {vs : List Value} {L : List (Addr × List Int)} (e : PySem.W.EachIs (fun v (q : Addr × List Int) => v = Value.ref q.1) vs L) : vs = L.map fun q => Value.ref q.1 := by
  induction e with
  | nil => rfl
  | cons h _ ih => rw [List.map_cons, h, ih]
end
section
variable {P : Program} {w : World} {A : Around} {E : Value → Shared → Prop} {s : Shared}
/-- sorted(set), the tuples of ints in the order of data -/
theorem sorted_setTD {a : Addr} {L : List (Addr × List Int)} {es : Array (Int × Value)} {ep : Nat} {t : SetTable} {Q : Value → Shared → Prop} (R : SetTR P w s.heap a L es ep t) (hh : A.handled = none) (hu : A.units + 20 < cLine)
    (hQ : ∀ s' p (out : Array Value) (c : Nat) (L' L1 : List (Addr × List Int)), (∀ b o, s.heap.get? b = some o → s'.heap.get? b = some o) → s'.gens = s.gens → s'.os = s.os → s.heap.objs.size ≤ p →
      s'.heap.get? p = some (seqObj "list" out c) → out.toList = L'.map (fun q => Value.ref q.1) → L1.Perm L → L' = L1.mergeSort (PySem.W.dataLe false fun q => tupD q.2) → Q (.ref p) s') :
    wpAny (model P w) A (call (.builtin "sorted") [.ref a]) Q E s := by
  obtain ⟨o, ho, hex, hd⟩ := R.ob
  have hsz := R.size
  have hfew := R.few
  refine Calls.call_function_entry kind_sorted plain_sorted entry_sorted (args_sorted1 _) ?_
  unfold Builtin.«sorted»
  refine wpAny_bind (m := checkCount "sorted" 1 1 _) (wpAny_pure ?_)
  refine wpAny_bind (collect_set (A := A.in1) hh ⟨o, ho, hex.1, hd⟩ R.fits (by unfold scanBound; omega) R.tab.ris R.led fun s1 vs k1 hz g1 o1 pm => ?_)
  have hes : es.toList.map (·.2) = L.map fun q => Value.ref q.1 := by
    rw [R.rows]
    unfold rowsOf
    rw [List.map_map] <;> rfl
  rw [hes] at pm
  obtain ⟨L1, pL, rfl⟩ : ∃ L1 : List (Addr × List Int), L1.Perm L ∧ vs = L1.map fun q => Value.ref q.1 := by
    clear R hes
    have gen : ∀ (vs us : List Value), vs.Perm us → ∀ L : List (Addr × List Int), us = L.map (fun q => Value.ref q.1) → ∃ L1 : List (Addr × List Int), L1.Perm L ∧ vs = L1.map fun q => Value.ref q.1 := by
      intro vs us pm
      induction pm with
      | nil => intro L e; cases L with
        | nil => exact ⟨[], .nil, rfl⟩
        | cons _ _ => cases e
      | cons x pm ih =>
        intro L e
        cases L with
        | nil => cases e
        | cons q L =>
          rw [List.map_cons] at e
          obtain ⟨e1, e2⟩ := List.cons.inj e
          obtain ⟨L1, p1, e3⟩ := ih L e2
          exact ⟨q :: L1, p1.cons q, by rw [List.map_cons, e1, e3]⟩
      | swap x y l =>
        intro L e
        cases L with
        | nil => cases e
        | cons q L =>
          cases L with
          | nil =>
            rw [List.map_cons] at e
            obtain ⟨_, e2⟩ := List.cons.inj e
            cases e2
          | cons r L =>
            rw [List.map_cons, List.map_cons] at e
            obtain ⟨e1, e2⟩ := List.cons.inj e
            obtain ⟨e3, e4⟩ := List.cons.inj e2
            exact ⟨r :: q :: L, .swap _ _ _, by rw [List.map_cons, List.map_cons, e1, e3, e4]⟩
      | trans _ _ ih1 ih2 =>
        intro L e
        obtain ⟨L2, p2, e2⟩ := ih2 L e
        obtain ⟨L1, p1, e1⟩ := ih1 L2 e2
        exact ⟨L1, p1.trans p2, e1⟩
    exact gen _ _ pm L rfl
  have hvl : (L1.map fun q => Value.ref q.1).length < 64 := by rw [List.length_map, pL.length_eq]; exact hfew
  refine wpAny_bind (wpAny_newList ?_ (by rw [sizeLine_eq]; omega))
  have hoL : (s1.heap.push (seqObj "list" (L1.map fun q => Value.ref q.1).toArray 0)).get? s1.heap.objs.size = some (seqObj "list" (L1.map fun q => Value.ref q.1).toArray 0) := Heap.get?_push_size _ rfl
  have tk : ∀ q ∈ L1, ∃ as, Reads (PySem.W.sortingHeap (s1.heap.push (seqObj "list" (L1.map fun q => Value.ref q.1).toArray 0)) s1.heap.objs.size (L1.map fun q => Value.ref q.1)) (.ref q.1) (tupD q.2) as := fun q hq => by
    have t0 := R.tup q (pL.mem_iff.mp hq)
    refine tup_reads (P := P) (w := w) (isT_keep t0 fun b u e => ?_)
    have e1 := k1 b u e
    have hlt := Heap.lt_size e1
    exact PySem.W.sortingHeap_old (Nat.ne_of_lt hlt) (Heap.get?_push_of_some _ e1)
  have er : PySem.W.EachIs (fun v (q : Addr × List Int) => ∃ as, Reads (PySem.W.sortingHeap (s1.heap.push (seqObj "list" (L1.map fun q => Value.ref q.1).toArray 0)) s1.heap.objs.size (L1.map fun q => Value.ref q.1)) v (tupD q.2) as) (L1.map fun q => Value.ref q.1) L1 := each_refs tk
  have ee : PySem.W.EachIs (fun v (q : Addr × List Int) => v = Value.ref q.1) (L1.map fun q => Value.ref q.1) L1 := each_refs fun _ _ => rfl
  have hal : PySem.W.AllAlike (L1.map fun q => tupD q.2) := fun d hd d' hd' => by
    obtain ⟨q, _, rfl⟩ := List.mem_map.mp hd
    obtain ⟨r, _, rfl⟩ := List.mem_map.mp hd'
    exact tupD_alike _ _
  have so := PySem.W.sortVals_data (R := fun v (q : Addr × List Int) => v = Value.ref q.1) (enc := fun q => tupD q.2) false ee er hal
  have S : PySem.W.SortsAt P w A.in1.in1 { s1 with heap := PySem.W.sortingHeap (s1.heap.push (seqObj "list" (L1.map fun q => Value.ref q.1).toArray 0)) s1.heap.objs.size (L1.map fun q => Value.ref q.1) } _ (L1.map fun q => Value.ref q.1) :=
    PySem.W.SortsAt.dataT (PySem.W.each_map (R := fun v d => ∃ as, Reads (PySem.W.sortingHeap (s1.heap.push (seqObj "list" (L1.map fun (q : Addr × List Int) => Value.ref q.1).toArray 0)) s1.heap.objs.size (L1.map fun (q : Addr × List Int) => Value.ref q.1)) v d as) (fun (q : Addr × List Int) => tupD q.2) er) hal
      (.inl fun d hd => by obtain ⟨q, _, rfl⟩ := List.mem_map.mp hd; exact ⟨_, rfl⟩) (fun d hd => by
        obtain ⟨q, _, rfl⟩ := List.mem_map.mp hd
        rw [tupD_depth]
        show A.units + 1 + 1 + 1 < cLine
        omega)
  refine wpAny_bind (wpAny_holding (wpAny_call_entry slot_list_sort ⟨_, hoL, rfl⟩ entry_list_sort (PySem.W.list_sort_vals (s := { s1 with heap := s1.heap.push (seqObj "list" (L1.map fun q => Value.ref q.1).toArray 0) }) hoL S (by rw [sizeLine_eq]; omega) ⟨_, rfl, ?_⟩) (args_list_sort _)))
  refine wpAny_pure ⟨_, rfl, ?_⟩
  obtain ⟨c, hc⟩ := sortedHeap_at (vs := (L1.map fun q => Value.ref q.1)) (out := (PySem.W.sortVals (PySem.W.dataKind (PySem.W.sortingHeap (s1.heap.push (seqObj "list" (L1.map fun q => Value.ref q.1).toArray 0)) s1.heap.objs.size (L1.map fun q => Value.ref q.1)) (L1.map fun (q : Addr × List Int) => tupD q.2)) false (L1.map fun q => Value.ref q.1) (L1.map fun q => Value.ref q.1)).toArray) hoL
  refine hQ _ s1.heap.objs.size _ c _ L1 (fun b u e => ?_) g1 o1 hz hc (refs_each so) pL rfl
  have q := k1 b u e
  have hlt := Heap.lt_size q
  show (sortedHeap _ s1.heap.objs.size _ _).get? b = some u
  rw [sortedHeap_old (Nat.ne_of_lt hlt) (by rw [size_push']; exact Nat.lt_succ_of_lt hlt)]
  exact Heap.get?_push_of_some _ q
end
end L2

set_option maxHeartbeats 4000000
/-! sorted(set(xs)), len(set(xs)). -/
noncomputable section
namespace Cs
open PySem PySem.Spec PyProof.Rows L2 GxR Ce Gx

section
variable {α : Type} [DecidableEq α]
theorem mem_nub : ∀ {l : List α} {x : α}, x ∈ nub l ↔ x ∈ l
  | [], x => Iff.rfl
  | y :: l, x => by
    unfold nub
    split
    · rename_i h
      rw [mem_nub, List.mem_cons]
      exact ⟨.inr, fun z => z.elim (fun e => e ▸ h) id⟩
    · rw [List.mem_cons, List.mem_cons, mem_nub]
theorem nodup_nub : ∀ l : List α, (nub l).Nodup
  | [] => List.Pairwise.nil
  | y :: l => by
    unfold nub
    split
    · exact nodup_nub l
    · rename_i h
      exact List.nodup_cons.mpr ⟨fun z => h (mem_nub.mp z), nodup_nub l⟩
theorem nub_len : ∀ l : List α, (nub l).length ≤ l.length
  | [] => Nat.le_refl _
  | y :: l => by
    unfold nub
    have := nub_len l
    split
    · exact Nat.le_succ_of_le this
    · exact Nat.succ_le_succ this
theorem perm_of {a b : List α} (ha : a.Nodup) (hb : b.Nodup) (h : ∀ x, x ∈ a ↔ x ∈ b) : a.Perm b := (List.perm_ext_iff_of_nodup ha hb).mpr h
theorem sort_perm {le : α → α → Bool} (tr : ∀ a b c, le a b = true → le b c = true → le a c = true) (to : ∀ a b, (le a b || le b a) = true) (an : ∀ a b, le a b = true → le b a = true → a = b) {a b : List α} (p : a.Perm b) : a.mergeSort le = b.mergeSort le := by
  refine List.Perm.eq_of_pairwise (le := fun x y => le x y = true) (fun x y _ _ => an x y) ?_ ?_ (((List.mergeSort_perm a le).trans p).trans (List.mergeSort_perm b le).symm)
  · exact List.pairwise_mergeSort tr to a
  · exact List.pairwise_mergeSort tr to b
end
theorem setI_of {ns ns' : List Int} (h : ns'.Pairwise (· < ·)) (m : ∀ k, k ∈ ns' ↔ k ∈ ns) : setI ns = ns' := by
  unfold setI
  have nd : ns'.Nodup := h.imp fun h e => by omega
  rw [sort_perm (by simp; omega) (by simp; omega) (by simp; omega) (perm_of (nodup_nub ns) nd fun x => by rw [mem_nub, m])]
  exact List.mergeSort_of_pairwise (h.imp fun h => by simp; omega)
theorem rows_le_tr (a b c : List Int) : decide (a ≤ b) = true → decide (b ≤ c) = true → decide (a ≤ c) = true := by
  simp only [decide_eq_true_eq]
  exact List.le_trans
theorem rows_le_to (a b : List Int) : (decide (a ≤ b) || decide (b ≤ a)) = true := by
  rw [Bool.or_eq_true, decide_eq_true_eq, decide_eq_true_eq]
  exact List.le_total a b
theorem rows_le_an (a b : List Int) : decide (a ≤ b) = true → decide (b ≤ a) = true → a = b := by
  simp only [decide_eq_true_eq]
  exact List.le_antisymm
theorem setT_perm {nss : List (List Int)} {l : List (List Int)} (nd : l.Nodup) (m : ∀ k, k ∈ l ↔ k ∈ nss) : setT nss = l.mergeSort fun a b => decide (a ≤ b) :=
  sort_perm rows_le_tr rows_le_to rows_le_an (perm_of (nodup_nub nss) nd fun x => by rw [mem_nub, m])
theorem dataLe_tupD {β : Type} (f : β → List Int) : PySem.W.dataLe false (fun q => tupD (f q)) = fun p q => decide (f p ≤ f q) := by
  funext p q
  have h := PySem.W.dataLt_ints (f q) (f p)
  unfold PySem.W.rowLt at h
  show (!PySem.W.dataLt (.tuple ((f q).map .int)) (.tuple ((f p).map .int))) = _
  rw [PySem.W.dataLt_tuple, h, ← decide_not]
  simp [List.not_lt]
theorem intsAre_vals' : ∀ {ns : List Int} {us : List Value}, Vals (ns.map V.int) us → PyProof.Rows.IntsAre us ns
  | [], _, .nil => .nil
  | n :: ns, _, .cons r t => by
    obtain ⟨k, rfl⟩ := r
    exact .cons n k (intsAre_vals' t)
theorem ints_len : ∀ {ds : List PyData} {ns : List Int}, ints? ds = some ns → ns.length = ds.length := ints_length
theorem tupI_len : ∀ {ds : List PyData} {nss : List (List Int)}, tupI? ds = some nss → nss.length = ds.length
  | [], _, e => by cases e; rfl
  | d :: ds, _, e => by
    cases d <;> try (simp [tupI?] at e; done)
    simp only [tupI?, Option.bind_eq_some_iff, Option.map_eq_some_iff] at e
    obtain ⟨ns, e1, r, e2, rfl⟩ := e
    rw [List.length_cons, List.length_cons, tupI_len e2]
theorem DpAll.tups {K : PySem.W.Frag} {H : Hp} : ∀ {xs : List V} {ds : List PyData} {nss : List (List Int)}, DpAll K H xs ds → tupI? ds = some nss → ∃ ks : List (Addr × List Int), xs = ks.map (fun q => V.ref q.1) ∧ ks.map (·.2) = nss ∧ ∀ q ∈ ks, SqT K H q.1 (q.2.map V.int)
  | _, [], _, h, e => by
    cases e
    cases h
    exact ⟨[], rfl, rfl, fun q h => by cases h⟩
  | _, d :: ds, nss, h, e => by
    cases d <;> try (simp [tupI?] at e; done)
    simp only [tupI?, Option.bind_eq_some_iff, Option.map_eq_some_iff] at e
    obtain ⟨ns, e1, r, e2, rfl⟩ := e
    cases h with
    | cons h1 h2 =>
      obtain ⟨ks, rfl, rfl, hk⟩ := DpAll.tups h2 e2
      cases h1 with
      | @tup a ys _ hs ha =>
        rw [DpAll.ints ha e1] at hs
        refine ⟨(a, ns) :: ks, rfl, rfl, fun q hq => ?_⟩
        rcases List.mem_cons.mp hq with rfl | hq
        · exact hs
        · exact hk q hq
theorem dpAll_ints {K : PySem.W.Frag} {H : Hp} : ∀ ns : List Int, DpAll K H (ns.map V.int) (ns.map PyData.int)
  | [] => .nil
  | n :: ns => .cons (.int n) (dpAll_ints ns)
theorem dpAll_tups {K : PySem.W.Frag} {H : Hp} : ∀ L : List (Addr × List Int), (∀ q ∈ L, SqT K H q.1 (q.2.map V.int)) → DpAll K H (L.map fun q => V.ref q.1) (L.map fun q => tupD q.2)
  | [], _ => .nil
  | q :: L, h => .cons (.tup (h q List.mem_cons_self) (dpAll_ints _)) (dpAll_tups L fun r hr => h r (List.mem_cons_of_mem _ hr))

def SetHO (P : Program) (w : World) (K : PySem.W.Frag) (F : Hp) (p : Addr) (o : HO) (es : List PyData) : Prop :=
  (∃ ns n, o = SetO w p (fun k => decide (k ∈ ns)) n ∧ n < 64 ∧ es = (setI ns).map .int) ∨
  ∃ L nss, o = SetTO P w p L ∧ es = (setT nss).map tupD ∧ (∀ q ∈ L, SqT K F q.1 (q.2.map V.int) ∧ q.2 ∈ nss) ∧ ∀ ns ∈ nss, ns ∈ L.map (·.2)
def rSet (c : Cfg) (P : Program) (w : World) : List V → Hp → VK → Prop := fun xs H Q => ∃ F x d1 ds es, xs = [x] ∧ Ok c F H ∧ Rq c.K F H x d1 ∧ seq? d1 = some ds ∧ setd? ds = some es ∧ ∀ p o, H p = none → (∀ ps, o ≠ .tbl ps) → SetHO P w c.K F p o es → Q (.ref p) (upd H p o)
section
variable {X : Cx} {c : Cfg}
theorem cr_setD (hK : c.K = X.K) (hc : X.calm = true) (hu : X.A.units + 200 < cLine) : CallR X (.type "set") (rSet c X.prog X.w) := by
  intro pins s σ H xs us Q I r ⟨F, x, d1, ds, es, e, o, h1, hs, hd, k⟩
  subst e
  have hn : H s.heap.objs.size = none := I.hok.fresh (Nat.le_refl _)
  unfold setd? at hd
  rw [gd_some] at hd
  obtain ⟨hlen, hd⟩ := hd
  have ntI : ∀ n S ps, SetO X.w s.heap.objs.size S n ≠ .tbl ps := fun n S ps z => by cases z
  have ntT : ∀ L ps, SetTO X.prog X.w s.heap.objs.size L ≠ .tbl ps := fun L ps z => by cases z
  cases hi : ints? ds with
  | some ns =>
    rw [hi] at hd
    cases hd
    have hl := ints_length hi
    have fin : ∀ (h' : Heap) (tk cc : Nat), SetR X.w h' s.heap.objs.size (fun j => decide (j ∈ ns)) cc → cc ≤ ns.length → (∀ b o, s.heap.get? b = some o → h'.get? b = some o) →
        ∃ x' H', Inv X pins σ H' { s with heap := h', toks := tk } ∧ RelV x' (.ref s.heap.objs.size) ∧ Q x' H' := fun h' tk cc R hcc kk =>
      ⟨.ref _, upd H s.heap.objs.size (SetO X.w s.heap.objs.size (fun j => decide (j ∈ ns)) cc), I.laid (t' := tk) kk (Nat.le_refl _) (setO_new R), rfl, k _ _ hn (ntI _ _) (.inl ⟨ns, cc, rfl, by omega, rfl⟩)⟩
    cases d1 <;> try (simp [seq?] at hs; done)
    · cases hs
      obtain ⟨a, ys, rfl, s1, a1⟩ := h1.lst o
      rw [DpAll.ints a1 hi] at s1
      rw [Vals.ref1 r]
      obtain ⟨its, rv, pl, hz⟩ := I.list (hK ▸ s1)
      exact call_set_listI ns (I.ok.hd hc) pl.isList (by simpa using intsAre_vals' rv) (by unfold scanBound; omega) fin
    · cases hs
      obtain ⟨a, ys, rfl, s1, a1, D1⟩ := h1.tup o
      rw [DpAll.ints a1 hi] at s1
      rw [Vals.ref1 r]
      obtain ⟨its, rv, pl, hz⟩ := I.tuple (hK ▸ s1)
      exact call_set_tupI ns (I.ok.hd hc) pl (by simpa using intsAre_vals' rv) (by unfold scanBound; omega) fin
  | none =>
    rw [hi] at hd
    rw [Option.map_eq_some_iff] at hd
    obtain ⟨nss, hi, rfl⟩ := hd
    have hl := tupI_len hi
    have fin : ∀ ks : List (Addr × List Int), ks.map (·.2) = nss → (∀ q ∈ ks, SqT c.K F q.1 (q.2.map V.int)) → ∀ (h' : Heap) (tk : Nat) L es ep t, SetTR X.prog X.w h' s.heap.objs.size L es ep t → Got ks ks.length L → (∀ b o, s.heap.get? b = some o → h'.get? b = some o) →
        ∃ x' H', Inv X pins σ H' { s with heap := h', toks := tk } ∧ RelV x' (.ref s.heap.objs.size) ∧ Q x' H' := fun ks e1 hk h' tk L es ep t R g kk => by
      refine ⟨.ref _, upd H s.heap.objs.size (SetTO X.prog X.w s.heap.objs.size L), I.laid (t' := tk) kk (Nat.le_refl _) (setTO_new R.t0), rfl, k _ _ hn (ntT _) (.inr ⟨L, nss, rfl, rfl, fun q hq => ?_, fun ns hns => ?_⟩)⟩
      · have hq : q ∈ ks := List.mem_of_mem_take (g.sub q hq)
        exact ⟨hk q hq, e1 ▸ List.mem_map.mpr ⟨q, hq, rfl⟩⟩
      · rw [← e1] at hns
        obtain ⟨q, hq, rfl⟩ := List.mem_map.mp hns
        exact g.all q (by rw [List.take_length]; exact hq)
    cases d1 <;> try (simp [seq?] at hs; done)
    · cases hs
      obtain ⟨a, ys, rfl, s1, a1⟩ := h1.lst o
      obtain ⟨ks, rfl, e1, hk⟩ := DpAll.tups a1 hi
      have hkl : ks.length = nss.length := by rw [← e1, List.length_map]
      rw [Vals.ref1 r]
      obtain ⟨its, rv, pl, hz⟩ := I.list (hK ▸ s1)
      exact call_set_tups ks (I.ok.hd hc) pl.isList (by simpa using refs_of_vals rv) (fun p hp => I.isT (hK ▸ sqt_mono o.fhT (hk p hp))) (by omega) (by omega) (fin ks e1 hk)
    · cases hs
      obtain ⟨a, ys, rfl, s1, a1, D1⟩ := h1.tup o
      obtain ⟨ks, rfl, e1, hk⟩ := DpAll.tups a1 hi
      have hkl : ks.length = nss.length := by rw [← e1, List.length_map]
      rw [Vals.ref1 r]
      obtain ⟨its, rv, pl, hz⟩ := I.tuple (hK ▸ s1)
      exact call_set_tupsT ks (I.ok.hd hc) pl (by simpa using refs_of_vals rv) (fun p hp => I.isT (hK ▸ sqt_mono o.fhT (hk p hp))) (by omega) (by omega) (fin ks e1 hk)
def rSetQ (c : Cfg) (P : Program) (w : World) (l : Bool) (Q : VK) (H : Hp) (xs : List V) : Prop := ∃ F p o es, xs = [.ref p] ∧ H p = some o ∧ Ok c F H ∧ SetHO P w c.K F p o es ∧
  if l = true then Q (.int es.length) H else ∀ q ys, H q = none → DpAll c.K F ys es → Q (.ref q) (upd H q (.lst ys))
theorem setHO_len {P : Program} {w : World} {L : List (Addr × List Int)} {nss : List (List Int)} (nd : (L.map (·.2)).Nodup) (h1 : ∀ q ∈ L, q.2 ∈ nss) (h2 : ∀ ns ∈ nss, ns ∈ L.map (·.2)) : (setT nss).length = L.length := by
  rw [setT_perm nd fun k => ⟨fun h => ?_, h2 k⟩, List.length_mergeSort, List.length_map]
  obtain ⟨q, hq, rfl⟩ := List.mem_map.mp h
  exact h1 q hq
theorem cr_setL (hK : c.K = X.K) (hc : X.calm = true) (hu : X.A.units + 200 < cLine) : CallR X (.builtin "len") (fun xs H Q => rSetQ c X.prog X.w true Q H xs) := by
  intro pins s σ H xs us Q I r ⟨F, p, o, es, e, hp, ok, so, k⟩
  subst e
  rw [Vals.ref1 r]
  rw [if_pos rfl] at k
  rcases so with ⟨ns, n, rfl, hn, rfl⟩ | ⟨L, nss, rfl, rfl, hL, hN⟩
  · obtain ⟨o, es, ep, t, ho, hx, hd, g, nd, hm, hb, hf, hz, hr⟩ := setO_get I hp
    have e : ((setI ns).map PyData.int).length = es.size := by
      unfold setI
      rw [List.length_map, List.length_mergeSort, (perm_of (nodup_nub ns) nd fun x => by rw [mem_nub, ← hm x, decide_eq_true_eq]).length_eq, List.length_map, Array.length_toList]
    refine call_len_set ho hx hd hf (by omega) ⟨.int es.size, H, (I.tok _), ⟨_, rfl⟩, e ▸ k⟩
  · have R0 : SetT0 X.prog X.w s.heap p L := (I.hok p _ hp).1
    obtain ⟨es, ep, t, R⟩ := R0.full fun q hq => I.isT (hK ▸ sqt_mono ok.fhT (hL q hq).1)
    obtain ⟨o, ho, hex, hd⟩ := R.ob
    have e : ((setT nss).map tupD).length = es.size := by
      rw [List.length_map, setHO_len (P := X.prog) (w := X.w) R.nd (fun q hq => (hL q hq).2) hN, R.size]
    have hfew := R.few
    have hsz := R.size
    refine call_len_set ho hex hd R.fits (by omega) ⟨.int es.size, H, (I.tok _), ⟨_, rfl⟩, e ▸ k⟩
theorem cr_setS (hK : c.K = X.K) (hc : X.calm = true) (hu : X.A.units + 200 < cLine) : CallR X (.builtin "sorted") (fun xs H Q => rSetQ c X.prog X.w false Q H xs) := by
  intro pins s σ H xs us Q I r ⟨F, p, o, es, e, hp, ok, so, k⟩
  subst e
  rw [if_neg (by decide)] at k
  rcases so with ⟨ns, n, rfl, hn, rfl⟩ | ⟨L, nss, rfl, rfl, hL, hN⟩
  · refine cr_sortedSet hc pins s σ H _ us Q I r ⟨p, _, n, rfl, hp, hn, fun ns' q h1 h2 h3 h4 => ?_⟩
    refine k q _ h4 ?_
    rw [setI_of h1 fun z => by rw [h2, decide_eq_true_eq]]
    exact dpAll_ints ns'
  · rw [Vals.ref1 r]
    have R0 : SetT0 X.prog X.w s.heap p L := (I.hok p _ hp).1
    obtain ⟨es, ep, t, R⟩ := R0.full fun q hq => I.isT (hK ▸ sqt_mono ok.fhT (hL q hq).1)
    refine sorted_setTD R (I.ok.hd hc) (by omega) fun s' p2 out cc L' L1 kk g1 o1 hz hg hout pm e1 => ?_
    have hfew := R.few
    have hL' : L'.length = L.length := by rw [e1, List.length_mergeSort, pm.length_eq]
    have hlen : (L'.map fun q => V.ref q.1).length ≤ sizeLine := by rw [List.length_map, sizeLine_eq]; omega
    have hn : H p2 = none := I.hok.fresh hz
    have hv : Vals (L'.map fun q => V.ref q.1) out.toList := by rw [hout]; exact vals_of_refs L'
    have J : Inv X pins σ (upd H p2 (.lst (L'.map fun q => V.ref q.1))) { s with heap := s'.heap, gens := s'.gens, drawn := s'.drawn, toks := s'.toks } :=
      I.call (ch := []) (Un.laid kk hz hn) (I.hok.laid kk hz ⟨hlen, out.toList, cc, hv, hg⟩) (by rw [g1]; exact I.bare) (fun _ z => nomatch z)
    have e : s' = { s with heap := s'.heap, gens := s'.gens, drawn := s'.drawn, toks := s'.toks } := by
      cases s'
      cases s
      cases o1
      rfl
    rw [e]
    refine ⟨.ref p2, _, J, rfl, k p2 _ hn ?_⟩
    have mem : ∀ q ∈ L', q ∈ L := fun q hq => by
      rw [e1, List.mem_mergeSort] at hq
      exact pm.mem_iff.mp hq
    have key : (setT nss).map tupD = L'.map fun q => tupD q.2 := by
      have nd1 : (L1.map (·.2)).Nodup := (pm.map (·.2)).nodup_iff.mpr R.nd
      have e2 : setT nss = L'.map (·.2) := by
        rw [setT_perm nd1 fun z => ⟨fun h => ?_, fun h => (pm.map (·.2)).mem_iff.mpr (hN z h)⟩, e1, dataLe_tupD]
        · exact (List.map_mergeSort (f := fun (x : Addr × List Int) => x.2) (r := fun p q => decide (p.2 ≤ q.2)) (s := fun a b => decide (a ≤ b)) fun _ _ _ _ => rfl).symm
        · obtain ⟨q, hq, rfl⟩ := List.mem_map.mp h
          exact (hL q (pm.mem_iff.mp hq)).2
      rw [e2, List.map_map]
      rfl
    rw [key]
    exact dpAll_tups L' fun q hq => (hL q (mem q hq)).1
end
end Cs

set_option maxHeartbeats 4000000
/-! The text against the core language: helpers. -/
noncomputable section
namespace Cs
open PySem PySem.Spec PyProof.Rows L2 GxR Ce Gx

/-! ### taking expressions of the text apart -/
def xName : Expr → Option Str
  | .Name x _ => some x
  | _ => none
def dConst : Expr → Option Const
  | .Constant c _ _ => some c
  | _ => none
def dTup : Expr → Option (List Expr)
  | .Tuple es _ _ => some es
  | _ => none
def dLst : Expr → Option (List Expr)
  | .List es _ => some es
  | _ => none
def dBin : Expr → Option (Expr × Operator × Expr)
  | .BinOp a o b _ => some (a, o, b)
  | _ => none
def dUn : Expr → Option (UnaryOp × Expr)
  | .UnaryOp o a _ => some (o, a)
  | _ => none
def dBool : Expr → Option (BoolOp × Expr × Expr)
  | .BoolOp o [a, b] _ => some (o, a, b)
  | .BoolOp o (a :: b :: c :: r) pos => some (o, a, .BoolOp o (b :: c :: r) pos)
  | _ => none
def dCmp : Expr → Option (Expr × CmpOp × Expr)
  | .Compare a [o] [b] _ => some (a, o, b)
  | _ => none
def dCmp2 : Expr → Option (Expr × CmpOp × Expr × CmpOp × Expr)
  | .Compare a [o, o'] [b, c] _ => some (a, o, b, o', c)
  | _ => none
def dIf : Expr → Option (Expr × Expr × Expr)
  | .IfExp c a b _ => some (c, a, b)
  | _ => none
def notSl : Expr → Bool
  | .Slice .. => false
  | _ => true
def dSub : Expr → Option (Expr × Expr)
  | .Subscript a i _ => if notSl i = true then some (a, i) else none
  | _ => none
def dSl : Expr → Option (Expr × Option Expr × Option Expr)
  | .Subscript a (.Slice lo hi none _) _ => some (a, lo, hi)
  | _ => none
def dRev : Expr → Option Expr
  | .Subscript a (.Slice none none (some (.UnaryOp .USub (.Constant (.int 1) _ _) _)) _) _ => some a
  | _ => none
def dCall : Expr → Option (Str × List Expr)
  | .Call (.Name x _) es [] _ => some (x, es)
  | _ => none
def dOne : Option (Str × List Expr) → Option (Str × Expr)
  | some (x, [a]) => some (x, a)
  | _ => none
def dTwo : Option (Str × List Expr) → Option (Str × Expr × Expr)
  | some (x, [a, b]) => some (x, a, b)
  | _ => none
structure Cmp1 where
  elt : Expr
  tg : Expr
  iter : Expr
  ifs : List Expr
  scope : Scope
def dLc : Expr → Option Cmp1
  | .ListComp e [⟨tg, it, ifs, 0⟩] sc _ => some ⟨e, tg, it, ifs, sc⟩
  | _ => none
structure Cmp2 where
  elt : Expr
  tg : Expr
  iter : Expr
  ifs : List Expr
  tg1 : Expr
  iter1 : Expr
  ifs1 : List Expr
  scope : Scope
def dLc2 : Expr → Option Cmp2
  | .ListComp e [⟨tg, it, ifs, 0⟩, ⟨tg1, it1, ifs1, 0⟩] sc _ => some ⟨e, tg, it, ifs, tg1, it1, ifs1, sc⟩
  | _ => none
theorem dLc2_ok {e : Expr} {m : Cmp2} (h : dLc2 e = some m) : ∃ p, e = .ListComp m.elt [⟨m.tg, m.iter, m.ifs, 0⟩, ⟨m.tg1, m.iter1, m.ifs1, 0⟩] m.scope p := by
  unfold dLc2 at h
  split at h
  · cases h; exact ⟨_, rfl⟩
  · cases h
def dGen2 : Expr → Option Cmp2
  | .GeneratorExp e [⟨tg, it, ifs, 0⟩, ⟨tg1, it1, ifs1, 0⟩] sc _ => some ⟨e, tg, it, ifs, tg1, it1, ifs1, sc⟩
  | _ => none
theorem dGen2_ok {e : Expr} {m : Cmp2} (h : dGen2 e = some m) : ∃ p, e = .GeneratorExp m.elt [⟨m.tg, m.iter, m.ifs, 0⟩, ⟨m.tg1, m.iter1, m.ifs1, 0⟩] m.scope p := by
  unfold dGen2 at h
  split at h
  · cases h; exact ⟨_, rfl⟩
  · cases h
def dGen : Expr → Option Cmp1
  | .GeneratorExp e [⟨tg, it, ifs, 0⟩] sc _ => some ⟨e, tg, it, ifs, sc⟩
  | _ => none
theorem xName_ok {e : Expr} {x : Str} (h : xName e = some x) : ∃ p, e = .Name x p := by
  cases e <;> simp [xName] at h
  exact ⟨_, by rw [h]⟩
theorem dConst_ok {e : Expr} {x : Const} (h : dConst e = some x) : ∃ k p, e = .Constant x k p := by
  cases e <;> simp [dConst] at h
  exact ⟨_, _, by rw [h]⟩
theorem dTup_ok {e : Expr} {x : List Expr} (h : dTup e = some x) : ∃ k p, e = .Tuple x k p := by
  cases e <;> simp [dTup] at h
  exact ⟨_, _, by rw [h]⟩
theorem dLst_ok {e : Expr} {x : List Expr} (h : dLst e = some x) : ∃ p, e = .List x p := by
  cases e <;> simp [dLst] at h
  exact ⟨_, by rw [h]⟩
theorem dBin_ok {e a b : Expr} {o : Operator} (h : dBin e = some (a, o, b)) : ∃ p, e = .BinOp a o b p := by
  cases e <;> simp [dBin] at h
  obtain ⟨rfl, rfl, rfl⟩ := h
  exact ⟨_, rfl⟩
theorem dUn_ok {e a : Expr} {o : UnaryOp} (h : dUn e = some (o, a)) : ∃ p, e = .UnaryOp o a p := by
  cases e <;> simp [dUn] at h
  obtain ⟨rfl, rfl⟩ := h
  exact ⟨_, rfl⟩
theorem dBool_ok {e a b : Expr} {o : BoolOp} (h : dBool e = some (o, a, b)) : (∃ p, e = .BoolOp o [a, b] p) ∨ ∃ p b' c r, e = .BoolOp o (a :: b' :: c :: r) p ∧ b = .BoolOp o (b' :: c :: r) p := by
  unfold dBool at h
  split at h
  · cases h; exact .inl ⟨_, rfl⟩
  · cases h; exact .inr ⟨_, _, _, _, rfl, rfl⟩
  · cases h
theorem dCmp_ok {e a b : Expr} {o : CmpOp} (h : dCmp e = some (a, o, b)) : ∃ p, e = .Compare a [o] [b] p := by
  unfold dCmp at h
  split at h
  · cases h; exact ⟨_, rfl⟩
  · cases h
theorem dCmp2_ok {e a b c : Expr} {o o' : CmpOp} (h : dCmp2 e = some (a, o, b, o', c)) : ∃ p, e = .Compare a [o, o'] [b, c] p := by
  unfold dCmp2 at h
  split at h
  · cases h; exact ⟨_, rfl⟩
  · cases h
theorem dIf_ok {e a b c : Expr} (h : dIf e = some (c, a, b)) : ∃ p, e = .IfExp c a b p := by
  cases e <;> simp [dIf] at h
  obtain ⟨rfl, rfl, rfl⟩ := h
  exact ⟨_, rfl⟩
theorem dSub_ok {e a b : Expr} (h : dSub e = some (a, b)) : (∃ p, e = .Subscript a b p) ∧ PlainIx b := by
  unfold dSub at h
  split at h
  · split at h
    · rename_i h1
      cases h
      refine ⟨⟨_, rfl⟩, ?_⟩
      intro o x
      cases b <;> first | rfl | cases h1
    · cases h
  · cases h
theorem dSl_ok {e a : Expr} {lo hi : Option Expr} (h : dSl e = some (a, lo, hi)) : ∃ p q, e = .Subscript a (.Slice lo hi none q) p := by
  unfold dSl at h
  split at h
  · cases h; exact ⟨_, _, rfl⟩
  · cases h
theorem dRev_ok {e a : Expr} (h : dRev e = some a) : ∃ k p1 p2 p3 p, e = .Subscript a (.Slice none none (some (.UnaryOp .USub (.Constant (.int 1) k p1) p2)) p3) p := by
  unfold dRev at h
  split at h
  · cases h; exact ⟨_, _, _, _, _, rfl⟩
  · cases h
theorem dCall_ok {e : Expr} {x : Str} {es : List Expr} (h : dCall e = some (x, es)) : ∃ p q, e = .Call (.Name x p) es [] q := by
  unfold dCall at h
  split at h
  · cases h; exact ⟨_, _, rfl⟩
  · cases h
theorem dOne_ok {e : Expr} {x : Str} {a : Expr} (h : dOne (dCall e) = some (x, a)) : ∃ p q, e = .Call (.Name x p) [a] [] q := by
  unfold dOne at h
  split at h
  · rename_i h1; cases h; exact dCall_ok h1
  · cases h
theorem dTwo_ok {e : Expr} {x : Str} {a b : Expr} (h : dTwo (dCall e) = some (x, a, b)) : ∃ p q, e = .Call (.Name x p) [a, b] [] q := by
  unfold dTwo at h
  split at h
  · rename_i h1; cases h; exact dCall_ok h1
  · cases h
theorem dLc_ok {e : Expr} {m : Cmp1} (h : dLc e = some m) : ∃ p, e = .ListComp m.elt [⟨m.tg, m.iter, m.ifs, 0⟩] m.scope p := by
  unfold dLc at h
  split at h
  · cases h; exact ⟨_, rfl⟩
  · cases h
theorem dGen_ok {e : Expr} {m : Cmp1} (h : dGen e = some m) : ∃ p, e = .GeneratorExp m.elt [⟨m.tg, m.iter, m.ifs, 0⟩] m.scope p := by
  unfold dGen at h
  split at h
  · cases h; exact ⟨_, rfl⟩
  · cases h
def noStar : Expr → Bool
  | .Starred .. => false
  | _ => true
theorem star_cons {e : Expr} {es : List Expr} {env : Env} (h : noStar e = true) : starEach (e :: es) env = (false, eval e env) :: starEach es env := by
  cases e <;> first | rfl | cases h
theorem assign_cons {e : Expr} {es : List Expr} {env : Env} (h : noStar e = true) : assignEach (e :: es) env = (false, assign e env) :: assignEach es env := by
  cases e <;> first | rfl | cases h
theorem star_any {env : Env} {pos : Pos} : ∀ {es : List Expr}, es.all noStar = true → (backTo pos (starEach es env)).any (·.1) = false
  | [], _ => rfl
  | e :: es, h => by
    rw [List.all_cons, Bool.and_eq_true] at h
    rw [star_cons h.1]
    have ih := star_any (env := env) (pos := pos) h.2
    simp only [backTo, List.map_cons, List.any_cons, Bool.false_or] at ih ⊢
    exact ih
theorem assign_len {env : Env} : ∀ {es : List Expr}, es.all noStar = true → (assignEach es env).length = es.length ∧ (assignEach es env).findIdx? (·.1) = none
  | [], _ => ⟨rfl, rfl⟩
  | e :: es, h => by
    rw [List.all_cons, Bool.and_eq_true] at h
    obtain ⟨h1, h2⟩ := assign_len (env := env) h.2
    rw [assign_cons h.1]
    refine ⟨by rw [List.length_cons, List.length_cons, h1], ?_⟩
    rw [List.findIdx?_cons, h2]
    rfl
def plainIter : Expr → Bool
  | .Set .. => false
  | .List .. => false
  | _ => true
theorem plain_fold {iter : Expr} {env : Env} (h : plainIter iter = true) : (∀ x, foldedSetIterable iter env x = pure x) ∧ ∀ x, genFold iter env x = pure x := by
  cases iter <;> first | exact ⟨fun _ => rfl, fun _ => rfl⟩ | (simp [plainIter] at h; done)
def plainT : Expr → Bool
  | .UnaryOp .Not _ _ => false
  | .BoolOp .. => false
  | .IfExp .. => false
  | .Compare .. => false
  | _ => true
theorem plainT_ok {e : Expr} {env : Env} (h : plainT e = true) : ∀ whole, isTrue e env whole = (do let v ← whole; standAt e.pos; holding [v] (truthy v)) := by
  intro whole
  cases e
  case UnaryOp op _ _ => cases op <;> first | rfl | (simp [plainT] at h; done)
  all_goals first | rfl | (simp [plainT] at h; done)
def isBoolOp : Expr → Bool
  | .BoolOp .. => true
  | _ => false

/-! ### a chain of tests -/
section
variable {X : Cx} {a b c : Expr} {pos : Pos}
def tIfT (t ta tb : TT) : TT := fun σ H Q => t σ H fun c H1 => if c = true then ta σ H1 Q else tb σ H1 Q
theorem pt_ife {tc ta tb : TT} (hc : PT X c tc) (ha : PT X a ta) (hb : PT X b tb) : PT X (.IfExp c a b pos) (tIfT tc ta tb) := by
  refine ⟨fun pins s σ H Q I h => ?_⟩
  show wpAny _ _ (do if ← isTrue c X.env (eval c X.env) then isTrue a X.env (eval a X.env) else isTrue b X.env (eval b X.env)) _ _ s
  refine wpAny_bind (thn (hc.run pins s σ H _ I h) fun d s1 ⟨H1, I1, q1⟩ => ?_)
  cases d with
  | true => exact ha.run pins s1 σ H1 Q I1 q1
  | false => exact hb.run pins s1 σ H1 Q I1 q1
theorem pi_seq {l tg : Expr} {tl : TE} (hl : PE X l tl) : PI X tg l (fun σ H R => tl σ H fun x H1 => (∃ a, x = .ref a ∧ (∃ xs, SqL X.K H1 a xs) ∧ R (Itl X.K a) H1) ∨ (∃ a, x = .ref a ∧ (∃ xs, SqT X.K H1 a xs) ∧ R (Itt X.K a) H1) ∨ ∃ y, x = .str y ∧ R (Its y) H1) := by
  refine ⟨fun pins s σ H R I h => ?_⟩
  refine thn (hl.run pins s σ H _ I h) fun v s1 ⟨x, H1, I1, r1, q1⟩ => ?_
  rcases q1 with ⟨a, e, ⟨xs, hq⟩, q⟩ | ⟨a, e, ⟨xs, hq⟩, q⟩ | ⟨y, e, q⟩
  · subst e
    cases r1
    obtain ⟨its, rv, p, hz⟩ := I1.list hq
    refine wpAny_pyIter_list p.isList ?_
    refine ⟨s1.heap.objs.size, [s1.heap.objs.size], _, _, H1, rfl, I1.kept (t' := s1.toks) fun b o e => Heap.get?_push_of_some _ e, turn_list a _, ⟨_, Heap.get?_push_size _ rfl, rfl, rfl⟩, fun b hb => ?_, q⟩
    have e : b = s1.heap.objs.size := by simpa using hb
    subst e
    exact I1.fpOk (Nat.le_refl _) (I1.hok.fresh (Nat.le_refl _))
  · subst e
    cases r1
    obtain ⟨its, rv, p, hz⟩ := I1.tuple hq
    refine wpAny_pyIter_tuple (show s1.heap.IsTuple a its.toArray from p) ?_
    refine ⟨s1.heap.objs.size, [s1.heap.objs.size], _, _, H1, rfl, I1.kept (t' := s1.toks) fun b o e => Heap.get?_push_of_some _ e, turn_tuple a _, ⟨_, Heap.get?_push_size _ rfl, rfl, rfl⟩, fun b hb => ?_, q⟩
    have e : b = s1.heap.objs.size := by simpa using hb
    subst e
    exact I1.fpOk (Nat.le_refl _) (I1.hok.fresh (Nat.le_refl _))
  · subst e
    obtain ⟨t, rfl⟩ := r1
    cases ha : y.cps.all (· < 128)
    · exact wpAny_pyIter_wide ha (pi_one (tk := s1.toks) I1 _ (turn_str _ y t "str_iterator" (.inr rfl)) ⟨_, Heap.get?_push_size _ rfl, rfl, rfl⟩ q)
    · exact wpAny_pyIter_ascii ha (pi_one (tk := s1.toks) I1 _ (turn_str _ y t "str_ascii_iterator" (.inl rfl)) ⟨_, Heap.get?_push_size _ rfl, rfl, rfl⟩ q)
/-- a builtin's call -/
theorem pe_callF {f : Value} {x : Str} {e : Expr} {es : List Expr} {t : TA} {p : Pos} {r : List V → Hp → VK → Prop} (hf : (∃ id, f = .builtin id) ∨ ∃ T, f = .type T) (hc : CallR X f r) (hg : Gl X x) (hm : X.mg x = none) (hv : bootBuiltins x = some f)
    (hn : x ≠ "__name__") (hdb : (x == ("__debug__" : Str)) = false) (ha : PA X (e :: es) t) (hs : (e :: es).all noStar = true) : PE X (.Call (.Name x p) (e :: es) [] pos) (tCB r t) := by
  rw [List.all_cons, Bool.and_eq_true] at hs
  rcases hf with ⟨id, rfl⟩ | ⟨T, rfl⟩
  · exact pe_callB hc hg hm hv ha hn hdb (star_cons hs.1) (star_any hs.2)
  · exact pe_callTy hc hg hm hv ha hn hdb (star_cons hs.1) (star_any hs.2)
end

/-! ### the static side -/
structure Ctl where
  N : List Str
  fn : List (Str × Nat)
def visB (sc : Scope) (x : Str) : Bool := match sc.names.lookup x with
  | some .local => true
  | some .cell => true
  | some .free => true
  | _ => false
def stoB (sc : Scope) (fnb : Str → Bool) (x : Str) : Bool := match sc.names.lookup x with
  | some .local => true
  | some .cell => fnb x
  | _ => false
def glB (sc : Scope) (x : Str) : Bool := decide (sc.names.lookup x = some .globalImplicit)
def okN (x : Str) : Bool := !(x == ("__debug__" : Str)) && !(x == ("__classdict__" : Str)) && !(x == ("__name__" : Str))
theorem visB_ok {sc : Scope} {x : Str} (h : visB sc x = true) : Vis sc x := by
  unfold visB at h
  split at h <;> first | exact .inl ‹_› | exact .inr (.inl ‹_›) | exact .inr (.inr ‹_›) | cases h
theorem stoB_ok {sc : Scope} {fnb : Str → Bool} {x : Str} (h : stoB sc fnb x = true) : Loc sc x ∧ (fnb x = true ∨ sc.names.lookup x = some .local) := by
  unfold stoB at h
  split at h
  · exact ⟨.inl ‹_›, .inr ‹_›⟩
  · exact ⟨.inr ‹_›, .inl h⟩
  · cases h
theorem okN_ok {x : Str} (h : okN x = true) : (x == ("__debug__" : Str)) = false ∧ (x == ("__classdict__" : Str)) = false ∧ x ≠ ("__name__" : Str) := by
  simp only [okN, Bool.and_eq_true, Bool.not_eq_true'] at h
  refine ⟨h.1.1, h.1.2, fun e => ?_⟩
  rw [e] at h
  simp at h
def biNames : List Str := ["len", "abs", "int", "str", "tuple", "list", "sorted", "sum", "max", "min", "all", "any", "isinstance", "bool", "range", "enumerate", "zip", "reversed", "set", "dict"]
/-- what a def of the text promises -/
def spD (c : Cfg) (Φ : Fns) (f n : Nat) : Sp := fun vs H Q _ => vs.length = n ∧ ∃ F ds d, Ok c F H ∧ DpAll c.K F vs ds ∧ Φ f ds = some d ∧ ∀ v H' F', Ext c F H F' H' → Dp c.K F' v d → Q v H'
structure FnAt (c : Cfg) (Φ : Fns) (X : Cx) (lf : Nat) (x : Str) (f : Nat) : Prop where
  ex : ∃ (fd : FuncData) (a : Addr) (ps : List Str), X.mg x = some (.ref a) ∧ PySem.W.keepIn X.K (.ref a) = true ∧ Binds X.K fd ps [] ∧ FnOk X.prog X.w X.K X.mg X.base CX0 lf a fd ps (spD c Φ f ps.length) ∧ ∀ ds d, Φ f ds = some d → ds.length = ps.length
structure CtxOk (c : Cfg) (ct : Ctl) (Φ : Fns) (lf : Nat) (X : Cx) (sc : Scope) (fnb : Str → Bool) (g : Nat) : Prop where
  K : c.K = X.K
  calm : X.calm = true
  N : X.N = ct.N
  nd : ct.N.Nodup
  sc : X.env.scope = sc
  fn : ∀ x, X.fn x = fnb x
  room : Room (lf + g) X.A
  bi : ∀ x ∈ biNames, X.mg x = none
  fns : ∀ x f, ct.fn.lookup x = some f → FnAt c.b Φ X lf x f
  tb : 1 ≤ g → ∃ C P, X.env.code = .ref C ∧ (∃ P0, X.base.BuiltinsAt X.mg P0) ∧ ((P ∈ c.T ∧ PySem.W.CodeHd X.base C P) ∨ c.fr = some (C, P))
section
variable {c : Cfg} {ct : Ctl} {Φ : Fns} {lf : Nat} {X : Cx} {sc : Scope} {fnb : Str → Bool} {g : Nat}
theorem CtxOk.room0 (h : CtxOk c ct Φ lf X sc fnb g) : Room lf X.A := h.room.mono (by omega)
theorem CtxOk.hu (h : CtxOk c ct Φ lf X sc fnb g) : X.A.units + 200 < cLine := by have := h.room0.un; omega
theorem CtxOk.blk (h : CtxOk c ct Φ lf X sc fnb g) (scope : Scope) (s : Shared) (H : Hp) (C : Addr) (cl : List (Str × Addr)) (fp : List Addr) :
    CtxOk c ct Φ lf (X.blk s H scope (compEnvC scope cl C X.env) fp) (relS scope sc) (fun x => scope.names.lookup x == some .cell) g where
  K := h.K
  calm := h.calm
  N := h.N
  nd := h.nd
  sc := by rw [← h.sc]; rfl
  fn := fun _ => rfl
  room := h.room
  bi := h.bi
  fns := fun x f e => ⟨(h.fns x f e).ex⟩
  tb := h.tb
theorem CtxOk.gen (h : CtxOk c ct Φ lf X sc fnb (g + 1)) (scope : Scope) (s : Shared) (H : Hp) (C : Addr) (cl : List (Str × Addr)) (q : Addr × Addr) (fp : List Addr) (go : Addr × Obj) :
    CtxOk (c.at q) ct Φ lf (CxGen X s H (genEnv scope cl C (.ref q.1) builtinsNs X.env) fp go) scope (fun _ => false) g where
  K := h.K
  calm := h.calm
  N := h.N
  nd := h.nd
  sc := rfl
  fn := fun _ => rfl
  room := by
    have q : Room (lf + g + 1) X.A := h.room
    exact ⟨q.hd, by have := q.dp; show X.A.depth + 1 + 3 * (lf + g) + 5 < _; omega, by have := q.un; show X.A.units + 1 + 1 + 3 + 16 * (lf + g) + 200 < _; omega⟩
  bi := h.bi
  fns := fun x f e => ⟨(h.fns x f e).ex⟩
  tb := fun _ => ⟨q.1, q.2, rfl, (h.tb (by omega)).elim fun _ z => z.elim fun _ z => z.2.1, .inr rfl⟩
theorem CtxOk.gen0 (h : CtxOk c ct Φ lf X sc fnb (g + 1)) (scope : Scope) (s : Shared) (H : Hp) (C : Addr) (cl : List (Str × Addr)) (code : Value) (fp : List Addr) (go : Addr × Obj) :
    CtxOk c ct Φ lf (CxGen X s H (genEnv scope cl C code builtinsNs X.env) fp go) scope (fun _ => false) 0 where
  K := h.K
  calm := h.calm
  N := h.N
  nd := h.nd
  sc := rfl
  fn := fun _ => rfl
  room := by
    have q : Room (lf + 1) X.A := h.room.mono (by omega)
    exact ⟨q.hd, by have := q.dp; show X.A.depth + 1 + 3 * lf + 5 < _; omega, by have := q.un; show X.A.units + 1 + 1 + 3 + 16 * lf + 200 < _; omega⟩
  bi := h.bi
  fns := fun x f e => ⟨(h.fns x f e).ex⟩
  tb := fun z => by omega
end
end Cs

set_option maxHeartbeats 4000000
/-! The text against the core language: the check. -/
noncomputable section
namespace Cs
open PySem PySem.Spec PyProof.Rows L2 GxR Ce Gx

def tyN : Tyn → Str
  | .int => "int" | .bool => "bool" | .str => "str" | .tuple => "tuple"
def b1N : B1 → Str
  | .len => "len" | .abs => "abs" | .int => "int" | .str => "str"
def biN : Bi → Str
  | .tuple => "tuple" | .list => "list" | .sorted => "sorted" | .sum => "sum" | .max => "max" | .min => "min" | .all => "all" | .any => "any"
def stN : Bool → Str
  | true => "len" | false => "sorted"
def b2N : B2 → Str
  | .max => "max" | .min => "min"
def gnN (b0 : Bool) : Str := if b0 = true then "all" else "any"
def cvN (l : Bool) : Str := if l = true then "list" else "tuple"
def ownOf (N : List Str) (is : List Nat) : List (Str × Nat) := is.map fun i => ((N[i]?).getD "", i)
theorem own_map (N : List Str) : ∀ is : List Nat, (ownOf N is).map (·.2) = is
  | [] => rfl
  | i :: is => by
    show i :: (ownOf N is).map (·.2) = i :: is
    rw [own_map N is]
def genC (N : List Str) (sc scope : Scope) (own : List (Str × Nat)) : Bool :=
  blkC N sc scope own && (!scope.isCoroutine && ((scope.names.all fun y => !decide (y.2 = .cell)) && decide (scope.names.lookup (".0" : Str) = some NameKind.local)))
theorem genC_ok {N : List Str} {sc scope : Scope} {own : List (Str × Nat)} (h : genC N sc scope own = true) : GenOk N sc scope own := by
  unfold genC at h
  rw [Bool.and_eq_true, Bool.and_eq_true, Bool.and_eq_true, decide_eq_true_eq, Bool.not_eq_true', List.all_eq_true] at h
  refine ⟨blkOk_by h.1, h.2.1, fun y hy e => ?_, h.2.2.2⟩
  have := h.2.2.1 y hy
  rw [e] at this
  simp at this
def fnB (scope : Scope) : Str → Bool := fun x => scope.names.lookup x == some .cell

mutual
def chkT (ct : Ctl) : Tg → Scope → (Str → Bool) → Expr → Bool
  | .nm i, sc, fnb, e => match xName e with
    | some x => decide (ct.N[i]? = some x) && stoB sc fnb x
    | none => false
  | .tp ts, sc, fnb, e => match dTup e with
    | some xs => xs.all noStar && chkTs ct ts sc fnb xs
    | none => false
def chkTs (ct : Ctl) : Tgs → Scope → (Str → Bool) → List Expr → Bool
  | .nil, _, _, [] => true
  | .cons t ts, sc, fnb, e :: es => chkT ct t sc fnb e && chkTs ct ts sc fnb es
  | _, _, _, _ => false
end
def chkB (sc : Scope) (x y : Str) : Bool := decide (x = y) && glB sc x
mutual
def chk (ct : Ctl) : Ex → Scope → (Str → Bool) → Nat → Expr → Bool
  | .var i, sc, _, _, e => match xName e with
    | some x => decide (ct.N[i]? = some x) && (visB sc x && okN x)
    | none => false
  | .int n, _, _, _, e => decide (dConst e = some (.int n))
  | .str n, _, _, _, e => decide (dConst e = some (.str n))
  | .bool n, _, _, _, e => decide (dConst e = some (.bool n))
  | .non, _, _, _, e => decide (dConst e = some .none)
  | .tup es, sc, fnb, g, e => match dTup e with
    | some xs => xs.all noStar && chks ct es sc fnb g xs
    | none => false
  | .lst es, sc, fnb, g, e => match dLst e with
    | some xs => xs.all noStar && chks ct es sc fnb g xs
    | none => false
  | .bin op a b, sc, fnb, g, e => match dBin e with
    | some (a', o, b') => decide (o = bopOf op) && (chk ct a sc fnb g a' && chk ct b sc fnb g b')
    | none => false
  | .neg a, sc, fnb, g, e => match dUn e with
    | some (o, a') => decide (o = .USub) && chk ct a sc fnb g a'
    | none => false
  | .not a, sc, fnb, g, e => match dUn e with
    | some (o, a') => decide (o = .Not) && chk ct a sc fnb g a'
    | none => false
  | .and a b, sc, fnb, g, e => match dBool e with
    | some (o, a', b') => decide (o = .And) && (chk ct a sc fnb g a' && chk ct b sc fnb g b')
    | none => false
  | .or a b, sc, fnb, g, e => match dBool e with
    | some (o, a', b') => decide (o = .Or) && (chk ct a sc fnb g a' && chk ct b sc fnb g b')
    | none => false
  | .cmp op a b, sc, fnb, g, e => match dCmp e with
    | some (a', o, b') => decide (o = copOf op) && (!behindInMarks o b' && (chk ct a sc fnb g a' && chk ct b sc fnb g b'))
    | none => false
  | .ch2 op op' a b c, sc, fnb, g, e => match dCmp2 e with
    | some (a', o, b', o', c') => (decide (o = copOf op) && decide (o' = copOf op')) && (!lastMarks [o, o'] [b', c'] && (chk ct a sc fnb g a' && (chk ct b sc fnb g b' && chk ct c sc fnb g c')))
    | none => false
  | .isn a, sc, fnb, g, e => match dCmp e with
    | some (a', o, b') => (decide (o = .Is) && decide (dConst b' = some .none)) && chk ct a sc fnb g a'
    | none => false
  | .nisn a, sc, fnb, g, e => match dCmp e with
    | some (a', o, b') => (decide (o = .IsNot) && decide (dConst b' = some .none)) && chk ct a sc fnb g a'
    | none => false
  | .ife c a b, sc, fnb, g, e => match dIf e with
    | some (c', a', b') => chk ct c sc fnb g c' && (chk ct a sc fnb g a' && chk ct b sc fnb g b')
    | none => false
  | .sub a i, sc, fnb, g, e => match dSub e with
    | some (a', i') => chk ct a sc fnb g a' && chk ct i sc fnb g i'
    | none => false
  | .sl a lo hi, sc, fnb, g, e => match dSl e with
    | some (a', lo', hi') => chk ct a sc fnb g a' && (chkp ct lo sc fnb g lo' && chkp ct hi sc fnb g hi')
    | none => false
  | .rev a, sc, fnb, g, e => match dRev e with
    | some a' => chk ct a sc fnb g a'
    | none => false
  | .call f es, sc, fnb, g, e => match dCall e with
    | some (x, xs) => (decide (ct.fn.lookup x = some f) && (glB sc x && okN x)) && (xs.all noStar && chks ct es sc fnb g xs)
    | none => false
  | .b1 b a, sc, fnb, g, e => match dOne (dCall e) with
    | some (x, a') => chkB sc x (b1N b) && (noStar a' && chk ct a sc fnb g a')
    | none => false
  | .bi b a, sc, fnb, g, e => match dOne (dCall e) with
    | some (x, a') => chkB sc x (biN b) && (noStar a' && chk ct a sc fnb g a')
    | none => false
  | .conv l i, sc, fnb, g, e => match dOne (dCall e) with
    | some (x, a') => chkB sc x (cvN l) && (noStar a' && chkR ct i sc fnb g a')
    | none => false
  | .b2 b a c, sc, fnb, g, e => match dTwo (dCall e) with
    | some (x, a', c') => chkB sc x (b2N b) && ((noStar a' && noStar c') && (chk ct a sc fnb g a' && chk ct c sc fnb g c'))
    | none => false
  | .isi T a, sc, fnb, g, e => match dTwo (dCall e) with
    | some (x, a', c') => (chkB sc x "isinstance" && match xName c' with
      | some y => chkB sc y (tyN T)
      | none => false) && (noStar a' && chk ct a sc fnb g a')
    | none => false
  | .lc el t i ifs, sc, fnb, g, e => match dLc e with
    | some m => (blkC ct.N sc m.scope (ownOf ct.N (slots t)) && plainIter m.iter) && ((chkI ct i sc fnb g m.tg m.iter && chkT ct t (relS m.scope sc) (fnB m.scope) m.tg) && (chk ct el (relS m.scope sc) (fnB m.scope) g m.elt && chko ct ifs (relS m.scope sc) (fnB m.scope) g m.ifs))
    | none => false
  | .gen b0 el t i ifs, sc, fnb, g, e => match dOne (dCall e) with
    | some (x, e') => (decide (1 ≤ g) && chkB sc x (gnN b0)) && match dGen e' with
      | some m => (genC ct.N sc m.scope (ownOf ct.N (slots t)) && plainIter m.iter) && ((chkI ct i sc fnb g m.tg m.iter && chkT ct t m.scope (fun _ => false) m.tg) && (chk ct el m.scope (fun _ => false) (g - 1) m.elt && chko ct ifs m.scope (fun _ => false) (g - 1) m.ifs))
      | none => false
    | none => false
  | .st l a, sc, fnb, g, e => match dOne (dCall e) with
    | some (x, e') => chkB sc x (stN l) && match dOne (dCall e') with
      | some (y, a') => chkB sc y "set" && (noStar a' && chk ct a sc fnb g a')
      | none => false
    | none => false
  | .gen2 b0 el t i ifs t1 i1 ifs1, sc, fnb, g, e => match dOne (dCall e) with
    | some (x, e') => (decide (1 ≤ g) && chkB sc x (gnN b0)) && match dGen2 e' with
      | some m => (genC ct.N sc m.scope (ownOf ct.N (slots t ++ slots t1)) && (plainIter m.iter && plainIter m.iter1)) && ((chkI ct i sc fnb g m.tg m.iter && chkT ct t m.scope (fun _ => false) m.tg) && ((chkI ct i1 m.scope (fun _ => false) 0 m.tg1 m.iter1 && chkT ct t1 m.scope (fun _ => false) m.tg1) && (chk ct el m.scope (fun _ => false) 0 m.elt && (chko ct ifs m.scope (fun _ => false) 0 m.ifs && chko ct ifs1 m.scope (fun _ => false) 0 m.ifs1))))
      | none => false
    | none => false
  | .mt m a b, sc, fnb, g, e => match dMeth e with
    | some (o, nm, b') => (decide (nm = mtN m) && noStar b') && (chk ct a sc fnb g o && chk ct b sc fnb g b')
    | none => false
  | .lc2 el t i ifs t1 i1 ifs1, sc, fnb, g, e => match dLc2 e with
    | some m => (blkC ct.N sc m.scope (ownOf ct.N (slots t ++ slots t1)) && (plainIter m.iter && plainIter m.iter1)) && ((chkI ct i sc fnb g m.tg m.iter && chkT ct t (relS m.scope sc) (fnB m.scope) m.tg) && ((chkI ct i1 (relS m.scope sc) (fnB m.scope) g m.tg1 m.iter1 && chkT ct t1 (relS m.scope sc) (fnB m.scope) m.tg1) && (chk ct el (relS m.scope sc) (fnB m.scope) g m.elt && (chko ct ifs (relS m.scope sc) (fnB m.scope) g m.ifs && chko ct ifs1 (relS m.scope sc) (fnB m.scope) g m.ifs1))))
    | none => false
def chks (ct : Ctl) : Exs → Scope → (Str → Bool) → Nat → List Expr → Bool
  | .nil, _, _, _, [] => true
  | .cons e es, sc, fnb, g, x :: xs => chk ct e sc fnb g x && chks ct es sc fnb g xs
  | _, _, _, _, _ => false
/-- a slice's part -/
def chkp (ct : Ctl) : Exo → Scope → (Str → Bool) → Nat → Option Expr → Bool
  | .no, _, _, _, none => true
  | .yes e, sc, fnb, g, some x => chk ct e sc fnb g x
  | _, _, _, _, _ => false
/-- a comprehension's test -/
def chko (ct : Ctl) : Exo → Scope → (Str → Bool) → Nat → List Expr → Bool
  | .no, _, _, _, [] => true
  | .yes e, sc, fnb, g, [x] => chk ct e sc fnb g x
  | _, _, _, _, _ => false
def chkI (ct : Ctl) : Ce.It → Scope → (Str → Bool) → Nat → Expr → Expr → Bool
  | .ex a, sc, fnb, g, _, e => chk ct a sc fnb g e
  | .rng1 a, sc, fnb, g, _, e => match dOne (dCall e) with
    | some (x, a') => chkB sc x "range" && (noStar a' && chk ct a sc fnb g a')
    | none => false
  | .rng2 a b, sc, fnb, g, _, e => match dTwo (dCall e) with
    | some (x, a', b') => chkB sc x "range" && ((noStar a' && noStar b') && (chk ct a sc fnb g a' && chk ct b sc fnb g b'))
    | none => false
  | .enum a, sc, fnb, g, tg, e => match dOne (dCall e) with
    | some (x, a') => (chkB sc x "enumerate" && (dTup tg).isSome) && (noStar a' && chk ct a sc fnb g a')
    | none => false
  | .zip a b, sc, fnb, g, tg, e => match dTwo (dCall e) with
    | some (x, a', b') => (chkB sc x "zip" && (dTup tg).isSome) && ((noStar a' && noStar b') && (chk ct a sc fnb g a' && chk ct b sc fnb g b'))
    | none => false
  | .rv a, sc, fnb, g, _, e => match dOne (dCall e) with
    | some (x, a') => chkB sc x "reversed" && (noStar a' && chk ct a sc fnb g a')
    | none => false
  | .rrng i, sc, fnb, g, _, e => match dOne (dCall e) with
    | some (x, a') => chkB sc x "reversed" && (noStar a' && chkR ct i sc fnb g a')
    | none => false
/-- a range as an argument -/
def chkR (ct : Ctl) : Ce.It → Scope → (Str → Bool) → Nat → Expr → Bool
  | .rng1 a, sc, fnb, g, e => match dOne (dCall e) with
    | some (x, a') => chkB sc x "range" && (noStar a' && chk ct a sc fnb g a')
    | none => false
  | .rng2 a b, sc, fnb, g, e => match dTwo (dCall e) with
    | some (x, a', b') => chkB sc x "range" && ((noStar a' && noStar b') && (chk ct a sc fnb g a' && chk ct b sc fnb g b'))
    | none => false
  | _, _, _, _, _ => false
end

/-- what makes its value anew (or makes a value that is no list) -/
def isNew : Ex → Bool
  | .var _ => false
  | .and _ _ => false
  | .or _ _ => false
  | .sub _ _ => false
  | .call _ _ => false
  | .ife _ a b => isNew a && isNew b
  | _ => true

/-! ### readings -/
def tO (c : Cfg) (Φ : Fns) (o : Exo) : TT := fun σ H Q => ∃ F ρ b, StE c F H σ ρ ∧ tsto Φ o ρ = some b ∧ ∀ H' F', Ext c F H F' H' → Q b H'
def tP (c : Cfg) (Φ : Fns) (o : Exo) : TO := fun σ H Q => ∃ F ρ b, StE c F H σ ρ ∧ evo Φ o ρ = some b ∧ ∀ H' F', Ext c F H F' H' → Q b H'
structure Feeds (c : Cfg) (full : Bool) (F H : Hp) (J : L2.It) (ds : List PyData) : Prop where
  run : ∀ F1 H1, (if full = true then Ok c F1 H1 ∧ ∀ a o, F a = some o → F1 a = some o else Ext c F H F1 H1) → ∀ i, (i < ds.length → J.go i H1) ∧ (∀ d, ds[i]? = some d → ∀ x H2, J.yld i H1 x H2 → ∃ F2, Ext c F1 H1 F2 H2 ∧ Dp c.K F2 x d) ∧ (ds.length ≤ i → J.stop i H1)
def tI (c : Cfg) (Φ : Fns) (bor : Bool) (it : Ce.It) : TI := fun σ H R => ∃ F ρ ds, StE c F H σ ρ ∧ itms Φ it ρ bor = some ds ∧ ∀ J H' F', Ext c F H F' H' → Feeds c (!bor) F' H' J ds → R J H'
def tG (c : Cfg) (t : Tg) : TG := fun v σ H Q => ∃ F ρ d ρ', StE c F H σ ρ ∧ Dp c.K F v d ∧ bindT t d ρ = some ρ' ∧ ∀ σ', StE c F H σ' ρ' → (∀ vs, (∀ i ∈ slots t, i ∈ vs) → wipe σ' vs = wipe σ vs) → Q σ' H
def tGs (c : Cfg) (t : Tgs) : TGs := fun v σ H Q => ∃ F ρ d ρ', StE c F H σ ρ ∧ DpAll c.K F v d ∧ bindTs t d ρ = some ρ' ∧ ∀ σ', StE c F H σ' ρ' → (∀ vs, (∀ i ∈ slotss t, i ∈ vs) → wipe σ' vs = wipe σ vs) → Q σ' H
structure Good (c : Cfg) (Φ : Fns) (X : Cx) (e : Expr) (ex : Ex) : Prop where
  pe : ∀ m : Md, (m = .nw → isNew ex = true) → PE X e (tE c Φ m ex)
  pt : PT X e (tT c Φ ex)
  pw : isBoolOp e = true → PW X e (tT c Φ ex)
end Cs

set_option maxHeartbeats 4000000
/-! The text against the core language: each form. -/
noncomputable section
namespace Cs
open PySem PySem.Spec PyProof.Rows L2 GxR Ce Gx

theorem Fin.base {c : Cfg} {m : Md} {F H F1 H1 F' H' : Hp} {v : V} {d : PyData} (e : Ext c F H F1 H1) (h : Fin c m F1 H1 F' H' v d) : Fin c m F H F' H' v d := by
  cases m with
  | fr => exact h
  | bo => exact h
  | nw =>
    dsimp only [Fin] at h ⊢
    split
    · rename_i hm
      rw [if_pos hm] at h
      obtain ⟨a, o, h1, h2, h3, h4, h5⟩ := h
      exact ⟨a, o, h1, h2, e.grow a h3, h4, h5⟩
    · rename_i hm
      rw [if_neg hm] at h
      exact h
section
variable {c : Cfg} {Φ : Fns} {F H : Hp} {σ : L2.St} {ρ : Rho}
theorem kont {F1 H1 : Hp} {m : Md} {d : PyData} {Q : VK} (e : Ext c F H F1 H1) (k : ∀ v H' F', Ext c F H F' H' → Fin c m F H F' H' v d → Q v H') : ∀ v H' F', Ext c F1 H1 F' H' → Fin c m F1 H1 F' H' v d → Q v H' := fun v H' F' e3 f3 => k v H' F' (e.trans e3) (f3.base e)
theorem ev1 {a : Ex} {x : PyData} {R : V → Hp → Prop} (s : StE c F H σ ρ) (ea : ev Φ a ρ true = some x) (k : ∀ v F1 H1, Ext c F H F1 H1 → Rq c.K F1 H1 v x → R v H1) : tE c Φ .bo a σ H R := ⟨F, ρ, x, s, ea, fun v H1 F1 e r => k v F1 H1 e r⟩
theorem ev2 {a b : Ex} {x y : PyData} {R : V → V → Hp → Prop} (s : StE c F H σ ρ) (ea : ev Φ a ρ true = some x) (eb : ev Φ b ρ true = some y)
    (k : ∀ v w F1 H1, Ext c F H F1 H1 → Rq c.K F1 H1 v x → Rq c.K F1 H1 w y → R v w H1) : tE c Φ .bo a σ H fun v H1 => tE c Φ .bo b σ H1 fun w H2 => R v w H2 :=
  ev1 s ea fun v F1 H1 e r => ev1 (s.ext e) eb fun w F2 H2 e2 r2 => k v w F2 H2 (e.trans e2) (r.ext e2) r2
theorem wipe_set {σ : L2.St} {i : Nat} {x : Option V} {vs : List Nat} (h : i ∈ vs) : wipe (σ.set i x) vs = wipe σ vs := by
  induction vs with
  | nil => cases h
  | cons v vs ih =>
    unfold wipe
    by_cases hi : i ∈ vs
    · rw [ih hi]
    · have hv : i = v := by
        rcases List.mem_cons.mp h with z | z
        · exact z
        · exact absurd z hi
      subst hv
      have : ∀ (us : List Nat) , i ∉ us → wipe (σ.set i x) us = (wipe σ us).set i x := by
        intro us
        induction us with
        | nil => intro _; rfl
        | cons u us ih2 =>
          intro hn
          unfold wipe
          rw [ih2 (fun z => hn (List.mem_cons_of_mem _ z))]
          exact List.set_comm _ _ (fun e => hn (by rw [e]; exact List.mem_cons_self))
      rw [this vs hi, List.set_set]
theorem wipe_idem {σ : L2.St} (vs : List Nat) : wipe (wipe σ vs) vs = wipe σ vs := by
  have : ∀ us : List Nat, (∀ i ∈ us, i ∈ vs) → wipe (wipe σ us) vs = wipe σ vs := by
    intro us
    induction us with
    | nil => intro _; rfl
    | cons u us ih =>
      intro h
      show wipe ((wipe σ us).set u none) vs = _
      rw [wipe_set (h u List.mem_cons_self)]
      exact ih fun i hi => h i (List.mem_cons_of_mem _ hi)
  exact this vs fun i hi => hi
/-- the new list's place is written again -/
theorem Ext.put {F H F' H' : Hp} {D : Addr} {u0 : HO} (e : Ext c F H F' H') (hn : H D = none) (hf : F' D = none) (hd : H' D = some u0) (hu : ∀ ps, u0 ≠ .tbl ps) (u : HO) : Ext c F H F' (upd H' D u) := by
  have ne : ∀ a o, H a = some o → a ≠ D := fun a o q z => by rw [z, hn] at q; cases q
  have tk : ∀ P ps, H' P = some (.tbl ps) → upd H' D u P = some (.tbl ps) := fun P ps q => by
    have z : P ≠ D := fun z => by rw [z, hd] at q; cases q; exact hu _ rfl
    rw [upd_ne z]; exact q
  refine ⟨fun a o h q => by rw [upd_ne (ne a o q)]; exact e.keep a o h q, e.fk, e.fn, fun a q => ?_, ⟨fun P hP => (e.ok.tab P hP).mono (fun _ _ q => q) (tk P), fun c1 P1 q => (e.ok.tabs _ _ q).mono (fun _ _ q => q) (tk P1), e.ok.fr, fun a o q => ?_, e.ok.nt⟩⟩
  · by_cases z : a = D
    · rw [z]; exact hn
    · rw [upd_ne z] at q; exact e.grow a q
  · have z : a ≠ D := fun z => by rw [z, hf] at q; cases q
    rw [upd_ne z]; exact e.ok.fh a o q
/-- an object that is changed no more -/
theorem Ext.frz {F H F' H' : Hp} {D : Addr} {u : HO} (e : Ext c F H F' H') (hn : H D = none) (hf : F' D = none) (hd : H' D = some u) (hu : ∀ ps, u ≠ .tbl ps) (hx : ∀ f, u ≠ .ext f := by intro f z; cases z) : Ext c F H (upd F' D u) H' := by
  have up : ∀ a o, F' a = some o → upd F' D u a = some o := fun a o q => by
    have z : a ≠ D := fun z => by rw [z, hf] at q; cases q
    rw [upd_ne z]; exact q
  refine ⟨e.keep, fun a o q => up a o (e.fk a o q), fun a o q => ?_, e.grow, ⟨fun P hP => (e.ok.tab P hP).mono up fun _ q => q, fun c1 P1 q => ?_, fun q hq => up _ _ (e.ok.fr q hq), fun a o q => ?_, fun a ps q => ?_⟩⟩
  · by_cases z : a = D
    · rw [z]; exact .inr hn
    · rw [upd_ne z] at q; exact e.fn a o q
  · by_cases z : c1 = D
    · rw [z, upd_same] at q
      exact absurd (Option.some.inj q) (hx _)
    · rw [upd_ne z] at q
      exact (e.ok.tabs _ _ q).mono up fun _ q => q
  · by_cases z : a = D
    · rw [z, upd_same] at q; cases q; rw [z]; exact hd
    · rw [upd_ne z] at q; exact e.ok.fh a o q
  · by_cases z : a = D
    · rw [z, upd_same] at q; cases q; exact hu ps rfl
    · rw [upd_ne z] at q; exact e.ok.nt a ps q
/-- the list at D, whole now -/
theorem fin_at {m : Md} {F H F' H' : Hp} {D : Addr} {acc : List V} {ys : List PyData} {Q : VK} (e : Ext c F H F' H') (hn : H D = none) (hf : F' D = none) (hd : H' D = some (.lst acc)) (h : DpAll c.K F' acc ys)
    (k : ∀ v H' F', Ext c F H F' H' → Fin c m F H F' H' v (.list ys) → Q v H') : Q (.ref D) H' := by
  have e2 := e.frz hn hf hd (fun ps z => by cases z)
  have up : ∀ a o, (∀ ps, o ≠ .tbl ps) → F' a = some o → upd F' D (.lst acc) a = some o := fun a o _ q => by
    have z : a ≠ D := fun z => by rw [z, hf] at q; cases q
    rw [upd_ne z]; exact q
  have hdp : Dp c.K (upd F' D (.lst acc)) (.ref D) (.list ys) := .lst (SqL.of upd_same) (dpAll_mono up _ _ h)
  cases m with
  | fr => exact k _ _ _ e2 hdp
  | bo => exact k _ _ _ e2 (.inl hdp)
  | nw =>
    refine k (.ref D) H' F' e ?_
    dsimp only [Fin]
    rw [if_pos (show isMut (PyData.list ys) = true from rfl)]
    exact ⟨D, .lst acc, rfl, hf, hn, hd, h⟩

/-! ### sources -/
theorem Feeds.weak {full : Bool} {J : L2.It} {ds : List PyData} (h : Feeds c true F H J ds) : Feeds c full F H J ds := by
  refine ⟨fun F1 H1 q => h.run F1 H1 ?_⟩
  cases full with
  | true => exact q
  | false =>
    have q : Ext c F H F1 H1 := q
    exact ⟨q.ok, q.fk⟩
theorem feeds_list {a : Addr} {xs : List V} {ds : List PyData} (hs : SqL c.K F a xs) (h : DpAll c.K F xs ds) : Feeds c true F H (Itl c.K a) ds := by
  refine ⟨fun F1 H1 q i => ?_⟩
  obtain ⟨o, fk⟩ : Ok c F1 H1 ∧ ∀ a o, F a = some o → F1 a = some o := q
  have fkT : ∀ a o, (∀ ps, o ≠ HO.tbl ps) → F a = some o → F1 a = some o := fun a o _ q => fk a o q
  have s1 : SqL c.K H1 a xs := sql_mono o.fhT (sql_mono fkT hs)
  have hl := DpAll.length h
  refine ⟨fun hi => ⟨xs, xs[i], s1, by simp [hl, hi]⟩, fun d hd x H2 y => ?_, fun hi => ⟨xs, s1, by omega⟩⟩
  obtain ⟨rfl, y⟩ : H2 = H1 ∧ ∀ xs, SqL c.K H1 a xs → xs[i]? = some x := y
  obtain ⟨d', h1, h2⟩ := DpAll.get h (y xs s1)
  rw [hd] at h1; cases h1
  exact ⟨F1, Ext.refl o, dp_mono fkT _ _ h2⟩
theorem feeds_listB {a : Addr} {xs : List V} {ds : List PyData} (hs : H a = some (.lst xs)) (h : DpAll c.K F xs ds) : Feeds c false F H (Itl c.K a) ds := by
  refine ⟨fun F1 H1 q i => ?_⟩
  have e : Ext c F H F1 H1 := q
  have s1 : SqL c.K H1 a xs := SqL.of (e.keep a _ (fun ps z => by cases z) hs)
  have hl := DpAll.length h
  refine ⟨fun hi => ⟨xs, xs[i], s1, by simp [hl, hi]⟩, fun d hd x H2 y => ?_, fun hi => ⟨xs, s1, by omega⟩⟩
  obtain ⟨rfl, y⟩ : H2 = H1 ∧ ∀ xs, SqL c.K H1 a xs → xs[i]? = some x := y
  obtain ⟨d', h1, h2⟩ := DpAll.get h (y xs s1)
  rw [hd] at h1; cases h1
  exact ⟨F1, Ext.refl e.ok, dp_mono e.fkT _ _ h2⟩
theorem feeds_tup {a : Addr} {xs : List V} {ds : List PyData} (hs : SqT c.K F a xs) (h : DpAll c.K F xs ds) : Feeds c true F H (Itt c.K a) ds := by
  refine ⟨fun F1 H1 q i => ?_⟩
  obtain ⟨o, fk⟩ : Ok c F1 H1 ∧ ∀ a o, F a = some o → F1 a = some o := q
  have fkT : ∀ a o, (∀ ps, o ≠ HO.tbl ps) → F a = some o → F1 a = some o := fun a o _ q => fk a o q
  have s1 : SqT c.K H1 a xs := sqt_mono o.fhT (sqt_mono fkT hs)
  have hl := DpAll.length h
  refine ⟨fun hi => ⟨xs, xs[i], s1, by simp [hl, hi]⟩, fun d hd x H2 y => ?_, fun hi => ⟨xs, s1, by omega⟩⟩
  obtain ⟨rfl, y⟩ : H2 = H1 ∧ ∀ xs, SqT c.K H1 a xs → xs[i]? = some x := y
  obtain ⟨d', h1, h2⟩ := DpAll.get h (y xs s1)
  rw [hd] at h1; cases h1
  exact ⟨F1, Ext.refl o, dp_mono fkT _ _ h2⟩
theorem feeds_rng {lo : Int} {n : Nat} : Feeds c true F H (Itr lo n) ((List.range n).map fun k => PyData.int (lo + (k : Nat))) := by
  refine ⟨fun F1 H1 q i => ?_⟩
  obtain ⟨o, fk⟩ : Ok c F1 H1 ∧ ∀ a o, F a = some o → F1 a = some o := q
  have hl : ((List.range n).map fun k => PyData.int (lo + (k : Nat))).length = n := by simp
  rw [hl]
  refine ⟨fun hi => hi, fun d hd x H2 y => ?_, fun hi => hi⟩
  obtain ⟨rfl, rfl⟩ : H2 = H1 ∧ x = .int (lo + i) := y
  have hi : i < n := by
    have := (List.getElem?_eq_some_iff.mp hd).1
    rw [hl] at this; exact this
  rw [List.getElem?_map, List.getElem?_range hi] at hd
  cases hd
  exact ⟨F1, Ext.refl o, .int _⟩
theorem feeds_enum {full : Bool} {a : Addr} {ds : List PyData} (h : Feeds c full F H (Itl c.K a) ds) : Feeds c full F H (Ite c.K a) (enumd ds) := by
  refine ⟨fun F1 H1 q i => ?_⟩
  obtain ⟨h1, h2, h3⟩ := h.run F1 H1 q i
  have hl : (enumd ds).length = ds.length := by simp [enumd]
  rw [hl]
  have o : Ok c F1 H1 := by
    cases full with
    | true => exact q.1
    | false => exact Ext.ok q
  refine ⟨fun hi => ?_, fun d hd x H2 y => ?_, fun hi => ?_⟩
  · obtain ⟨xs, x, a1, a2⟩ := h1 hi
    exact ⟨xs, x, a1, a2⟩
  · obtain ⟨T, x', rfl, hT, rfl, y⟩ : ∃ T x', x = V.ref T ∧ H1 T = none ∧ H2 = upd H1 T (.tup [.int (i : Nat), x']) ∧ ∀ xs, SqL c.K H1 a xs → xs[i]? = some x' := y
    have hi : i < ds.length := by
      have := (List.getElem?_eq_some_iff.mp hd).1
      rw [hl] at this; exact this
    have e : ds[i]? = some ds[i] := by simp [hi]
    have e2 : (enumd ds)[i]? = some (.tuple [.int i, ds[i]]) := by simp [enumd, hi]
    rw [e2] at hd; cases hd
    obtain ⟨F2, e3, dp⟩ := h2 _ e x' H1 ⟨rfl, y⟩
    have e4 := Ext.newF (u := .tup [.int (i : Nat), x']) e3.ok hT (fun ps z => by cases z)
    exact ⟨_, e3.trans e4, .tup (SqT.of upd_same) (.cons (.int _) (.cons (dp_mono e4.fkT _ _ dp) .nil))⟩
  · obtain ⟨xs, a1, a2⟩ := h3 hi
    exact ⟨xs, a1, a2⟩
theorem feeds_str {z : Str} : Feeds c true F H (Its z) (chrs z) := by
  refine ⟨fun F1 H1 q i => ?_⟩
  obtain ⟨o, fk⟩ : Ok c F1 H1 ∧ ∀ a o, F a = some o → F1 a = some o := q
  have hl : (chrs z).length = z.cps.size := by unfold chrs; rw [List.length_map, Array.length_toList]
  rw [hl]
  refine ⟨fun hi => hi, fun d hd x H2 y => ?_, fun hi => hi⟩
  obtain ⟨rfl, cc, hc, rfl⟩ := y
  unfold chrs at hd
  rw [List.getElem?_map, Array.getElem?_toList, hc] at hd
  cases hd
  exact ⟨F1, Ext.refl o, .str _⟩
theorem feeds_seq {full : Bool} {v : V} {d : PyData} {ds : List PyData} {R : L2.It → Hp → Prop} (o : Ok c F H) (hd : itm? d = some ds) (hf : if full = true then Dp c.K F v d else Rq c.K F H v d) (k : ∀ J, Feeds c full F H J ds → R J H) :
    (∃ a, v = .ref a ∧ (∃ xs, SqL c.K H a xs) ∧ R (Itl c.K a) H) ∨ (∃ a, v = .ref a ∧ (∃ xs, SqT c.K H a xs) ∧ R (Itt c.K a) H) ∨ ∃ y, v = .str y ∧ R (Its y) H := by
  have main : Dp c.K F v d → (∃ a, v = .ref a ∧ (∃ xs, SqL c.K H a xs) ∧ R (Itl c.K a) H) ∨ (∃ a, v = .ref a ∧ (∃ xs, SqT c.K H a xs) ∧ R (Itt c.K a) H) ∨ ∃ y, v = .str y ∧ R (Its y) H := fun hf => by
    cases d <;> simp [itm?] at hd
    · subst hd
      cases hf with
      | str => exact .inr (.inr ⟨_, rfl, k _ feeds_str.weak⟩)
    · subst hd
      cases hf with
      | lst hs ha => exact .inl ⟨_, rfl, ⟨_, sql_mono o.fhT hs⟩, k _ (feeds_list hs ha).weak⟩
    · subst hd
      cases hf with
      | tup hs ha => exact .inr (.inl ⟨_, rfl, ⟨_, sqt_mono o.fhT hs⟩, k _ (feeds_tup hs ha).weak⟩)
  cases full with
  | true => exact main hf
  | false =>
    have hf : Rq c.K F H v d := hf
    rcases hf with hf | ⟨a, xs, ds', rfl, rfl, h3, h4⟩
    · exact main hf
    · cases hd
      exact .inl ⟨a, rfl, ⟨xs, SqL.of h3⟩, k _ (feeds_listB h3 h4)⟩
end
end Cs

set_option maxHeartbeats 4000000
/-! The text against the core language: targets, comprehensions. -/
noncomputable section
namespace Cs
open PySem PySem.Spec PyProof.Rows L2 GxR Ce Gx
section
variable {c : Cfg} {ct : Ctl} {Φ : Fns} {lf : Nat}
theorem bindT_len : ∀ (t : Tg) (d : PyData) (ρ ρ' : Rho), bindT t d ρ = some ρ' → True := fun _ _ _ _ _ => trivial
mutual
theorem sG : ∀ (t : Tg) {X : Cx} {sc : Scope} {fnb : Str → Bool} {g : Nat} {e : Expr}, CtxOk c ct Φ lf X sc fnb g → chkT ct t sc fnb e = true → PG X e (tG c t)
  | .nm i, X, sc, fnb, g, e, C, h => by
    unfold chkT at h
    split at h
    · rename_i x hx
      rw [Bool.and_eq_true, decide_eq_true_eq] at h
      obtain ⟨p, rfl⟩ := xName_ok hx
      obtain ⟨h1, h2⟩ := stoB_ok h.2
      refine ⟨fun pins s σ H v u Q I r q => ?_⟩
      refine (pg_name (pos := p) (by rw [C.N]; exact C.nd) (by rw [C.N]; exact h.1) (by rw [C.sc]; exact h1) (by rw [C.sc, C.fn]; exact h2)).run pins s σ H v u Q I r ?_
      obtain ⟨F, ρ, d, ρ', st, hd, hb, k⟩ := q
      simp only [bindT] at hb
      split at hb <;> try (cases hb; done)
      cases hb
      exact k _ (st.set hd) fun vs hv => wipe_set (hv i (by simp [slots]))
    · cases h
  | .tp ts, X, sc, fnb, g, e, C, h => by
    unfold chkT at h
    split at h
    · rename_i xs hx
      rw [Bool.and_eq_true] at h
      obtain ⟨k, p, rfl⟩ := dTup_ok hx
      obtain ⟨l1, l2⟩ := assign_len (env := X.env) h.1
      refine ⟨fun pins s σ H v u Q I r q => ?_⟩
      refine (pg_tup (k := k) (pos := p) C.calm (sGs ts C h.2) l1 l2).run pins s σ H v u Q I r ?_
      obtain ⟨F, ρ, d, ρ', st, hd, hb, kk⟩ := q
      cases d <;> try (simp [bindT] at hb; done)
      rename_i ds
      simp only [bindT] at hb
      cases hd with
      | tup hs ha =>
        rename_i a vs
        refine ⟨a, vs, rfl, by rw [← C.K]; exact sqt_mono st.ok.fhT hs, ?_, F, ρ, ds, ρ', st, ha, hb, fun σ' s' hw => kk σ' s' fun us hu => hw us fun i hi => hu i (by simpa [slots] using hi)⟩
        rw [DpAll.length ha]
        have : ∀ (ts : Tgs) (ds : List PyData) (ρ ρ' : Rho) (xs : List Expr), bindTs ts ds ρ = some ρ' → chkTs ct ts sc fnb xs = true → ds.length = xs.length := by
          intro ts
          induction ts using Tgs.rec (motive_1 := fun _ => True) with
          | nm i => trivial
          | tp ts ih => trivial
          | nil =>
            intro ds ρ ρ' xs hb hc
            cases ds <;> simp [bindTs] at hb
            cases xs <;> simp [chkTs] at hc
            rfl
          | cons t ts ih1 ih2 =>
            intro ds ρ ρ' xs hb hc
            cases ds with
            | nil => simp [bindTs] at hb
            | cons d ds =>
              cases xs with
              | nil => simp [chkTs] at hc
              | cons x xs =>
                simp only [bindTs, Option.bind_eq_some_iff] at hb
                obtain ⟨ρ1, _, hb⟩ := hb
                simp only [chkTs, Bool.and_eq_true] at hc
                rw [List.length_cons, List.length_cons, ih2 ds ρ1 ρ' xs hb hc.2]
        exact this ts ds ρ ρ' xs hb h.2
    · cases h
theorem sGs : ∀ (t : Tgs) {X : Cx} {sc : Scope} {fnb : Str → Bool} {g : Nat} {es : List Expr}, CtxOk c ct Φ lf X sc fnb g → chkTs ct t sc fnb es = true → PGs X es (tGs c t)
  | .nil, X, sc, fnb, g, es, C, h => by
    cases es with
    | cons e es => simp [chkTs] at h
    | nil =>
      refine ⟨fun pins s σ H vs us Q I r q => ?_⟩
      refine pgs_nil.run pins s σ H vs us Q I r ?_
      obtain ⟨F, ρ, d, ρ', st, hd, hb, k⟩ := q
      cases d <;> simp [bindTs] at hb
      cases hd
      subst hb
      exact ⟨rfl, k σ st fun vs _ => rfl⟩
  | .cons t ts, X, sc, fnb, g, es, C, h => by
    cases es with
    | nil => simp [chkTs] at h
    | cons e es =>
      simp only [chkTs, Bool.and_eq_true] at h
      have ns : noStar e = true := by
        cases e <;> first | rfl | (cases t <;> simp [chkT, xName, dTup] at h; done)
      refine ⟨fun pins s σ H vs us Q I r q => ?_⟩
      refine (pgs_cons (sG t C h.1) (sGs ts C h.2) (by rw [assign_cons ns]; rfl)).run pins s σ H vs us Q I r ?_
      obtain ⟨F, ρ, d, ρ', st, hd, hb, k⟩ := q
      cases d with
      | nil => simp [bindTs] at hb
      | cons d ds =>
        simp only [bindTs, Option.bind_eq_some_iff] at hb
        obtain ⟨ρ1, hb1, hb2⟩ := hb
        cases hd with
        | cons h1 h2 =>
          refine ⟨_, _, rfl, F, ρ, d, ρ1, st, h1, hb1, fun σ1 s1 w1 => ⟨F, ρ1, ds, ρ', s1, h2, hb2, fun σ2 s2 w2 => k σ2 s2 fun us hu => ?_⟩⟩
          rw [w2 us fun i hi => hu i (by simp [slotss, hi]), w1 us fun i hi => hu i (by simp [slotss, hi])]
end

/-! ### a list comprehension's turns -/
theorem lc_go {Ex0 : Ex} {t : Tg} {ifs : Exo} {F H F1 H1 : Hp} {σ : L2.St} {ρ : Rho} {J : L2.It} {ds ys : List PyData} {m : Md} {Q : VK} (e1 : Ext c F H F1 H1) (s : StE c F H σ ρ) (fd : Feeds c false F1 H1 J ds) (hl : ds.length ≤ LIM)
    (hy : lcF (fun d => (bindT t d (wipeR ρ (slots t))).bind fun ρ1 => (tsto Φ ifs ρ1).bind fun b => if b = true then (ev Φ Ex0 ρ1 false).map some else some none) ds = some ys)
    (k : ∀ v H' F', Ext c F H F' H' → Fin c m F H F' H' v (.list ys) → Q v H') : ∀ D, H1 D = none → ∃ W : Nat → Nat → Hp → Prop, (∃ m, W 0 m (upd H1 D (.lst []))) ∧ ∀ i m H, W i m H →
      (J.stop i H ∧ Q (.ref D) H) ∨ (J.go i H ∧ ∃ Nx : Hp → Prop, (∀ H', Nx H' → ∃ m', m' < m ∧ W (i + 1) m' H') ∧ ∀ x H', J.yld i H x H' → tG c t x (wipe σ (slots t)) H' fun σ2 H2 => wipe σ2 (slots t) = wipe σ (slots t) ∧ tO c Φ ifs σ2 H2 fun b H3 =>
        if b = true then tE c Φ .fr Ex0 σ2 H3 fun y H4 => ∃ acc, H4 D = some (.lst acc) ∧ acc.length < sizeLine ∧ Nx (upd H4 D (.lst (acc ++ [y]))) else Nx H3) := by
  intro D hD
  generalize hf : (fun d => (bindT t d (wipeR ρ (slots t))).bind fun ρ1 => (tsto Φ ifs ρ1).bind fun b => if b = true then (ev Φ Ex0 ρ1 false).map some else some none) = f at hy
  have W0 : ∃ W : Nat → Nat → Hp → Prop, W = fun i m H' => ∃ F' acc done, m = ds.length - i ∧ i ≤ ds.length ∧ Ext c F1 H1 F' H' ∧ F' D = none ∧ H' D = some (.lst acc) ∧ DpAll c.K F' acc done ∧ acc.length ≤ i ∧ (lcF f (ds.drop i)).map (done ++ ·) = some ys := ⟨_, rfl⟩
  obtain ⟨W, hW⟩ := W0
  have fD : F1 D = none := by
    cases q : F1 D with
    | none => rfl
    | some u => rw [e1.ok.fh D u q] at hD; cases hD
  have nl : ∀ (xs : List V) ps, HO.lst xs ≠ .tbl ps := fun xs ps z => by cases z
  refine ⟨W, ⟨ds.length, ?_⟩, fun i n H' w => ?_⟩
  · rw [hW]
    exact ⟨F1, [], [], by simp, Nat.zero_le _, Ext.new e1.ok hD (nl _), fD, upd_same, .nil, Nat.zero_le _, by simp [hy]⟩
  · rw [hW] at w
    obtain ⟨F', acc, done, rfl, hi, e2, fD2, hD2, ha, hal, hr⟩ := w
    obtain ⟨r1, r2, r3⟩ := fd.run F' H' e2 i
    by_cases hlt : i < ds.length
    · refine .inr ⟨r1 hlt, W (i + 1) (ds.length - (i + 1)), fun H2 w2 => ⟨_, by omega, w2⟩, fun x H2 y => ?_⟩
      have hd : ds[i]? = some ds[i] := by simp [hlt]
      obtain ⟨F2, e3, dp⟩ := r2 _ hd x H2 y
      rw [List.drop_eq_getElem_cons hlt] at hr
      simp only [lcF] at hr
      rw [Option.map_eq_some_iff] at hr
      obtain ⟨rest, hr, hys⟩ := hr
      rw [Option.bind_eq_some_iff] at hr
      obtain ⟨r, hfr, hr⟩ := hr
      rw [← hf] at hfr
      simp only [Option.bind_eq_some_iff] at hfr
      obtain ⟨ρ1, hb, b, ht, hv⟩ := hfr
      have s2 : StE c F2 H2 (wipe σ (slots t)) (wipeR ρ (slots t)) := ((s.ext e1).ext (e2.trans e3)).wipe _
      refine ⟨F2, wipeR ρ (slots t), ds[i], ρ1, s2, dp, hb, fun σ2 s3 hw => ⟨by rw [hw _ (fun i hi => hi), wipe_idem], F2, ρ1, b, s3, ht, fun H3 F3 e4 => ?_⟩⟩
      have nxt : ∀ {F4 H4 : Hp}, Ext c F2 H2 F4 H4 → F4 D = none ∧ H4 D = some (.lst acc) ∧ Ext c F1 H1 F4 H4 ∧ DpAll c.K F4 acc done := fun {F4 H4} e5 => by
        have e6 := e3.trans e5
        refine ⟨?_, e6.keep D _ (nl _) hD2, e2.trans e6, dpAll_mono e6.fkT _ _ ha⟩
        cases q : F4 D with
        | none => rfl
        | some u =>
          rcases e6.fn D u q with z | z
          · rw [fD2] at z; cases z
          · rw [hD2] at z; cases z
      cases b with
      | false =>
        simp only [Bool.false_eq_true, if_false, Option.some.injEq] at hv ⊢
        subst hv
        obtain ⟨n1, n2, n3, n4⟩ := nxt e4
        rw [hW]
        have hr : lcF f (ds.drop (i + 1)) = some rest := hr
        exact ⟨F3, acc, done, rfl, hlt, n3, n1, n2, n4, Nat.le_succ_of_le hal, by rw [hr]; simp [hys]⟩
      | true =>
        simp only [if_true, Option.map_eq_some_iff] at hv ⊢
        obtain ⟨y0, hy0, rfl⟩ := hv
        refine ⟨F3, ρ1, y0, s3.ext e4, hy0, fun v H4 F4 e5 f5 => ?_⟩
        obtain ⟨n1, n2, n3, n4⟩ := nxt (e4.trans e5)
        simp only [Option.map_eq_some_iff] at hr
        obtain ⟨rest', hr', rfl⟩ := hr
        refine ⟨acc, n2, by rw [← lim_eq]; omega, ?_⟩
        rw [hW]
        exact ⟨F4, acc ++ [v], done ++ [y0], rfl, hlt, n3.put hD n1 n2 (nl _) _, n1, upd_same, DpAll.append n4 (.cons f5 .nil), by simp; omega, by rw [hr']; simp [← hys]⟩
    · have hi' : i = ds.length := by omega
      refine .inl ⟨r3 (by omega), ?_⟩
      subst hi'
      rw [List.drop_length] at hr
      simp only [lcF, Option.map_some, List.append_nil, Option.some.injEq] at hr
      subst hr
      have hDn : H D = none := e1.grow D hD
      exact fin_at (e1.trans e2) hDn fD2 hD2 ha k


/-! ### two clauses -/
theorem dropOw_get (ρ : Rho) (i : Nat) : (dropOw ρ)[i]? = (ρ[i]?).map unOw := by
  unfold dropOw
  rw [List.getElem?_map]
theorem stE_drop {F H F' H' : Hp} {σ : L2.St} {ρ : Rho} (s : StE c F H σ ρ) (o : Ok c F' H') (k : ∀ a o, F a = some o → F' a = some o) : StE c F' H' σ (dropOw ρ) where
  ok := o
  len := by unfold dropOw; rw [List.length_map]; exact s.len
  slot := fun i d h => by
    rw [dropOw_get] at h
    cases q : ρ[i]? with
    | none => rw [q] at h; cases h
    | some x =>
      rw [q] at h
      cases x with
      | fz d' =>
        cases h
        obtain ⟨v, h1, h2⟩ := s.slot i d q
        exact ⟨v, h1, dp_mono (fun a o _ z => k a o z) _ _ h2⟩
      | un => cases h
      | ow d' => cases h
  own := fun i d h => by
    rw [dropOw_get] at h
    cases q : ρ[i]? with
    | none => rw [q] at h; cases h
    | some x => rw [q] at h; cases x <;> cases h
theorem lc_go2 {Ex0 : Ex} {t t1 : Tg} {ifs ifs1 : Exo} {i1 : Ce.It} {F H F1 H1 : Hp} {σ : L2.St} {ρ : Rho} {J : L2.It} {ds ys : List PyData} {m : Md} {Q : VK} (e1 : Ext c F H F1 H1) (s : StE c F H σ ρ) (fd : Feeds c false F1 H1 J ds) (hl : ys.length ≤ LIM)
    (hy : lcN (fun d => (bindT t d (wipeR ρ (slots t ++ slots t1))).bind fun ρ1 => (tsto Φ ifs ρ1).bind fun b => if b = true then (itms Φ i1 (dropOw ρ1) false).bind fun ds1 => lcF (fun d1 => (bindT t1 d1 (wipeR (dropOw ρ1) (slots t1))).bind fun ρ2 => (tsto Φ ifs1 ρ2).bind fun b1 => if b1 = true then (ev Φ Ex0 ρ2 false).map some else some none) ds1 else some []) ds = some ys)
    (k : ∀ v H' F', Ext c F H F' H' → Fin c m F H F' H' v (.list ys) → Q v H') : ∀ D, H1 D = none → ∃ W : Nat → Nat → Hp → Prop, (∃ m, W 0 m (upd H1 D (.lst []))) ∧ ∀ i m H, W i m H →
      (J.stop i H ∧ Q (.ref D) H) ∨ (J.go i H ∧ ∃ Nx : Hp → Prop, (∀ H', Nx H' → ∃ m', m' < m ∧ W (i + 1) m' H') ∧ ∀ x H', J.yld i H x H' → tG c t x (wipe σ (slots t ++ slots t1)) H' fun σ2 H2 => wipe σ2 (slots t ++ slots t1) = wipe σ (slots t ++ slots t1) ∧ tO c Φ ifs σ2 H2 fun b H3 =>
        if b = true then tI c Φ false i1 σ2 H3 fun J1 H4 => ∃ W1 : Nat → Nat → Hp → Prop, (∃ m, W1 0 m H4) ∧ ∀ j k H, W1 j k H → (J1.stop j H ∧ Nx H) ∨ (J1.go j H ∧ ∃ Nx1 : Hp → Prop, (∀ H', Nx1 H' → ∃ k', k' < k ∧ W1 (j + 1) k' H') ∧
          ∀ x H', J1.yld j H x H' → tG c t1 x (wipe σ2 (slots t1)) H' fun σ3 H5 => wipe σ3 (slots t1) = wipe σ2 (slots t1) ∧ tO c Φ ifs1 σ3 H5 fun b H6 =>
            if b = true then tE c Φ .fr Ex0 σ3 H6 fun y H7 => ∃ acc, H7 D = some (.lst acc) ∧ acc.length < sizeLine ∧ Nx1 (upd H7 D (.lst (acc ++ [y]))) else Nx1 H6) else Nx H3) := by
  intro D hD
  generalize hf : (fun d => (bindT t d (wipeR ρ (slots t ++ slots t1))).bind fun ρ1 => (tsto Φ ifs ρ1).bind fun b => if b = true then (itms Φ i1 (dropOw ρ1) false).bind fun ds1 => lcF (fun d1 => (bindT t1 d1 (wipeR (dropOw ρ1) (slots t1))).bind fun ρ2 => (tsto Φ ifs1 ρ2).bind fun b1 => if b1 = true then (ev Φ Ex0 ρ2 false).map some else some none) ds1 else some []) = f at hy
  have W0 : ∃ W : Nat → Nat → Hp → Prop, W = fun i m H' => ∃ F' acc done, m = ds.length - i ∧ i ≤ ds.length ∧ Ext c F1 H1 F' H' ∧ F' D = none ∧ H' D = some (.lst acc) ∧ DpAll c.K F' acc done ∧ (lcN f (ds.drop i)).map (done ++ ·) = some ys := ⟨_, rfl⟩
  obtain ⟨W, hW⟩ := W0
  have fD : F1 D = none := by
    cases q : F1 D with
    | none => rfl
    | some u => rw [e1.ok.fh D u q] at hD; cases hD
  have nl : ∀ (xs : List V) ps, HO.lst xs ≠ .tbl ps := fun xs ps z => by cases z
  have nxt : ∀ {F2 H2 F4 H4 : Hp} {acc : List V} {done : List PyData}, Ext c F1 H1 F2 H2 → F2 D = none → H2 D = some (.lst acc) → DpAll c.K F2 acc done → Ext c F2 H2 F4 H4 → F4 D = none ∧ H4 D = some (.lst acc) ∧ Ext c F1 H1 F4 H4 ∧ DpAll c.K F4 acc done := fun {F2 H2 F4 H4 acc done} e2 fD2 hD2 ha e5 => by
    refine ⟨?_, e5.keep D _ (nl _) hD2, e2.trans e5, dpAll_mono e5.fkT _ _ ha⟩
    cases q : F4 D with
    | none => rfl
    | some u =>
      rcases e5.fn D u q with z | z
      · rw [fD2] at z; cases z
      · rw [hD2] at z; cases z
  refine ⟨W, ⟨ds.length, ?_⟩, fun i n H' w => ?_⟩
  · rw [hW]
    exact ⟨F1, [], [], by simp, Nat.zero_le _, Ext.new e1.ok hD (nl _), fD, upd_same, .nil, by simp [hy]⟩
  · rw [hW] at w
    obtain ⟨F', acc, done, rfl, hi, e2, fD2, hD2, ha, hr⟩ := w
    obtain ⟨r1, r2, r3⟩ := fd.run F' H' e2 i
    by_cases hlt : i < ds.length
    · refine .inr ⟨r1 hlt, W (i + 1) (ds.length - (i + 1)), fun H2 w2 => ⟨_, by omega, w2⟩, fun x H2 y => ?_⟩
      have hd : ds[i]? = some ds[i] := by simp [hlt]
      obtain ⟨F2, e3, dp⟩ := r2 _ hd x H2 y
      rw [List.drop_eq_getElem_cons hlt] at hr
      simp only [lcN] at hr
      rw [Option.map_eq_some_iff] at hr
      obtain ⟨rest, hr, hys⟩ := hr
      simp only [Option.bind_eq_some_iff, Option.map_eq_some_iff] at hr
      obtain ⟨here, hfr, rest', hr', rfl⟩ := hr
      rw [← hf] at hfr
      simp only [Option.bind_eq_some_iff] at hfr
      obtain ⟨ρ1, hb, b, ht, hv⟩ := hfr
      have s2 : StE c F2 H2 (wipe σ (slots t ++ slots t1)) (wipeR ρ (slots t ++ slots t1)) := ((s.ext e1).ext (e2.trans e3)).wipe _
      refine ⟨F2, wipeR ρ (slots t ++ slots t1), ds[i], ρ1, s2, dp, hb, fun σ2 s3 hw => ⟨by rw [hw _ (fun i hi => List.mem_append_left _ hi), wipe_idem], F2, ρ1, b, s3, ht, fun H3 F3 e4 => ?_⟩⟩
      obtain ⟨n1, n2, n3, n4⟩ := nxt e2 fD2 hD2 ha (e3.trans e4)
      cases b with
      | false =>
        simp only [Bool.false_eq_true, if_false, Option.some.injEq] at hv ⊢
        subst hv
        rw [hW]
        exact ⟨F3, acc, done, rfl, hlt, n3, n1, n2, n4, by rw [hr']; simpa using hys⟩
      | true =>
        simp only [if_true, Option.bind_eq_some_iff] at hv ⊢
        obtain ⟨ds1, hds1, hin⟩ := hv
        refine ⟨F3, dropOw ρ1, ds1, stE_drop s3 e4.ok e4.fk, hds1, fun J1 H4 F4 e5 fd1 => ?_⟩
        generalize hf1 : (fun d1 => (bindT t1 d1 (wipeR (dropOw ρ1) (slots t1))).bind fun ρ2 => (tsto Φ ifs1 ρ2).bind fun b1 => if b1 = true then (ev Φ Ex0 ρ2 false).map some else some none) = f1 at hin
        have W10 : ∃ W1 : Nat → Nat → Hp → Prop, W1 = fun j m H' => ∃ F' acc done, m = ds1.length - j ∧ j ≤ ds1.length ∧ (∀ a o, F4 a = some o → F' a = some o) ∧ Ext c F1 H1 F' H' ∧ F' D = none ∧ H' D = some (.lst acc) ∧ DpAll c.K F' acc done ∧ (lcF f1 (ds1.drop j)).map (fun z => done ++ (z ++ rest')) = some ys := ⟨_, rfl⟩
        obtain ⟨W1, hW1⟩ := W10
        obtain ⟨m1, m2, m3, m4⟩ := nxt n3 n1 n2 n4 e5
        refine ⟨W1, ⟨ds1.length, ?_⟩, fun j n H5 w => ?_⟩
        · rw [hW1]
          exact ⟨F4, acc, done, by simp, Nat.zero_le _, fun _ _ z => z, m3, m1, m2, m4, by rw [List.drop_zero, hin]; simpa using hys⟩
        · rw [hW1] at w
          obtain ⟨F5, acc, done, rfl, hj, e6, e7, fD5, hD5, ha5, hr5⟩ := w
          obtain ⟨r4, r5, r6⟩ := fd1.run F5 H5 ⟨e7.ok, e6⟩ j
          by_cases hjt : j < ds1.length
          · refine .inr ⟨r4 hjt, W1 (j + 1) (ds1.length - (j + 1)), fun H2 w2 => ⟨_, by omega, w2⟩, fun x H6 y => ?_⟩
            have hd1 : ds1[j]? = some ds1[j] := by simp [hjt]
            obtain ⟨F6, e8, dp1⟩ := r5 _ hd1 x H6 y
            rw [List.drop_eq_getElem_cons hjt] at hr5
            simp only [lcF] at hr5
            rw [Option.map_eq_some_iff] at hr5
            obtain ⟨z, hz, hys5⟩ := hr5
            rw [Option.bind_eq_some_iff] at hz
            obtain ⟨r, hfr1, hz⟩ := hz
            rw [← hf1] at hfr1
            simp only [Option.bind_eq_some_iff] at hfr1
            obtain ⟨ρ2, hb1, b1, ht1, hv1⟩ := hfr1
            have s4 : StE c F6 H6 (wipe σ2 (slots t1)) (wipeR (dropOw ρ1) (slots t1)) := StE.wipe (stE_drop s3 e8.ok fun a o z => e8.fk a o (e6 a o (e5.fk a o (e4.fk a o z)))) _
            refine ⟨F6, wipeR (dropOw ρ1) (slots t1), ds1[j], ρ2, s4, dp1, hb1, fun σ3 s5 hw1 => ⟨by rw [hw1 _ (fun i hi => hi), wipe_idem], F6, ρ2, b1, s5, ht1, fun H7 F7 e9 => ?_⟩⟩
            obtain ⟨p1, p2, p3, p4⟩ := nxt e7 fD5 hD5 ha5 (e8.trans e9)
            cases b1 with
            | false =>
              simp only [Bool.false_eq_true, if_false, Option.some.injEq] at hv1 ⊢
              subst hv1
              have hz : lcF f1 (ds1.drop (j + 1)) = some z := hz
              rw [hW1]
              exact ⟨F7, acc, done, rfl, hjt, fun a o z => e9.fk a o (e8.fk a o (e6 a o z)), p3, p1, p2, p4, by rw [hz]; simp [hys5]⟩
            | true =>
              simp only [if_true, Option.map_eq_some_iff] at hv1 ⊢
              obtain ⟨y0, hy0, rfl⟩ := hv1
              refine ⟨F7, ρ2, y0, s5.ext e9, hy0, fun v H8 F8 e10 f10 => ?_⟩
              obtain ⟨q1, q2, q3, q4⟩ := nxt p3 p1 p2 p4 e10
              simp only [Option.map_eq_some_iff] at hz
              obtain ⟨z', hz', rfl⟩ := hz
              have hlen : acc.length < LIM := by
                have h1 := DpAll.length q4
                have h2 := congrArg List.length hys5
                simp at h2
                omega
              refine ⟨acc, q2, by rw [← lim_eq]; exact hlen, ?_⟩
              rw [hW1]
              exact ⟨F8, acc ++ [v], done ++ [y0], rfl, hjt, fun a o z => e10.fk a o (e9.fk a o (e8.fk a o (e6 a o z))), q3.put hD q1 q2 (nl _) _, q1, upd_same, DpAll.append q4 (.cons f10 .nil), by rw [hz']; simp [← hys5]⟩
          · have hj' : j = ds1.length := by omega
            refine .inl ⟨r6 (by omega), ?_⟩
            subst hj'
            rw [List.drop_length] at hr5
            simp only [lcF, Option.map_some, List.nil_append, Option.some.injEq] at hr5
            rw [hW]
            exact ⟨F5, acc, done, rfl, hlt, e7, fD5, hD5, ha5, by rw [hr']; simp [hr5]⟩
    · have hi' : i = ds.length := by omega
      refine .inl ⟨r3 (by omega), ?_⟩
      subst hi'
      rw [List.drop_length] at hr
      simp only [lcN, Option.map_some, List.append_nil, Option.some.injEq] at hr
      subst hr
      have hDn : H D = none := e1.grow D hD
      exact fin_at (e1.trans e2) hDn fD2 hD2 ha k

/-! ### a generator's turns -/
theorem gen_go {Ex0 : Ex} {t : Tg} {ifs : Exo} {F H F1 H1 : Hp} {σ : L2.St} {ρ : Rho} {J : L2.It} {ds : List PyData} {b0 r : Bool} {m : Md} {Q : VK} (e1 : Ext c F H F1 H1) (s : StE c F H σ ρ) (fd : Feeds c false F1 H1 J ds)
    (hy : genF b0 (fun d => (bindT t d (wipeR ρ (slots t))).bind fun ρ1 => (tsto Φ ifs ρ1).bind fun b => if b = true then (ev Φ Ex0 ρ1 true).bind fun x => match x with
      | .bool r => some (some r)
      | _ => none
    else some none) ds = some r)
    (k : ∀ v H' F', Ext c F H F' H' → Fin c m F H F' H' v (.bool r) → Q v H') : ∀ H2 F2, Ext c F1 H1 F2 H2 → ∃ W : Nat → Nat → Hp → Prop, (∃ m, W 0 m H2) ∧ tTurn b0 J (tG c t) (tO c Φ ifs) (tE c Φ .bo Ex0) (wipe σ (slots t)) (slots t) W (Q (.bl b0)) (Q (.bl (!b0))) := by
  intro H2 F2 e2
  generalize hf : (fun d => (bindT t d (wipeR ρ (slots t))).bind fun ρ1 => (tsto Φ ifs ρ1).bind fun b => if b = true then (ev Φ Ex0 ρ1 true).bind fun x => match x with
      | .bool r => some (some r)
      | _ => none
    else some none) = f at hy
  have W0 : ∃ W : Nat → Nat → Hp → Prop, W = fun i m H' => ∃ F', m = ds.length - i ∧ i ≤ ds.length ∧ Ext c F1 H1 F' H' ∧ genF b0 f (ds.drop i) = some r := ⟨_, rfl⟩
  obtain ⟨W, hW⟩ := W0
  have done : ∀ {F' H'}, Ext c F1 H1 F' H' → Q (.bl r) H' := fun e => fin_val (e1.trans e) (.bl r) (fun _ => rfl) k
  refine ⟨W, ⟨ds.length, ?_⟩, fun i n H' w => ?_⟩
  · rw [hW]; exact ⟨F2, by simp, Nat.zero_le _, e2, hy⟩
  · rw [hW] at w
    obtain ⟨F', rfl, hi, e3, hr⟩ := w
    obtain ⟨r1, r2, r3⟩ := fd.run F' H' e3 i
    by_cases hlt : i < ds.length
    · refine .inr ⟨r1 hlt, W (i + 1) (ds.length - (i + 1)), fun H2 w2 => ⟨_, by omega, w2⟩, fun x H2 y => ?_⟩
      have hd : ds[i]? = some ds[i] := by simp [hlt]
      obtain ⟨F2, e4, dp⟩ := r2 _ hd x H2 y
      rw [List.drop_eq_getElem_cons hlt] at hr
      simp only [genF, Option.bind_eq_some_iff] at hr
      obtain ⟨z, hfr, hr⟩ := hr
      rw [← hf] at hfr
      simp only [Option.bind_eq_some_iff] at hfr
      obtain ⟨ρ1, hb, b, ht, hv⟩ := hfr
      have s2 : StE c F2 H2 (wipe σ (slots t)) (wipeR ρ (slots t)) := ((s.ext e1).ext (e3.trans e4)).wipe _
      refine ⟨F2, wipeR ρ (slots t), ds[i], ρ1, s2, dp, hb, fun σ2 s3 hw => ⟨by rw [hw _ (fun i hi => hi), wipe_idem], F2, ρ1, b, s3, ht, fun H3 F3 e5 => ?_⟩⟩
      cases b with
      | false =>
        simp only [Bool.false_eq_true, if_false, Option.some.injEq] at hv ⊢
        subst hv
        rw [hW]
        exact ⟨F3, rfl, hlt, e3.trans (e4.trans e5), hr⟩
      | true =>
        simp only [if_true] at hv ⊢
        rw [Option.bind_eq_some_iff] at hv
        obtain ⟨x0, hx0, hv⟩ := hv
        cases x0 <;> try (cases hv; done)
        rename_i r0
        cases hv
        refine ⟨F3, ρ1, .bool r0, s3.ext e5, hx0, fun v H4 F4 e6 f6 => ⟨r0, Rq.bl f6, ?_⟩⟩
        by_cases h0 : r0 = b0
        · rw [if_pos h0]
          simp only [h0, if_true] at hr
          rw [hW]
          exact ⟨F4, rfl, hlt, e3.trans (e4.trans (e5.trans e6)), hr⟩
        · rw [if_neg h0]
          simp only [h0, if_false, Option.some.injEq] at hr
          rw [hr]
          exact done (e3.trans (e4.trans (e5.trans e6)))
    · have hi' : i = ds.length := by omega
      refine .inl ⟨r3 (by omega), ?_⟩
      subst hi'
      rw [List.drop_length] at hr
      simp only [genF, Option.some.injEq] at hr
      rw [hr]
      exact done e3
theorem gen_go2 {Ex0 : Ex} {t t1 : Tg} {ifs ifs1 : Exo} {i1 : Ce.It} {F H F1 H1 : Hp} {σ : L2.St} {ρ : Rho} {J : L2.It} {ds : List PyData} {b0 r : Bool} {m : Md} {Q : VK} (e1 : Ext c F H F1 H1) (s : StE c F H σ ρ) (fd : Feeds c false F1 H1 J ds)
    (hy : genF b0 (fun d => (bindT t d (wipeR ρ (slots t ++ slots t1))).bind fun ρ1 => (tsto Φ ifs ρ1).bind fun b => if b = true then (itms Φ i1 (dropOw ρ1) false).bind fun ds1 => (genF b0 (fun d1 => (bindT t1 d1 (wipeR (dropOw ρ1) (slots t1))).bind fun ρ2 => (tsto Φ ifs1 ρ2).bind fun b1 => if b1 = true then (ev Φ Ex0 ρ2 true).bind fun x => match x with
      | .bool r => some (some r)
      | _ => none
    else some none) ds1).map some else some none) ds = some r)
    (k : ∀ v H' F', Ext c F H F' H' → Fin c m F H F' H' v (.bool r) → Q v H') : ∀ H2 F2, Ext c F1 H1 F2 H2 → ∃ W : Nat → Nat → Hp → Prop, (∃ m, W 0 m H2) ∧ tTurn2 b0 J (tG c t) (tO c Φ ifs) (tI c Φ false i1) (tG c t1) (tO c Φ ifs1) (tE c Φ .bo Ex0) (wipe σ (slots t ++ slots t1)) (slots t ++ slots t1) (slots t1) W (Q (.bl b0)) (Q (.bl (!b0))) := by
  intro H2 F2 e2
  generalize hf : (fun d => (bindT t d (wipeR ρ (slots t ++ slots t1))).bind fun ρ1 => (tsto Φ ifs ρ1).bind fun b => if b = true then (itms Φ i1 (dropOw ρ1) false).bind fun ds1 => (genF b0 (fun d1 => (bindT t1 d1 (wipeR (dropOw ρ1) (slots t1))).bind fun ρ2 => (tsto Φ ifs1 ρ2).bind fun b1 => if b1 = true then (ev Φ Ex0 ρ2 true).bind fun x => match x with
      | .bool r => some (some r)
      | _ => none
    else some none) ds1).map some else some none) = f at hy
  generalize hln : (fun d : PyData => match (bindT t d (wipeR ρ (slots t ++ slots t1))).bind fun ρ1 => itms Φ i1 (dropOw ρ1) false with
    | some ds1 => ds1.length + 1
    | none => 1) = ln
  have W0 : ∃ W : Nat → Nat → Hp → Prop, W = fun i m H' => ∃ F', m = ((ds.drop i).map ln).sum ∧ i ≤ ds.length ∧ Ext c F1 H1 F' H' ∧ genF b0 f (ds.drop i) = some r := ⟨_, rfl⟩
  obtain ⟨W, hW⟩ := W0
  have done : ∀ {F' H'}, Ext c F1 H1 F' H' → Q (.bl r) H' := fun e => fin_val (e1.trans e) (.bl r) (fun _ => rfl) k
  refine ⟨W, ⟨(ds.map ln).sum, ?_⟩, fun i n H' w => ?_⟩
  · rw [hW]; exact ⟨F2, by simp, Nat.zero_le _, e2, hy⟩
  · rw [hW] at w
    obtain ⟨F', rfl, hi, e3, hr⟩ := w
    obtain ⟨r1, r2, r3⟩ := fd.run F' H' e3 i
    by_cases hlt : i < ds.length
    · have ln1 : 1 ≤ ln ds[i] := by
        rw [← hln]
        dsimp only
        cases (bindT t ds[i] (wipeR ρ (slots t ++ slots t1))).bind fun ρ1 => itms Φ i1 (dropOw ρ1) false with
        | none => exact Nat.le_refl _
        | some ds1 => exact Nat.le_add_left _ _
      refine .inr ⟨r1 hlt, ln ds[i] - 1, ((ds.drop (i + 1)).map ln).sum, W (i + 1) ((ds.drop (i + 1)).map ln).sum, ?_, fun H2 w2 => w2, fun x H2 y => ?_⟩
      · rw [List.drop_eq_getElem_cons hlt, List.map_cons, List.sum_cons]
        omega
      have hd : ds[i]? = some ds[i] := by simp [hlt]
      obtain ⟨F2, e4, dp⟩ := r2 _ hd x H2 y
      rw [List.drop_eq_getElem_cons hlt] at hr
      simp only [genF, Option.bind_eq_some_iff] at hr
      obtain ⟨z, hfr, hr⟩ := hr
      rw [← hf] at hfr
      simp only [Option.bind_eq_some_iff] at hfr
      obtain ⟨ρ1, hb, b, ht, hv⟩ := hfr
      have s2 : StE c F2 H2 (wipe σ (slots t ++ slots t1)) (wipeR ρ (slots t ++ slots t1)) := ((s.ext e1).ext (e3.trans e4)).wipe _
      refine ⟨F2, wipeR ρ (slots t ++ slots t1), ds[i], ρ1, s2, dp, hb, fun σ2 s3 hw => ⟨by rw [hw _ (fun i hi => List.mem_append_left _ hi), wipe_idem], F2, ρ1, b, s3, ht, fun H3 F3 e5 => ?_⟩⟩
      cases b with
      | false =>
        simp only [Bool.false_eq_true, if_false, Option.some.injEq] at hv ⊢
        subst hv
        rw [hW]
        exact ⟨F3, rfl, hlt, e3.trans (e4.trans e5), hr⟩
      | true =>
        simp only [if_true, Option.bind_eq_some_iff, Option.map_eq_some_iff] at hv ⊢
        obtain ⟨ds1, hds1, c1, hin, rfl⟩ := hv
        have hlen : ln ds[i] - 1 = ds1.length := by
          rw [← hln]
          dsimp only
          rw [hb, Option.bind_some, hds1]
          exact Nat.add_sub_cancel _ _
        refine ⟨F3, dropOw ρ1, ds1, stE_drop s3 e5.ok e5.fk, hds1, fun J1 H4 F4 e6 fd1 => ?_⟩
        generalize hf1 : (fun d1 => (bindT t1 d1 (wipeR (dropOw ρ1) (slots t1))).bind fun ρ2 => (tsto Φ ifs1 ρ2).bind fun b1 => if b1 = true then (ev Φ Ex0 ρ2 true).bind fun x => match x with
          | .bool r => some (some r)
          | _ => none
        else some none) = f1 at hin
        have W10 : ∃ W1 : Nat → Nat → Hp → Prop, W1 = fun j m H' => ∃ F', m = ds1.length - j ∧ j ≤ ds1.length ∧ (∀ a o, F4 a = some o → F' a = some o) ∧ Ext c F1 H1 F' H' ∧ genF b0 f1 (ds1.drop j) = some c1 := ⟨_, rfl⟩
        obtain ⟨W1, hW1⟩ := W10
        refine ⟨W1, ⟨ds1.length, by omega, ?_⟩, fun j n H5 w => ?_⟩
        · rw [hW1]
          exact ⟨F4, by simp, Nat.zero_le _, fun _ _ z => z, e3.trans (e4.trans (e5.trans e6)), hin⟩
        · rw [hW1] at w
          obtain ⟨F5, rfl, hj, e7, e8, hr5⟩ := w
          obtain ⟨r4, r5, r6⟩ := fd1.run F5 H5 ⟨e8.ok, e7⟩ j
          by_cases hjt : j < ds1.length
          · refine .inr ⟨r4 hjt, W1 (j + 1) (ds1.length - (j + 1)), fun H2 w2 => ⟨_, by omega, w2⟩, fun x H6 y => ?_⟩
            have hd1 : ds1[j]? = some ds1[j] := by simp [hjt]
            obtain ⟨F6, e9, dp1⟩ := r5 _ hd1 x H6 y
            rw [List.drop_eq_getElem_cons hjt] at hr5
            simp only [genF, Option.bind_eq_some_iff] at hr5
            obtain ⟨z, hfr1, hr5⟩ := hr5
            rw [← hf1] at hfr1
            simp only [Option.bind_eq_some_iff] at hfr1
            obtain ⟨ρ2, hb1, b1, ht1, hv1⟩ := hfr1
            have s4 : StE c F6 H6 (wipe σ2 (slots t1)) (wipeR (dropOw ρ1) (slots t1)) := StE.wipe (stE_drop s3 e9.ok fun a o z => e9.fk a o (e7 a o (e6.fk a o (e5.fk a o z)))) _
            refine ⟨F6, wipeR (dropOw ρ1) (slots t1), ds1[j], ρ2, s4, dp1, hb1, fun σ3 s5 hw1 => ⟨by rw [hw1 _ (fun i hi => hi), wipe_idem], F6, ρ2, b1, s5, ht1, fun H7 F7 e10 => ?_⟩⟩
            cases b1 with
            | false =>
              simp only [Bool.false_eq_true, if_false, Option.some.injEq] at hv1 ⊢
              subst hv1
              rw [hW1]
              exact ⟨F7, rfl, hjt, fun a o z => e10.fk a o (e9.fk a o (e7 a o z)), e8.trans (e9.trans e10), hr5⟩
            | true =>
              simp only [if_true] at hv1 ⊢
              rw [Option.bind_eq_some_iff] at hv1
              obtain ⟨x0, hx0, hv1⟩ := hv1
              cases x0 <;> try (cases hv1; done)
              rename_i r0
              cases hv1
              refine ⟨F7, ρ2, .bool r0, s5.ext e10, hx0, fun v H8 F8 e11 f8 => ⟨r0, Rq.bl f8, ?_⟩⟩
              by_cases h0 : r0 = b0
              · rw [if_pos h0]
                simp only [h0, if_true] at hr5
                rw [hW1]
                exact ⟨F8, rfl, hjt, fun a o z => e11.fk a o (e10.fk a o (e9.fk a o (e7 a o z))), e8.trans (e9.trans (e10.trans e11)), hr5⟩
              · rw [if_neg h0]
                simp only [h0, if_false, Option.some.injEq] at hr5
                have hne : ¬ c1 = b0 := by
                  rw [← hr5]
                  cases b0 <;> simp
                simp only [hne, if_false, Option.some.injEq] at hr
                rw [hr]
                exact done (e8.trans (e9.trans (e10.trans e11)))
          · have hj' : j = ds1.length := by omega
            refine .inl ⟨r6 (by omega), ?_⟩
            subst hj'
            rw [List.drop_length] at hr5
            simp only [genF, Option.some.injEq] at hr5
            subst hr5
            simp only [if_true] at hr
            rw [hW]
            exact ⟨F5, rfl, hlt, e8, hr⟩
    · have hi' : i = ds.length := by omega
      refine .inl ⟨r3 (by omega), ?_⟩
      subst hi'
      rw [List.drop_length] at hr
      simp only [genF, Option.some.injEq] at hr
      rw [hr]
      exact done e3
end
end Cs

set_option maxHeartbeats 4000000
/-! x[::-1] of a list or a tuple. -/
noncomputable section
namespace HT
open PySem PySem.Spec PyProof.Rows
section
variable {prog : Program} {w : World} {A : Around} {E : Value → Shared → Prop} {s : Shared}
theorem adjust_rev (n : Nat) : Builtin.Slice.sliceAdjust none none (-1) (n : Int) = ((n : Int) - 1, -1) := by
  have h1 : ((-1 : Int) < 0) := by omega
  unfold Builtin.Slice.sliceAdjust
  simp only [h1, if_true]
theorem places_rev (n : Nat) : Builtin.Slice.slicePlaces ((n : Int) - 1) (-1) (-1) = n := by
  unfold Builtin.Slice.slicePlaces
  have h1 : ¬ ((-1 : Int) > 0) := by omega
  simp only [h1, if_false, Int.neg_neg, Int.ediv_one]
  split <;> omega
theorem sliceApplied_rev {sl : Addr} {vl vu vs : Value} {n : Nat} {Q : Int × Int × Nat → Shared → Prop} (hs : s.heap.IsSliceOf sl vl vu vs) (pl : IsPart vl none) (pu : IsPart vu none) (ps : IsPart vs (some (-1)))
    (h : Q ((n : Int) - 1, -1, n) s) : wpAny (model prog w) A (Builtin.Slice.sliceApplied (.ref sl) (pure (n : Int))) Q E s := by
  obtain ⟨os, hos, hcs, hds⟩ := id hs
  unfold Builtin.Slice.sliceApplied Builtin.Slice.sliceFields
  refine wpAny_bind (wpAny_bind (wpAny_field hos hds (x := vl) rfl (wpAny_bind (wpAny_field hos hds (x := vu) rfl (wpAny_bind (wpAny_field hos hds (x := vs) rfl (wpAny_pure ?_)))))))
  refine wpAny_bind (slicePart_ ps ?_)
  show wpAny _ _ (if ((-1 : Int) == 0) = true then _ else _) _ _ s
  rw [if_neg (by decide)]
  refine wpAny_bind (slicePart_ pl (wpAny_bind (slicePart_ pu (wpAny_bind (wpAny_pure ?_)))))
  show wpAny _ _ (match Builtin.Slice.sliceAdjust none none (-1) (n : Int) with | (lo, hi) => pure (lo, (-1 : Int), Builtin.Slice.slicePlaces lo hi (-1))) _ _ s
  rw [adjust_rev n]
  show wpAny _ _ (pure ((n : Int) - 1, (-1 : Int), Builtin.Slice.slicePlaces ((n : Int) - 1) (-1) (-1))) _ _ s
  rw [places_rev]
  exact wpAny_pure h
theorem filterMap_some {α β : Type} {f : α → Option β} {g : α → β} : ∀ {l : List α}, (∀ m ∈ l, f m = some (g m)) → l.filterMap f = l.map g
  | [], _ => rfl
  | m :: l, h => by
    rw [List.filterMap_cons, h m List.mem_cons_self, List.map_cons, filterMap_some fun k hk => h k (List.mem_cons_of_mem _ hk)]
theorem pick_rev (xs : Array Value) : ((List.range xs.size).filterMap fun (m : Nat) => xs[(((xs.size : Int) - 1) + (m : Int) * -1).toNat]?).toArray = xs.toList.reverse.toArray := by
  congr 1
  rw [filterMap_some (g := fun m => (xs.toList.reverse[m]?).getD default)]
  · refine List.ext_getElem (by simp) fun i h1 h2 => ?_
    rw [List.getElem_map, List.getElem_range, List.getElem?_eq_getElem h2]
    rfl
  · intro m hm
    have hm' : m < xs.size := List.mem_range.mp hm
    have e : (((xs.size : Int) - 1) + (m : Int) * -1).toNat = xs.size - 1 - m := by omega
    have hl : m < xs.toList.reverse.length := by simp; exact hm'
    rw [e, List.getElem?_eq_getElem hl, List.getElem_reverse]
    rw [Array.getElem?_eq_getElem (by omega)]
    simp
theorem getItem_tuple_rev {t sl : Addr} {items : Array Value} {vl vu vs : Value} {Q : Value → Shared → Prop} (ht : IsTup s.heap t items) (hs : s.heap.IsSliceOf sl vl vu vs) (pl : IsPart vl none) (pu : IsPart vu none) (ps : IsPart vs (some (-1)))
    (h : Q (.ref s.heap.objs.size) { s with heap := s.heap.push { cls := .type "tuple", data := .seq items.toList.reverse.toArray } })
    (hsz : items.size ≤ sizeLine) : wpAny (model prog w) A (getItem (.ref t) (.ref sl)) Q E s := by
  have htake : sizeOk (.seq items.toList.reverse.toArray) := by
    show items.toList.reverse.toArray.size ≤ sizeLine
    rw [List.size_toArray, List.length_reverse, Array.length_toList]
    exact hsz
  obtain ⟨os, hos, hcs, hds⟩ := id hs
  have hTs : s.TypeIs (.ref sl) "slice" := ⟨os, hos, hcs⟩
  unfold getItem
  try with_reducible refine wpAny_holding ?_
  first | refine wpAny_bind (wpAny_pure ?_) | skip
  refine wpAny_bind (wpAny_sequenceKey ht.typeIs (by decide) ?_)
  refine wpAny_bind (wpAny_callSpecial?_slot (name := Str.ofString "__getitem__") ht.typeIs PyProof.Rows.slot_tuple_getitem
    (wpAny_call_entry PyProof.Rows.slot_tuple_getitem ht.typeIs entry_tuple_getitem ?_ (args_tuple_getitem _ _)))
  show wpAny _ _ (Builtin.Tuple.tupleItemsOf (.ref t) >>= _) _ _ s
  refine wpAny_bind (tupleItemsOf_ ht ?_)
  refine wpAny_bind (wpAny_typeOf hTs ?_)
  rw [if_pos (by decide)]
  refine wpAny_bind (sliceApplied_rev hs pl pu ps ?_)
  have hno : ¬ ((((items.size : Int) - 1) == 0 && (-1 : Int) == 1 && items.size == items.size) = true) := by
    intro q
    rw [Bool.and_eq_true, Bool.and_eq_true] at q
    exact absurd q.1.2 (by decide)
  show wpAny _ _ (if (((items.size : Int) - 1) == 0 && (-1 : Int) == 1 && items.size == items.size) = true then _ else _) _ _ s
  rw [if_neg hno, pick_rev]
  first
    | exact wpAny_bind (m := Builtin.Tuple.tupleExact _) (wpAny_newObj_type (wpAny_pure ⟨_, rfl, wpAny_pure h⟩) htake)
    | exact wpAny_bind (m := Builtin.Tuple.tupleExact _) (wpAny_newObj_type (wpAny_bind (wpAny_pure (wpAny_pure ⟨_, rfl, wpAny_pure h⟩))) htake)
    | exact wpAny_bind (wpAny_bind (m := Builtin.Tuple.tupleExact _) (wpAny_newObj_type (wpAny_pure (wpAny_pure ⟨_, rfl, wpAny_pure h⟩)) htake))
    | exact wpAny_bind (wpAny_bind (m := Builtin.Tuple.tupleExact _) (wpAny_newObj_type (wpAny_pure ⟨_, rfl, wpAny_pure h⟩) htake))
end
end HT
namespace Cs
open PySem PySem.Spec PyProof.Rows L2 GxR Ce Gx
section
variable {X : Cx}
def tRevA (K : PySem.W.Frag) (te : TE) : TE := fun σ H Q => te σ H fun x H1 => ∃ a xs, x = .ref a ∧ ((SqL K H1 a xs ∧ ∀ p, H1 p = none → Q (.ref p) (upd H1 p (.lst xs.reverse))) ∨ (SqT K H1 a xs ∧ ∀ p, H1 p = none → Q (.ref p) (upd H1 p (.tup xs.reverse))))
theorem pe_revA {e : Expr} {te : TE} {k : Nat} {p1 p2 p3 pos : Pos} (he : PE X e te) : PE X (.Subscript e (.Slice none none (some (.UnaryOp .USub (.Constant (.int 1) k p1) p2)) p3) pos) (tRevA X.K te) := by
  refine ⟨fun pins s σ H Q I h => ?_⟩
  refine Subscript_ (thn (he.run pins s σ H _ I h) fun v s1 ⟨x, H1, I1, r1, q1⟩ => ?_)
  obtain ⟨a, xs, ex, q⟩ := q1
  subst ex
  cases r1
  have hst : PO X (some (.UnaryOp .USub (.Constant (.int 1) k p1) p2)) (tPart (tUn (rU fun i => .int (-i)) (tC (.int 1)))) := po_some (pe_un un_neg pe_int)
  refine wpAny_Slice (thn (po_none.run pins s1 σ H1 (fun o H2 => o = none ∧ H2 = H1) I1 ⟨rfl, rfl⟩) fun vl s2 ⟨l, H2, I2, pl, el, e2⟩ => ?_)
  subst el e2
  refine thn (po_none.run pins s2 σ H2 (fun o H3 => o = none ∧ H3 = H2) I2 ⟨rfl, rfl⟩) fun vu s3 ⟨u, H3, I3, pu, eu, e3⟩ => ?_
  subst eu e3
  refine thn (hst.run pins s3 σ H3 (fun o H4 => o = some (-1) ∧ H4 = H3) I3 ⟨1, rfl, -1, rfl, rfl, rfl⟩) fun vs s4 ⟨o, H4, I4, ps, eo, e4⟩ => ?_
  subst eo e4
  have I5 : Inv X pins σ H4 { s4 with heap := s4.heap.push { cls := .type "slice", data := .fields #[vl, vu, vs] } } := I4.kept (t' := s4.toks) fun b ob q => Heap.get?_push_of_some _ q
  show wpAny (model X.prog X.w) X.A (subscriptTail e (.Slice none none (some (.UnaryOp .USub (.Constant (.int 1) k p1) p2)) p3) (.ref a) (.ref s4.heap.objs.size)) (EP X pins σ Q) X.xe { s4 with heap := s4.heap.push { cls := .type "slice", data := .fields #[vl, vu, vs] } }
  rcases q with ⟨hx, q⟩ | ⟨hx, q⟩
  · obtain ⟨its, r, ht, hz⟩ := I5.list hx
    have hlen := r.length
    refine tail_any (ops := [.ref a, .ref s4.heap.objs.size]) ht.isList.typeIs (PySem.slot_list_getitem.lookup) ?_ (by with_unfolding_all rfl)
    refine wpAny_getItem_list_slice ht.isList (Heap.IsSliceOf.new _ vl vu vs) pl pu ps (by decide) ?_ (by rw [List.size_toArray]; omega)
    rw [PySem.W.krv_pick]
    refine ⟨.ref _, _, I5.laid (t' := s4.toks) (o := .lst xs.reverse) (fun b ob q => Heap.get?_push_of_some _ q) (Nat.le_refl _) ?_, rfl, q _ (I5.hok.fresh (Nat.le_refl _))⟩
    exact ⟨by rw [List.length_reverse]; exact hz, _, 0, r.reverse, Heap.get?_push_size _ rfl⟩
  · obtain ⟨its, r, ht, hz⟩ := I5.tuple hx
    have hlen := r.length
    refine tail_any (ops := [.ref a, .ref s4.heap.objs.size]) ht.typeIs (PyProof.Rows.slot_tuple_getitem.lookup) ?_ (by with_unfolding_all rfl)
    refine HT.getItem_tuple_rev ht (Heap.IsSliceOf.new _ vl vu vs) pl pu ps ?_ (by rw [List.size_toArray]; omega)
    refine ⟨.ref _, _, I5.laid (t' := s4.toks) (o := .tup xs.reverse) (fun b ob q => Heap.get?_push_of_some _ q) (Nat.le_refl _) ?_, rfl, q _ (I5.hok.fresh (Nat.le_refl _))⟩
    exact ⟨by rw [List.length_reverse]; exact hz, _, r.reverse, IsTup.new _ _⟩
end
end Cs

set_option maxHeartbeats 4000000
/-! enumerate of a list or a tuple. -/
noncomputable section
namespace PySem
open Sem (wp)
theorem meets_enumerate_newB1 {v : Value} {o : Obj} {H : Heap → Prop} (B : Begins v o H) :
    Meets (Builtin.«enumerate.__new__» ⟨[.type "enumerate", v], []⟩) (fun _ R s => H s.heap ∧
      R (.ok (.ret (.ref (s.heap.push o).objs.size))) { s with heap := (s.heap.push o).push { cls := .type "enumerate", data := .fields #[.none, .bool false, .ref s.heap.objs.size, rawInt 0, .none, .none] } }) :=
  .of_wp fun prog w A R s h => by
    obtain ⟨hp, g, d, tk, os⟩ := s; obtain ⟨h1, h⟩ := h
    have hsub := sub_enumerate
    have q1 : ∀ {A' : Around} {E : Value → Shared → Prop} {Q : Value → Shared → Prop}, Q (.ref hp.objs.size) ⟨hp.push o, g, d, tk, os⟩ → wpAny (model prog w) A' (pyIter v) Q E ⟨hp, g, d, tk, os⟩ :=
      fun q => B.iter prog w _ _ ⟨hp, g, d, tk, os⟩ _ h1 q
    wp_walk using q1
    refine wpAny_stack_any fun st => wpAny_pure ?_
    split
    · rename_i c _ _ _ _ _
      cases (c == Value.type "enumerate")
      · wp_walk using q1
        exact ⟨_, rfl, h⟩
      · wp_walk using q1
        exact ⟨_, rfl, h⟩
    · wp_walk using q1
      exact ⟨_, rfl, h⟩
theorem enum_begins1 {prog : Program} {w : World} {A : Around} {E : Value → Shared → Prop} {s : Shared} {v : Value} {o : Obj} {H : Heap → Prop} {Q : Value → Shared → Prop} (B : Begins v o H) (h1 : H s.heap)
    (h : ∀ h', IsEnum h' (s.heap.objs.size + 1) s.heap.objs.size 0 .none → h'.get? s.heap.objs.size = some o → h'.objs.size = s.heap.objs.size + 2 →
      (∀ b o, s.heap.get? b = some o → h'.get? b = some o) → Q (.ref (s.heap.objs.size + 1)) { s with heap := h' }) :
    wpAny (model prog w) A (call (.type "enumerate") [v]) Q E s := by
  refine callType_new F.called_enumerate (by decide) (F.typeCall_enumerate_1 _) (F.newCall_enumerate_1 _) (fun obj => F.args_object_init_2 obj _) F.entry_enumerate_new
    (meets_enumerate_newB1 B) ⟨h1, ?_⟩
  have hz : (s.heap.push o).objs.size = s.heap.objs.size + 1 := Heap.size_push ..
  show _ ∧ _
  rw [hz]
  have he : IsEnum ((s.heap.push o).push { cls := .type "enumerate", data := .fields #[.none, .bool false, .ref s.heap.objs.size, rawInt 0, .none, .none] }) (s.heap.objs.size + 1) s.heap.objs.size 0 .none := by
    have := Heap.get?_push_size (s.heap.push o) (o := { cls := .type "enumerate", data := .fields #[.none, .bool false, .ref s.heap.objs.size, rawInt 0, .none, .none] }) rfl
    rw [hz] at this; exact this
  refine ⟨⟨_, he, rfl⟩, h _ he (Heap.get?_push_of_some _ (Heap.get?_push_size _ B.free)) (by rw [Heap.size_push, hz]) fun b o x => Heap.get?_push_of_some _ (Heap.get?_push_of_some _ x)⟩
end PySem
namespace Cs
open PySem PySem.Spec PyProof.Rows L2 GxR Ce Gx
/-- the tuple at a, each item in a new pair -/
def IteT (K : PySem.W.Frag) (a : Addr) : L2.It :=
  ⟨fun i H => ∃ (xs : List V) (x : V), SqT K H a xs ∧ xs[i]? = some x, fun i H v H' => ∃ T x, v = .ref T ∧ H T = none ∧ H' = upd H T (.tup [.int (i : Nat), x]) ∧ ∀ xs, SqT K H a xs → xs[i]? = some x, fun i H => ∃ xs : List V, SqT K H a xs ∧ xs.length ≤ i⟩
theorem iter_apart {h : Heap} {a it : Addr} {i : Nat} {items : Array Value} (p : IsTup h a items) (hit : h.IsTupleIter it a i) : a ≠ it := by
  intro e
  subst e
  obtain ⟨o, ho, hc, _⟩ := p
  obtain ⟨o', ho', hc', _⟩ := hit
  rw [ho] at ho'
  cases ho'
  rw [hc] at hc'
  injection hc' with q
  exact absurd q (by decide)
theorem turn_enumT {P : Program} {w : World} {K : PySem.W.Frag} {elts : List Expr} {kk : Nat} {tpos : Pos} (a e it : Addr) :
    Turn P w K (.Tuple elts kk tpos) (IteT K a) [e, it] e (fun i h => (∃ old, IsEnum h e it ((i : Nat) : Int) old) ∧ h.IsTupleIter it a i ∧ e ≠ it) where
  mem := by simp
  obj := fun i h st b hb => by
    obtain ⟨⟨old, he⟩, ⟨o, ho, hc, hd⟩, _⟩ := st
    have e' : b = e ∨ b = it := by simpa using hb
    rcases e' with z | z
    · rw [z]; exact ⟨_, he, fun v q => nomatch q⟩
    · rw [z]; exact ⟨o, ho, fun v q => by rw [hd] at q; cases q⟩
  keep := fun i h h' st k => let ⟨⟨old, he⟩, hi, hne⟩ := st; ⟨⟨old, k e (by simp) _ he⟩, hi.at fun o q => k it (by simp) o q, hne⟩
  item := by
    intro X hP hw hK hc i pins s σ H E I hf st hg
    subst hP hw hK
    obtain ⟨⟨old, he⟩, hit, hne⟩ := st
    obtain ⟨xs, x, hq, hx⟩ := hg
    obtain ⟨its, rv, p, hz⟩ := I.tuple hq
    obtain ⟨u, hu, ru⟩ := rv.get hx
    have hel : e < s.heap.objs.size := Heap.lt_size he
    have hil : it < s.heap.objs.size := by obtain ⟨_, q, _⟩ := hit; exact Heap.lt_size q
    have hat := iter_apart p hit
    have hlt : i < its.toArray.size := by
      have := (List.getElem?_eq_some_iff.mp hu).1
      simpa using this
    have hea : e ≠ a := by
      intro z
      subst z
      obtain ⟨o, ho, hc, _⟩ := p
      rw [he] at ho
      cases ho
      injection hc with q
      exact absurd q (by decide)
    refine wpAny_pyNext_enum_itemD (Draws.tuple (A := X.A.in1) (I.ok.hd hc) it a hat its.toArray) he ⟨hit, p⟩ hlt hne (by simp [hne, hea]) fun y h' tk hy ho hst' hT hsz hk => ?_
    have ey : y = u := by
      have : its.toArray[i]? = some u := by simpa using hu
      rw [this] at hy
      exact (Option.some.inj hy).symm
    subst ey
    obtain ⟨hit', _⟩ := hst'
    refine ⟨_, rfl, wpAny_letOwnedTupleGo_enum (s := { s with heap := h', toks := tk + 1 }) ho fun h'' he' sb => ?_⟩
    have hT2 : h''.get? s.heap.objs.size = some { cls := .type "tuple", data := .seq #[.int i tk, y] } := (sb.2 _ (Nat.ne_of_gt hel)).trans hT
    have new : ObjOk X.prog X.w (upd H s.heap.objs.size (.tup [.int (i : Nat), x])) h'' s.heap.objs.size (.tup [.int (i : Nat), x]) :=
      ⟨by show 2 ≤ sizeLine; decide, [.int i tk, y], .cons ⟨_, rfl⟩ (.cons ru .nil), ⟨_, hT2, rfl, _, rfl⟩⟩
    have I1 : Inv X pins σ (upd H s.heap.objs.size (.tup [.int (i : Nat), x])) { s with heap := h'', toks := tk + 1 } :=
      I.turnedNew (ch := [e, it]) (fun b ob hb q => (sb.2 b (fun z => hb (by simp [z]))).trans (hk b ob (fun z => hb (by simp [z])) (fun z => hb (by simp [z])) q)) hf (Nat.le_refl _) new
    refine ⟨.ref s.heap.objs.size, _, I1, rfl, ⟨_, x, rfl, I.hok.fresh (Nat.le_refl _), rfl, fun ys hy => by rw [I.tuple_inj hy hq]; exact hx⟩, ⟨⟨y, ?_⟩, hit'.at fun o q => (sb.2 it (Ne.symm hne)).trans q, hne⟩, fun b hb => ?_⟩
    · have e1 : ((i + 1 : Nat) : Int) = (i : Int) + 1 := by omega
      rw [e1]; exact he'
    · have hb' : b < s.heap.objs.size := by
        have e' : b = e ∨ b = it := by simpa using hb
        rcases e' with z | z
        · rw [z]; exact hel
        · rw [z]; exact hil
      rw [upd_ne (Nat.ne_of_lt hb')]
      exact (hf b hb).1
  done := by
    intro X hP hw hK hc i pins s σ H E I hf st hg
    subst hP hw hK
    obtain ⟨⟨old, he⟩, hit, hne⟩ := st
    obtain ⟨xs, hq, hx⟩ := hg
    obtain ⟨its, rv, p, hz⟩ := I.tuple hq
    obtain ⟨f0, f1, f2, f3, f4, f5⟩ := hf it (by simp)
    have hl := rv.length
    have hat := iter_apart p hit
    have hT : s.TypeIs (.ref e) "enumerate" := ⟨_, he, rfl⟩
    unfold pyNext
    refine wpAny_bind (wpAny_attempt (wpAny_callSpecial?_slot (name := Str.ofString "__next__") hT F.slot_enumerate_next
      (wpAny_call_entry F.slot_enumerate_next hT F.entry_enumerate_next ?_ (F.args_enumerate_next_1 _))))
    show wpAny _ _ (field (.ref e) 2 >>= _) _ _ _
    refine wpAny_bind (wpAny_field he rfl (x := .ref it) rfl ?_)
    refine wpAny_bind (wpAny_nextOf_tuple_end (I.ok.hd hc) hit p (by simp; omega) fun h' x he' hx' => ?_)
    obtain ⟨o, ho, hc⟩ := hx'
    refine wpAny_bind (wpAny_isInstance (T := "StopIteration") (b := true) ⟨o, ho, hc⟩ isSubtype_stop ?_)
    exact wpAny_pure ⟨rfl, I.turned (t' := s.toks) (fun b o hb q => he' b o hb q) f0 f1 f3 f4 f5⟩
  self := fun A i s Q E st h => let ⟨⟨_, he⟩, _⟩ := st; wpAny_pyIter_enum he h
/-- .. of a list or a tuple -/
def iEnumA (K : PySem.W.Frag) (ta : TA) : TI := fun σ H R => ta σ H fun vs H1 => ∃ a, vs = [.ref a] ∧ (((∃ xs, SqL K H1 a xs) ∧ R (Ite K a) H1) ∨ ((∃ xs, SqT K H1 a xs) ∧ R (IteT K a) H1))
theorem pi_enumA {X : Cx} {e : Expr} {ta : TA} {p pos tpos : Pos} {elts : List Expr} {kk : Nat} (hg : Gl X "enumerate") (hm : X.mg "enumerate" = none) (ha : PA X [e] ta) (hs : starEach [e] X.env = [(false, eval e X.env)]) :
    PI X (.Tuple elts kk tpos) (.Call (.Name "enumerate" p) [e] [] pos) (iEnumA X.K ta) := by
  refine ⟨fun pins s σ H R I h => ?_⟩
  refine Call_ (ld_blt I hg hm boot_enumerate (PyProof.Rows.callWith_type1 (thn (ha.run pos pins s σ H _ I h) fun us s1 ⟨vs, H1, I1, r1, q1⟩ => ?_) hs rfl))
  obtain ⟨a, ex, q1⟩ := q1
  subst ex
  cases r1 with
  | cons r rr =>
    cases rr
    cases r
    have fp2 : ∀ b ∈ [s1.heap.objs.size + 1, s1.heap.objs.size], FpOk X pins H1 b := fun b hb => by
      have e' : b = s1.heap.objs.size + 1 ∨ b = s1.heap.objs.size := by simpa using hb
      have hle : s1.heap.objs.size ≤ b := by
        rcases e' with z | z
        · rw [z]; exact Nat.le_add_right _ _
        · rw [z]; exact Nat.le_refl _
      exact I1.fpOk hle (I1.hok.fresh hle)
    rcases q1 with ⟨⟨xs, hq⟩, q⟩ | ⟨⟨xs, hq⟩, q⟩
    · obtain ⟨its, rv, p', hz⟩ := I1.list hq
      refine call_enumerate_list p'.isList fun h' he hit hsz hk => wpAny_pyIter_enum he ?_
      have I2 : Inv X pins σ H1 { s1 with heap := h' } := I1.kept (t' := s1.toks) hk
      exact ⟨s1.heap.objs.size + 1, [s1.heap.objs.size + 1, s1.heap.objs.size], _, _, H1, rfl, I2, turn_enum a (s1.heap.objs.size + 1) s1.heap.objs.size, ⟨⟨.none, he⟩, hit, Nat.succ_ne_self _⟩, fp2, q⟩
    · obtain ⟨its, rv, p', hz⟩ := I1.tuple hq
      refine enum_begins1 (begins_tuple a its.toArray) p' fun h' he hit hsz hk => wpAny_pyIter_enum he ?_
      have I2 : Inv X pins σ H1 { s1 with heap := h' } := I1.kept (t' := s1.toks) hk
      exact ⟨s1.heap.objs.size + 1, [s1.heap.objs.size + 1, s1.heap.objs.size], _, _, H1, rfl, I2, turn_enumT a (s1.heap.objs.size + 1) s1.heap.objs.size, ⟨⟨.none, he⟩, ⟨_, hit, rfl, rfl⟩, Nat.succ_ne_self _⟩, fp2, q⟩
theorem feeds_enumT {c : Cfg} {F H : Hp} {full : Bool} {a : Addr} {ds : List PyData} (h : Feeds c full F H (Itt c.K a) ds) : Feeds c full F H (IteT c.K a) (enumd ds) := by
  refine ⟨fun F1 H1 q i => ?_⟩
  obtain ⟨h1, h2, h3⟩ := h.run F1 H1 q i
  have hl : (enumd ds).length = ds.length := by simp [enumd]
  rw [hl]
  refine ⟨fun hi => ?_, fun d hd x H2 y => ?_, fun hi => ?_⟩
  · obtain ⟨xs, x, a1, a2⟩ := h1 hi
    exact ⟨xs, x, a1, a2⟩
  · obtain ⟨T, x', rfl, hT, rfl, y⟩ : ∃ T x', x = V.ref T ∧ H1 T = none ∧ H2 = upd H1 T (.tup [.int (i : Nat), x']) ∧ ∀ xs, SqT c.K H1 a xs → xs[i]? = some x' := y
    have hi : i < ds.length := by
      have := (List.getElem?_eq_some_iff.mp hd).1
      rw [hl] at this; exact this
    have e : ds[i]? = some ds[i] := by simp [hi]
    have e2 : (enumd ds)[i]? = some (.tuple [.int i, ds[i]]) := by simp [enumd, hi]
    rw [e2] at hd; cases hd
    obtain ⟨F2, e3, dp⟩ := h2 _ e x' H1 ⟨rfl, y⟩
    have e4 := Ext.newF (u := .tup [.int (i : Nat), x']) e3.ok hT (fun ps z => by cases z)
    exact ⟨_, e3.trans e4, .tup (SqT.of upd_same) (.cons (.int _) (.cons (dp_mono e4.fkT _ _ dp) .nil))⟩
  · obtain ⟨xs, a1, a2⟩ := h3 hi
    exact ⟨xs, a1, a2⟩
end Cs

set_option maxHeartbeats 4000000
/-! zip, reversed. -/
noncomputable section
namespace Cs
open PySem PySem.Spec PyProof.Rows L2 GxR Ce Gx RZ RT
section
variable {c : Cfg} {F H : Hp}
theorem dp_pair {F1 H1 : Hp} {T : Addr} {x y : V} {d e : PyData} (o : Ok c F1 H1) (hT : H1 T = none) (h1 : Dp c.K F1 x d) (h2 : Dp c.K F1 y e) : ∃ F2, Ext c F1 H1 F2 (upd H1 T (.tup [x, y])) ∧ Dp c.K F2 (.ref T) (.tuple [d, e]) := by
  have e4 := Ext.newF (u := .tup [x, y]) o hT (fun ps z => by cases z)
  exact ⟨_, e4, .tup (SqT.of upd_same) (.cons (dp_mono e4.fkT _ _ h1) (.cons (dp_mono e4.fkT _ _ h2) .nil))⟩
theorem zw_get {ds es : List PyData} {i : Nat} {d : PyData} (h : (List.zipWith (fun x y => PyData.tuple [x, y]) ds es)[i]? = some d) : ∃ x y, ds[i]? = some x ∧ es[i]? = some y ∧ d = .tuple [x, y] := by
  rw [List.getElem?_zipWith] at h
  cases q1 : ds[i]? with
  | none => rw [q1] at h; simp at h
  | some x => cases q2 : es[i]? with
    | none => rw [q1, q2] at h; simp at h
    | some y => rw [q1, q2] at h; cases h; exact ⟨x, y, rfl, rfl, rfl⟩
theorem feeds_zipL {a b : Addr} {xs ys : List V} {ds es : List PyData} (hs : SqL c.K F a xs) (h : DpAll c.K F xs ds) (hs2 : SqL c.K F b ys) (h2 : DpAll c.K F ys es) : Feeds c true F H (Itz c.K a b) (List.zipWith (fun x y => .tuple [x, y]) ds es) := by
  refine ⟨fun F1 H1 q i => ?_⟩
  obtain ⟨o, fk⟩ : Ok c F1 H1 ∧ ∀ a o, F a = some o → F1 a = some o := q
  have fkT : ∀ a o, (∀ ps, o ≠ HO.tbl ps) → F a = some o → F1 a = some o := fun a o _ q => fk a o q
  have s1 : SqL c.K H1 a xs := sql_mono o.fhT (sql_mono fkT hs)
  have s2 : SqL c.K H1 b ys := sql_mono o.fhT (sql_mono fkT hs2)
  have l1 := DpAll.length h
  have l2 := DpAll.length h2
  rw [List.length_zipWith]
  refine ⟨fun hi => ⟨xs, ys, xs[i], ys[i], s1, s2, by simp [show i < xs.length by omega], by simp [show i < ys.length by omega]⟩, fun d hd x H2 y => ?_, fun hi => ⟨xs, ys, s1, s2, by omega⟩⟩
  obtain ⟨d1, d2, g1, g2, rfl⟩ := zw_get hd
  obtain ⟨T, x', y', rfl, hT, rfl, yx, yy⟩ := y
  obtain ⟨e1, k1, k2⟩ := DpAll.get h (yx xs s1)
  obtain ⟨e2, k3, k4⟩ := DpAll.get h2 (yy ys s2)
  rw [g1] at k1; cases k1
  rw [g2] at k3; cases k3
  exact dp_pair o hT (dp_mono fkT _ _ k2) (dp_mono fkT _ _ k4)
theorem feeds_zipT {a b : Addr} {xs ys : List V} {ds es : List PyData} (hs : SqT c.K F a xs) (h : DpAll c.K F xs ds) (hs2 : SqT c.K F b ys) (h2 : DpAll c.K F ys es) : Feeds c true F H (ItzT c.K a b) (List.zipWith (fun x y => .tuple [x, y]) ds es) := by
  refine ⟨fun F1 H1 q i => ?_⟩
  obtain ⟨o, fk⟩ : Ok c F1 H1 ∧ ∀ a o, F a = some o → F1 a = some o := q
  have fkT : ∀ a o, (∀ ps, o ≠ HO.tbl ps) → F a = some o → F1 a = some o := fun a o _ q => fk a o q
  have s1 : SqT c.K H1 a xs := sqt_mono o.fhT (sqt_mono fkT hs)
  have s2 : SqT c.K H1 b ys := sqt_mono o.fhT (sqt_mono fkT hs2)
  have l1 := DpAll.length h
  have l2 := DpAll.length h2
  rw [List.length_zipWith]
  refine ⟨fun hi => ⟨xs, ys, xs[i], ys[i], s1, s2, by simp [show i < xs.length by omega], by simp [show i < ys.length by omega]⟩, fun d hd x H2 y => ?_, fun hi => ⟨xs, ys, s1, s2, by omega⟩⟩
  obtain ⟨d1, d2, g1, g2, rfl⟩ := zw_get hd
  obtain ⟨T, x', y', rfl, hT, rfl, yx, yy⟩ := y
  obtain ⟨e1, k1, k2⟩ := DpAll.get h (yx xs s1)
  obtain ⟨e2, k3, k4⟩ := DpAll.get h2 (yy ys s2)
  rw [g1] at k1; cases k1
  rw [g2] at k3; cases k3
  exact dp_pair o hT (dp_mono fkT _ _ k2) (dp_mono fkT _ _ k4)
theorem feeds_revL {a : Addr} {xs : List V} {ds : List PyData} (hs : SqL c.K F a xs) (h : DpAll c.K F xs ds) : Feeds c true F H (Itv c.K a xs.length) ds.reverse := by
  refine ⟨fun F1 H1 q i => ?_⟩
  obtain ⟨o, fk⟩ : Ok c F1 H1 ∧ ∀ a o, F a = some o → F1 a = some o := q
  have fkT : ∀ a o, (∀ ps, o ≠ HO.tbl ps) → F a = some o → F1 a = some o := fun a o _ q => fk a o q
  have s1 : SqL c.K H1 a xs := sql_mono o.fhT (sql_mono fkT hs)
  have l1 := DpAll.length h
  rw [List.length_reverse]
  refine ⟨fun hi => ⟨by omega, xs, xs[xs.length - 1 - i], s1, by rw [List.getElem?_eq_getElem]⟩, fun d hd x H2 y => ?_, fun hi => by show xs.length ≤ i; omega⟩
  obtain ⟨rfl, y⟩ : H2 = H1 ∧ ∀ zs, SqL c.K H1 a zs → zs[xs.length - 1 - i]? = some x := y
  obtain ⟨e1, k1, k2⟩ := DpAll.get h (y xs s1)
  have hi : i < ds.length := by
    have := (List.getElem?_eq_some_iff.mp hd).1
    rwa [List.length_reverse] at this
  rw [List.getElem?_reverse hi, ← l1, k1] at hd
  cases hd
  exact ⟨F1, Ext.refl o, dp_mono fkT _ _ k2⟩
theorem feeds_revT {a : Addr} {xs : List V} {ds : List PyData} (hs : SqT c.K F a xs) (h : DpAll c.K F xs ds) : Feeds c true F H (ItvT c.K a xs.length) ds.reverse := by
  refine ⟨fun F1 H1 q i => ?_⟩
  obtain ⟨o, fk⟩ : Ok c F1 H1 ∧ ∀ a o, F a = some o → F1 a = some o := q
  have fkT : ∀ a o, (∀ ps, o ≠ HO.tbl ps) → F a = some o → F1 a = some o := fun a o _ q => fk a o q
  have s1 : SqT c.K H1 a xs := sqt_mono o.fhT (sqt_mono fkT hs)
  have l1 := DpAll.length h
  rw [List.length_reverse]
  refine ⟨fun hi => ⟨by omega, xs, xs[xs.length - 1 - i], s1, by rw [List.getElem?_eq_getElem]⟩, fun d hd x H2 y => ?_, fun hi => by show xs.length ≤ i; omega⟩
  obtain ⟨rfl, y⟩ : H2 = H1 ∧ ∀ zs, SqT c.K H1 a zs → zs[xs.length - 1 - i]? = some x := y
  obtain ⟨e1, k1, k2⟩ := DpAll.get h (y xs s1)
  have hi : i < ds.length := by
    have := (List.getElem?_eq_some_iff.mp hd).1
    rwa [List.length_reverse] at this
  rw [List.getElem?_reverse hi, ← l1, k1] at hd
  cases hd
  exact ⟨F1, Ext.refl o, dp_mono fkT _ _ k2⟩
theorem feeds_rrng {lo : Int} {n : Nat} : Feeds c true F H (Itc (lo + (n : Nat) - 1) (-1) n) (((List.range n).map fun k => PyData.int (lo + (k : Nat))).reverse) := by
  refine ⟨fun F1 H1 q i => ?_⟩
  obtain ⟨o, fk⟩ : Ok c F1 H1 ∧ ∀ a o, F a = some o → F1 a = some o := q
  have hl : ((List.range n).map fun k => PyData.int (lo + (k : Nat))).length = n := by simp
  rw [List.length_reverse, hl]
  refine ⟨fun hi => hi, fun d hd x H2 y => ?_, fun hi => hi⟩
  obtain ⟨rfl, rfl⟩ : H2 = H1 ∧ x = .int (lo + (n : Nat) - 1 + (i : Nat) * (-1)) := y
  have hi : i < n := by
    have := (List.getElem?_eq_some_iff.mp hd).1
    rwa [List.length_reverse, hl] at this
  rw [List.getElem?_reverse (by rw [hl]; exact hi), hl, List.getElem?_map, List.getElem?_range (by omega)] at hd
  cases hd
  have : lo + ((n - 1 - i : Nat) : Int) = lo + (n : Nat) - 1 + (i : Nat) * (-1) := by omega
  refine ⟨F1, Ext.refl o, ?_⟩
  show Dp c.K F1 (V.int (lo + (n : Nat) - 1 + (i : Nat) * (-1))) (PyData.int (lo + ((n - 1 - i : Nat) : Int)))
  rw [this]
  exact .int _
end
end Cs

set_option maxHeartbeats 8000000
/-! The text against the core language: expressions. -/
noncomputable section
namespace Cs
open PySem PySem.Spec PyProof.Rows L2 GxR Ce Gx
section
variable {c : Cfg} {ct : Ctl} {Φ : Fns} {lf : Nat} {X : Cx} {sc : Scope} {fnb : Str → Bool} {g : Nat}

theorem pt_of (C : CtxOk c ct Φ lf X sc fnb g) {e : Expr} {ex : Ex} (h : PE X e (tE c Φ .bo ex)) (hp : plainT e = true) : PT X e (tT c Φ ex) :=
  PT.imp (pt_truth h (plainT_ok hp)) fun σ H Q ⟨F, ρ, b, s, hb, k⟩ => by
    unfold tst at hb
    rw [Option.bind_eq_some_iff] at hb
    obtain ⟨x, ea, hb⟩ := hb
    exact ev1 s ea fun v F1 H1 e r => ⟨b, tru_data C.K e.ok r hb, k H1 F1 e⟩
theorem good_of (C : CtxOk c ct Φ lf X sc fnb g) {e : Expr} {ex : Ex} (h : ∀ m : Md, (m = .nw → isNew ex = true) → PE X e (tE c Φ m ex)) (hp : plainT e = true) : Good c Φ X e ex :=
  ⟨h, pt_of C (h .bo (fun z => by cases z)) hp, fun z => by cases e <;> first | (cases z; done) | (simp [plainT] at hp; done)⟩

theorem good_const (C : CtxOk c ct Φ lf X sc fnb g) {e : Expr} {k0 : Const} {v : V} {d : PyData} {ex : Ex} (h : dConst e = some k0) (hp : ∀ k p, PE X (.Constant k0 k p) (tC v)) (hd : ∀ F, Dp c.K F v d) (hm : isMut d = false) (he : ∀ ρ b, ev Φ ex ρ b = some d) : Good c Φ X e ex := by
  obtain ⟨k, p, rfl⟩ := dConst_ok h
  refine good_of C (fun m _ => PE.imp (hp k p) fun σ H Q ⟨F, ρ, d', s, h, kk⟩ => ?_) rfl
  rw [he] at h
  cases h
  exact fin_val (Ext.refl s.ok) (hd F) (fun _ => hm) kk
theorem good_var (C : CtxOk c ct Φ lf X sc fnb g) {i : Nat} {e : Expr} (h : chk ct (.var i) sc fnb g e = true) : Good c Φ X e (.var i) := by
  unfold chk at h
  split at h
  · rename_i x hx
    rw [Bool.and_eq_true, Bool.and_eq_true, decide_eq_true_eq] at h
    obtain ⟨p, rfl⟩ := xName_ok hx
    obtain ⟨n1, n2, n3⟩ := okN_ok h.2.2
    refine good_of C (fun m hm => PE.imp (pe_var (by rw [C.N]; exact h.1) (by rw [C.sc]; exact visB_ok h.2.1) n1 n2) fun σ H Q ⟨F, ρ, d, s, h, k⟩ => ?_) rfl
    simp only [ev] at h
    split at h
    · rename_i d' hd'
      cases h
      obtain ⟨v, h1, h2⟩ := s.slot i d hd'
      refine ⟨v, h1, fin_val (Ext.refl s.ok) h2 (fun z => absurd (hm z) (by simp [isNew])) k⟩
    · rename_i d' hd'
      split at h <;> try (cases h; done)
      rename_i hb
      cases h
      obtain ⟨a, o, h1, h2, h3, h4⟩ := s.own i d hd'
      refine ⟨.ref a, h1, ?_⟩
      cases m <;> try (cases hb; done)
      refine k _ _ _ (Ext.refl s.ok) ?_
      cases o <;> try exact h4.elim
      cases d <;> try exact h4.elim
      exact .inr ⟨a, _, _, rfl, rfl, h3, h4⟩
    · cases h
  · cases h
theorem good_bin (C : CtxOk c ct Φ lf X sc fnb g) {op : Bop} {a b : Ex} {e : Expr} (iha : ∀ e, chk ct a sc fnb g e = true → Good c Φ X e a) (ihb : ∀ e, chk ct b sc fnb g e = true → Good c Φ X e b) (h : chk ct (.bin op a b) sc fnb g e = true) : Good c Φ X e (.bin op a b) := by
  unfold chk at h
  split at h
  · rename_i a' o b' hx
    rw [Bool.and_eq_true, Bool.and_eq_true, decide_eq_true_eq] at h
    obtain ⟨rfl, h1, h2⟩ := h
    obtain ⟨p, rfl⟩ := dBin_ok hx
    refine good_of C (fun m _ => PE.imp (pe_op (op_bin C.K op (m := m)) ((iha _ h1).pe .bo (fun z => by cases z)) ((ihb _ h2).pe .bo (fun z => by cases z))) fun σ H Q ⟨F, ρ, d, s, h, k⟩ => ?_) rfl
    simp only [ev, Option.bind_eq_some_iff] at h
    obtain ⟨x, ea, y, eb, hf⟩ := h
    exact ev2 s ea eb fun v w F2 H2 e r1 r2 => ⟨F2, x, y, d, e.ok, r1, r2, hf, kont e k⟩
  · cases h
theorem good_neg (C : CtxOk c ct Φ lf X sc fnb g) {a : Ex} {e : Expr} (iha : ∀ e, chk ct a sc fnb g e = true → Good c Φ X e a) (h : chk ct (.neg a) sc fnb g e = true) : Good c Φ X e (.neg a) := by
  unfold chk at h
  split at h
  · rename_i o a' hx
    rw [Bool.and_eq_true, decide_eq_true_eq] at h
    obtain ⟨rfl, h1⟩ := h
    obtain ⟨p, rfl⟩ := dUn_ok hx
    refine good_of C (fun m _ => PE.imp (pe_un un_neg ((iha _ h1).pe .bo (fun z => by cases z))) fun σ H Q ⟨F, ρ, d, s, h, k⟩ => ?_) rfl
    simp only [ev, Option.bind_eq_some_iff] at h
    obtain ⟨x, ea, hf⟩ := h
    cases x <;> try (cases hf; done)
    cases hf
    exact ev1 s ea fun v F1 H1 e r => by
      cases r.int
      exact ⟨_, rfl, fin_int e.ok (kont e k)⟩
  · cases h
theorem good_not (C : CtxOk c ct Φ lf X sc fnb g) {a : Ex} {e : Expr} (iha : ∀ e, chk ct a sc fnb g e = true → Good c Φ X e a) (h : chk ct (.not a) sc fnb g e = true) : Good c Φ X e (.not a) := by
  unfold chk at h
  split at h
  · rename_i o a' hx
    rw [Bool.and_eq_true, decide_eq_true_eq] at h
    obtain ⟨rfl, h1⟩ := h
    obtain ⟨p, rfl⟩ := dUn_ok hx
    refine ⟨fun m _ => PE.imp (pe_notT ((iha _ h1).pe .bo (fun z => by cases z))) fun σ H Q ⟨F, ρ, d, s, h, k⟩ => ?_, PT.imp (pt_not (iha _ h1).pt) fun σ H Q ⟨F, ρ, b, s, h, k⟩ => ?_, fun z => by cases z⟩
    · simp only [ev, Option.bind_eq_some_iff, Option.map_eq_some_iff] at h
      obtain ⟨x, ea, b, hb, rfl⟩ := h
      exact ev1 s ea fun v F1 H1 e r => ⟨b, tru_data C.K e.ok r hb, fin_bl e.ok (kont e k)⟩
    · simp only [tst, ev, Option.bind_eq_some_iff, Option.map_eq_some_iff] at h
      obtain ⟨y, ⟨x, ea, t, hb, rfl⟩, hy⟩ := h
      cases hy
      exact ⟨F, ρ, t, s, by simp only [tst, Option.bind_eq_some_iff]; exact ⟨x, ea, hb⟩, fun H' F' e => k H' F' e⟩
  · cases h
theorem good_and (C : CtxOk c ct Φ lf X sc fnb g) {a b : Ex} {e : Expr} (iha : ∀ e, chk ct a sc fnb g e = true → Good c Φ X e a) (ihb : ∀ e, chk ct b sc fnb g e = true → Good c Φ X e b) (h : chk ct (.and a b) sc fnb g e = true) : Good c Φ X e (.and a b) := by
  unfold chk at h
  split at h
  · rename_i o a' b' hx
    rw [Bool.and_eq_true, Bool.and_eq_true, decide_eq_true_eq] at h
    obtain ⟨rfl, h1, h2⟩ := h
    have ga := iha _ h1
    have gb := ihb _ h2
    have main : ∃ x y r p, e = .BoolOp .And (x :: y :: r) p ∧ x = a' ∧ (∀ m : Md, (m = .nw → isNew b = true) → PE X (.BoolOp .And (y :: r) p) (tE c Φ m b)) ∧ PW X (.BoolOp .And (y :: r) p) (tT c Φ b) := by
      rcases dBool_ok hx with ⟨p, rfl⟩ | ⟨p, y, c', r, rfl, rfl⟩
      · exact ⟨_, _, _, _, rfl, rfl, fun m hm => pe_one (gb.pe m hm), pw_and1 gb.pt⟩
      · exact ⟨_, _, _, _, rfl, rfl, fun m hm => gb.pe m hm, gb.pw rfl⟩
    obtain ⟨x, y, r, p, rfl, rfl, pb, wb⟩ := main
    have W : PW X (.BoolOp .And (x :: y :: r) p) (tT c Φ (.and a b)) := PW.imp (pw_and ga.pt wb) fun σ H Q ⟨F, ρ, t, s, h, k⟩ => by
      simp only [tst, ev, Option.bind_eq_some_iff] at h
      obtain ⟨z, ⟨x0, ea, hz⟩, ht⟩ := h
      cases x0 <;> try (cases hz; done)
      rename_i b0
      refine ⟨F, ρ, b0, s, by simp only [tst, Option.bind_eq_some_iff]; exact ⟨_, ea, rfl⟩, fun H1 F1 e1 => ?_⟩
      cases b0 with
      | false =>
        cases hz; cases ht
        exact k _ _ e1
      | true => exact ⟨F1, ρ, t, s.ext e1, by simp only [tst, Option.bind_eq_some_iff]; exact ⟨z, hz, ht⟩, fun H' F' e2 => k _ _ (e1.trans e2)⟩
    refine ⟨fun m hm => PE.imp (pe_and (ga.pe .bo (fun z => by cases z)) (pb m (fun z => absurd (hm z) (by simp [isNew])))) fun σ H Q ⟨F, ρ, d, s, h, k⟩ => ?_, W.pt, fun _ => W⟩
    simp only [ev, Option.bind_eq_some_iff] at h
    obtain ⟨x0, ea, hz⟩ := h
    cases x0 <;> try (cases hz; done)
    rename_i b0
    refine ev1 s ea fun v F1 H1 e1 r1 => ⟨b0, r1.bl, ?_⟩
    cases b0 with
    | false => cases hz; exact fin_bl e1.ok (kont e1 k)
    | true => exact ⟨F1, ρ, d, s.ext e1, hz, kont e1 k⟩
  · cases h
theorem good_or (C : CtxOk c ct Φ lf X sc fnb g) {a b : Ex} {e : Expr} (iha : ∀ e, chk ct a sc fnb g e = true → Good c Φ X e a) (ihb : ∀ e, chk ct b sc fnb g e = true → Good c Φ X e b) (h : chk ct (.or a b) sc fnb g e = true) : Good c Φ X e (.or a b) := by
  unfold chk at h
  split at h
  · rename_i o a' b' hx
    rw [Bool.and_eq_true, Bool.and_eq_true, decide_eq_true_eq] at h
    obtain ⟨rfl, h1, h2⟩ := h
    have ga := iha _ h1
    have gb := ihb _ h2
    have main : ∃ x y r p, e = .BoolOp .Or (x :: y :: r) p ∧ x = a' ∧ (∀ m : Md, (m = .nw → isNew b = true) → PE X (.BoolOp .Or (y :: r) p) (tE c Φ m b)) ∧ PW X (.BoolOp .Or (y :: r) p) (tT c Φ b) := by
      rcases dBool_ok hx with ⟨p, rfl⟩ | ⟨p, y, c', r, rfl, rfl⟩
      · exact ⟨_, _, _, _, rfl, rfl, fun m hm => pe_one (gb.pe m hm), pw_or1 gb.pt⟩
      · exact ⟨_, _, _, _, rfl, rfl, fun m hm => gb.pe m hm, gb.pw rfl⟩
    obtain ⟨x, y, r, p, rfl, rfl, pb, wb⟩ := main
    have W : PW X (.BoolOp .Or (x :: y :: r) p) (tT c Φ (.or a b)) := PW.imp (pw_or ga.pt wb) fun σ H Q ⟨F, ρ, t, s, h, k⟩ => by
      simp only [tst, ev, Option.bind_eq_some_iff] at h
      obtain ⟨z, ⟨x0, ea, hz⟩, ht⟩ := h
      cases x0 <;> try (cases hz; done)
      rename_i b0
      refine ⟨F, ρ, b0, s, by simp only [tst, Option.bind_eq_some_iff]; exact ⟨_, ea, rfl⟩, fun H1 F1 e1 => ?_⟩
      cases b0 with
      | true =>
        cases hz; cases ht
        exact k _ _ e1
      | false => exact ⟨F1, ρ, t, s.ext e1, by simp only [tst, Option.bind_eq_some_iff]; exact ⟨z, hz, ht⟩, fun H' F' e2 => k _ _ (e1.trans e2)⟩
    refine ⟨fun m hm => PE.imp (pe_or (ga.pe .bo (fun z => by cases z)) (pb m (fun z => absurd (hm z) (by simp [isNew])))) fun σ H Q ⟨F, ρ, d, s, h, k⟩ => ?_, W.pt, fun _ => W⟩
    simp only [ev, Option.bind_eq_some_iff] at h
    obtain ⟨x0, ea, hz⟩ := h
    cases x0 <;> try (cases hz; done)
    rename_i b0
    refine ev1 s ea fun v F1 H1 e1 r1 => ⟨b0, r1.bl, ?_⟩
    cases b0 with
    | true => cases hz; exact fin_bl e1.ok (kont e1 k)
    | false => exact ⟨F1, ρ, d, s.ext e1, hz, kont e1 k⟩
  · cases h
theorem good_cmp (C : CtxOk c ct Φ lf X sc fnb g) {op : Cop} {a b : Ex} {e : Expr} (iha : ∀ e, chk ct a sc fnb g e = true → Good c Φ X e a) (ihb : ∀ e, chk ct b sc fnb g e = true → Good c Φ X e b) (h : chk ct (.cmp op a b) sc fnb g e = true) : Good c Φ X e (.cmp op a b) := by
  unfold chk at h
  split at h
  · rename_i a' o b' hx
    rw [Bool.and_eq_true, Bool.and_eq_true, Bool.and_eq_true, decide_eq_true_eq, Bool.not_eq_true'] at h
    obtain ⟨rfl, hm, h1, h2⟩ := h
    obtain ⟨p, rfl⟩ := dCmp_ok hx
    have pa := (iha _ h1).pe .bo (fun z => by cases z)
    have pb := (ihb _ h2).pe .bo (fun z => by cases z)
    have hu := C.hu
    refine ⟨fun m _ => PE.imp (pe_cmpR (op_cmp C.K (by omega) op) pa pb hm) fun σ H Q ⟨F, ρ, d, s, h, k⟩ => ?_, PT.imp (pt_cmpR (op_cmp C.K (by omega) op) pa pb hm) fun σ H Q ⟨F, ρ, t, s, h, k⟩ => ?_, fun z => by cases z⟩
    · simp only [ev, Option.bind_eq_some_iff, Option.map_eq_some_iff] at h
      obtain ⟨x, ea, y, eb, t, hf, rfl⟩ := h
      exact ev2 s ea eb fun v w F2 H2 e r1 r2 => ⟨F2, x, y, t, e.ok, r1, r2, hf, fin_bl e.ok (kont e k)⟩
    · simp only [tst, ev, Option.bind_eq_some_iff, Option.map_eq_some_iff] at h
      obtain ⟨z, ⟨x, ea, y, eb, t', hf, rfl⟩, ht⟩ := h
      cases ht
      exact ev2 s ea eb fun v w F2 H2 e r1 r2 => ⟨F2, x, y, t, e.ok, r1, r2, hf, t, rfl, k _ _ e⟩
  · cases h
theorem good_ch2 (C : CtxOk c ct Φ lf X sc fnb g) {op op' : Cop} {a b d0 : Ex} {e : Expr} (iha : ∀ e, chk ct a sc fnb g e = true → Good c Φ X e a) (ihb : ∀ e, chk ct b sc fnb g e = true → Good c Φ X e b) (ihc : ∀ e, chk ct d0 sc fnb g e = true → Good c Φ X e d0) (h : chk ct (.ch2 op op' a b d0) sc fnb g e = true) : Good c Φ X e (.ch2 op op' a b d0) := by
  unfold chk at h
  split at h
  · rename_i a' o b' o' c' hx
    rw [Bool.and_eq_true, Bool.and_eq_true, Bool.and_eq_true, Bool.and_eq_true, Bool.and_eq_true, decide_eq_true_eq, decide_eq_true_eq, Bool.not_eq_true'] at h
    obtain ⟨⟨rfl, rfl⟩, hm, h1, h2, h3⟩ := h
    obtain ⟨p, rfl⟩ := dCmp2_ok hx
    have pa := (iha _ h1).pe .bo (fun z => by cases z)
    have pb := (ihb _ h2).pe .bo (fun z => by cases z)
    have pc := (ihc _ h3).pe .bo (fun z => by cases z)
    have hu := C.hu
    have cmn : ∀ {σ H} {F ρ} {t : Bool} {Q : VK}, StE c F H σ ρ → ((ev Φ a ρ true).bind fun x => (ev Φ b ρ true).bind fun y => (cmpop op x y).bind fun t => if t = true then (ev Φ d0 ρ true).bind fun z => (cmpop op' y z).map PyData.bool else some (.bool false)) = some (.bool t) → (∀ F' H', Ext c F H F' H' → Q (.bl t) H') →
        tChain (rC c op) (rC c op') (tE c Φ .bo a) (tE c Φ .bo b) (tE c Φ .bo d0) σ H Q := fun {σ H F ρ t Q} s h k => by
      simp only [Option.bind_eq_some_iff] at h
      obtain ⟨x, ea, y, eb, t0, hf, hz⟩ := h
      refine ev2 s ea eb fun v w F2 H2 e r1 r2 => ⟨F2, x, y, t0, e.ok, r1, r2, hf, t0, rfl, ?_⟩
      cases t0 with
      | false => cases hz; exact k _ _ e
      | true =>
        simp only [if_true, Option.bind_eq_some_iff, Option.map_eq_some_iff, PyData.bool.injEq] at hz ⊢
        obtain ⟨z, ec, t1, hf2, rfl⟩ := hz
        exact ev1 (s.ext e) ec fun u F3 H3 e3 r3 => ⟨F3, y, z, t1, e3.ok, r2.ext e3, r3, hf2, k _ _ (e.trans e3)⟩
    refine ⟨fun m _ => PE.imp (pe_chain (op_cmp C.K (by omega) op) (op_cmp C.K (by omega) op') pa pb pc hm) fun σ H Q ⟨F, ρ, d, s, h, k⟩ => ?_, PT.imp (pt_chain (op_cmp C.K (by omega) op) (op_cmp C.K (by omega) op') pa pb pc hm) fun σ H Q ⟨F, ρ, t, s, h, k⟩ => ?_, fun z => by cases z⟩
    · simp only [ev] at h
      have hd : ∃ t, d = .bool t := by
        simp only [Option.bind_eq_some_iff] at h
        obtain ⟨x, ea, y, eb, t0, hf, hz⟩ := h
        cases t0 with
        | false => cases hz; exact ⟨_, rfl⟩
        | true =>
          simp only [if_true, Option.bind_eq_some_iff, Option.map_eq_some_iff] at hz
          obtain ⟨z, ec, t1, hf2, rfl⟩ := hz
          exact ⟨_, rfl⟩
      obtain ⟨t, rfl⟩ := hd
      exact cmn s h fun F' H' e => fin_bl e.ok (kont e k)
    · simp only [tst, Option.bind_eq_some_iff] at h
      obtain ⟨z, hz, ht⟩ := h
      simp only [ev] at hz
      have hd : ∃ t, z = .bool t := by
        simp only [Option.bind_eq_some_iff] at hz
        obtain ⟨x, ea, y, eb, t0, hf, hz⟩ := hz
        cases t0 with
        | false => cases hz; exact ⟨_, rfl⟩
        | true =>
          simp only [if_true, Option.bind_eq_some_iff, Option.map_eq_some_iff] at hz
          obtain ⟨z, ec, t1, hf2, rfl⟩ := hz
          exact ⟨_, rfl⟩
      obtain ⟨t', rfl⟩ := hd
      cases ht
      exact cmn s hz fun F' H' e => ⟨t, rfl, k _ _ e⟩
  · cases h
theorem good_isn (C : CtxOk c ct Φ lf X sc fnb g) {a : Ex} {e : Expr} (iha : ∀ e, chk ct a sc fnb g e = true → Good c Φ X e a) (h : chk ct (.isn a) sc fnb g e = true) : Good c Φ X e (.isn a) := by
  unfold chk at h
  split at h
  · rename_i a' o b' hx
    rw [Bool.and_eq_true, Bool.and_eq_true, decide_eq_true_eq, decide_eq_true_eq] at h
    obtain ⟨⟨rfl, hb⟩, h1⟩ := h
    obtain ⟨p, rfl⟩ := dCmp_ok hx
    obtain ⟨k0, p0, rfl⟩ := dConst_ok hb
    have pa := (iha _ h1).pe .bo (fun z => by cases z)
    refine ⟨fun m _ => PE.imp (pe_cmp (pc_isN pa)) fun σ H Q ⟨F, ρ, d, s, h, k⟩ => ?_, PT.imp (pt_cmp (pc_isN pa)) fun σ H Q ⟨F, ρ, t, s, h, k⟩ => ?_, fun z => by cases z⟩
    · simp only [ev, Option.map_eq_some_iff] at h
      obtain ⟨x, ea, rfl⟩ := h
      exact ev1 s ea fun v F1 H1 e r => by rw [r.non_iff]; exact fin_bl e.ok (kont e k)
    · simp only [tst, ev, Option.bind_eq_some_iff, Option.map_eq_some_iff] at h
      obtain ⟨z, ⟨x, ea, rfl⟩, ht⟩ := h
      cases ht
      exact ev1 s ea fun v F1 H1 e r => ⟨_, rfl, by rw [r.non_iff]; exact k _ _ e⟩
  · cases h
theorem good_nisn (C : CtxOk c ct Φ lf X sc fnb g) {a : Ex} {e : Expr} (iha : ∀ e, chk ct a sc fnb g e = true → Good c Φ X e a) (h : chk ct (.nisn a) sc fnb g e = true) : Good c Φ X e (.nisn a) := by
  unfold chk at h
  split at h
  · rename_i a' o b' hx
    rw [Bool.and_eq_true, Bool.and_eq_true, decide_eq_true_eq, decide_eq_true_eq] at h
    obtain ⟨⟨rfl, hb⟩, h1⟩ := h
    obtain ⟨p, rfl⟩ := dCmp_ok hx
    obtain ⟨k0, p0, rfl⟩ := dConst_ok hb
    have pa := (iha _ h1).pe .bo (fun z => by cases z)
    refine ⟨fun m _ => PE.imp (pe_cmp (pc_notN pa)) fun σ H Q ⟨F, ρ, d, s, h, k⟩ => ?_, PT.imp (pt_cmp (pc_notN pa)) fun σ H Q ⟨F, ρ, t, s, h, k⟩ => ?_, fun z => by cases z⟩
    · simp only [ev, Option.map_eq_some_iff] at h
      obtain ⟨x, ea, rfl⟩ := h
      exact ev1 s ea fun v F1 H1 e r => by rw [r.non_iff]; exact fin_bl e.ok (kont e k)
    · simp only [tst, ev, Option.bind_eq_some_iff, Option.map_eq_some_iff] at h
      obtain ⟨z, ⟨x, ea, rfl⟩, ht⟩ := h
      cases ht
      exact ev1 s ea fun v F1 H1 e r => ⟨_, rfl, by rw [r.non_iff]; exact k _ _ e⟩
  · cases h
theorem good_ife (C : CtxOk c ct Φ lf X sc fnb g) {d0 a b : Ex} {e : Expr} (ihc : ∀ e, chk ct d0 sc fnb g e = true → Good c Φ X e d0) (iha : ∀ e, chk ct a sc fnb g e = true → Good c Φ X e a) (ihb : ∀ e, chk ct b sc fnb g e = true → Good c Φ X e b) (h : chk ct (.ife d0 a b) sc fnb g e = true) : Good c Φ X e (.ife d0 a b) := by
  unfold chk at h
  split at h
  · rename_i c' a' b' hx
    rw [Bool.and_eq_true, Bool.and_eq_true] at h
    obtain ⟨h1, h2, h3⟩ := h
    obtain ⟨p, rfl⟩ := dIf_ok hx
    have gc := ihc _ h1
    have ga := iha _ h2
    have gb := ihb _ h3
    refine ⟨fun m hm => PE.imp (pe_ifExp gc.pt (ga.pe m (fun z => ?_)) (gb.pe m (fun z => ?_))) fun σ H Q ⟨F, ρ, d, s, h, k⟩ => ?_, PT.imp (pt_ife gc.pt ga.pt gb.pt) fun σ H Q ⟨F, ρ, t, s, h, k⟩ => ?_, fun z => by cases z⟩
    · have := hm z
      simp only [isNew, Bool.and_eq_true] at this
      exact this.1
    · have := hm z
      simp only [isNew, Bool.and_eq_true] at this
      exact this.2
    · simp only [ev, Option.bind_eq_some_iff] at h
      obtain ⟨x, ec, t, ht, hz⟩ := h
      refine ⟨F, ρ, t, s, by simp only [tst, Option.bind_eq_some_iff]; exact ⟨x, ec, ht⟩, fun H1 F1 e1 => ?_⟩
      cases t with
      | true => exact ⟨F1, ρ, d, s.ext e1, hz, kont e1 k⟩
      | false => exact ⟨F1, ρ, d, s.ext e1, hz, kont e1 k⟩
    · simp only [tst, ev, Option.bind_eq_some_iff] at h
      obtain ⟨z, ⟨x, ec, t0, ht, hz⟩, hw⟩ := h
      refine ⟨F, ρ, t0, s, by simp only [tst, Option.bind_eq_some_iff]; exact ⟨x, ec, ht⟩, fun H1 F1 e1 => ?_⟩
      cases t0 with
      | true => exact ⟨F1, ρ, t, s.ext e1, by simp only [tst, Option.bind_eq_some_iff]; exact ⟨z, hz, hw⟩, fun H' F' e2 => k _ _ (e1.trans e2)⟩
      | false => exact ⟨F1, ρ, t, s.ext e1, by simp only [tst, Option.bind_eq_some_iff]; exact ⟨z, hz, hw⟩, fun H' F' e2 => k _ _ (e1.trans e2)⟩
  · cases h
theorem good_sub (C : CtxOk c ct Φ lf X sc fnb g) {a b : Ex} {e : Expr} (iha : ∀ e, chk ct a sc fnb g e = true → Good c Φ X e a) (ihb : ∀ e, chk ct b sc fnb g e = true → Good c Φ X e b) (h : chk ct (.sub a b) sc fnb g e = true) : Good c Φ X e (.sub a b) := by
  unfold chk at h
  split at h
  · rename_i a' b' hx
    rw [Bool.and_eq_true] at h
    obtain ⟨h1, h2⟩ := h
    obtain ⟨⟨p, rfl⟩, hp⟩ := dSub_ok hx
    refine good_of C (fun m hm => ?_) rfl
    have hm' : m ≠ .nw := fun z => absurd (hm z) (by simp [isNew])
    refine PE.imp (pe_ix (ixr_data C.K (m := m)) ((iha _ h1).pe .bo (fun z => by cases z)) ((ihb _ h2).pe .bo (fun z => by cases z)) hp) fun σ H Q ⟨F, ρ, d, s, h, k⟩ => ?_
    simp only [ev, Option.bind_eq_some_iff] at h
    obtain ⟨x, ea, y, eb, hf⟩ := h
    refine ev2 s ea eb fun v w F2 H2 e r1 r2 => ⟨F2, x, y, d, e.ok, r1, r2, hf, ?_⟩
    cases m with
    | fr => exact kont e k
    | bo => exact kont e k
    | nw => exact absurd rfl hm'
  · cases h
theorem good_sl (C : CtxOk c ct Φ lf X sc fnb g) {a : Ex} {lo hi : Exo} {e : Expr} (iha : ∀ e, chk ct a sc fnb g e = true → Good c Φ X e a) (ihl : ∀ e, chkp ct lo sc fnb g e = true → PO X e (tP c Φ lo)) (ihh : ∀ e, chkp ct hi sc fnb g e = true → PO X e (tP c Φ hi)) (h : chk ct (.sl a lo hi) sc fnb g e = true) : Good c Φ X e (.sl a lo hi) := by
  unfold chk at h
  split at h
  · rename_i a' l' h' hx
    rw [Bool.and_eq_true, Bool.and_eq_true] at h
    obtain ⟨h1, h2, h3⟩ := h
    obtain ⟨p, q, rfl⟩ := dSl_ok hx
    refine good_of C (fun m hm => PE.imp (pe_slice (slr_data C.K (m := m)) ((iha _ h1).pe .bo (fun z => by cases z)) (ihl _ h2) (ihh _ h3)) fun σ H Q ⟨F, ρ, d, s, h, k⟩ => ?_) rfl
    simp only [ev, Option.bind_eq_some_iff] at h
    obtain ⟨x, ea, l, el, u, eu, hf⟩ := h
    exact ev1 s ea fun v F1 H1 e1 r1 => ⟨F1, ρ, l, s.ext e1, el, fun H2 F2 e2 => ⟨F2, ρ, u, (s.ext e1).ext e2, eu, fun H3 F3 e3 => ⟨F3, x, d, e3.ok, (r1.ext e2).ext e3, hf, kont (e1.trans (e2.trans e3)) k⟩⟩⟩
  · cases h
theorem good_b1 (C : CtxOk c ct Φ lf X sc fnb g) {b : B1} {a : Ex} {e : Expr} (iha : ∀ e, chk ct a sc fnb g e = true → Good c Φ X e a) (h : chk ct (.b1 b a) sc fnb g e = true) : Good c Φ X e (.b1 b a) := by
  unfold chk at h
  split at h
  · rename_i x a' hx
    rw [Bool.and_eq_true, Bool.and_eq_true] at h
    obtain ⟨hb, hs, h1⟩ := h
    obtain ⟨p, q, rfl⟩ := dOne_ok hx
    rw [chkB, Bool.and_eq_true, decide_eq_true_eq, glB, decide_eq_true_eq] at hb
    obtain ⟨rfl, hg⟩ := hb
    refine good_of C (fun m hm => ?_) rfl
    have pa := pa_cons ((iha _ h1).pe .bo (fun z => by cases z)) pa_nil (star_cons hs)
    have hall : [a'].all noStar = true := by simp [hs]
    have key : PE X (.Call (.Name (b1N b) p) [a'] [] q) (tCB (rB1 c m b) (tCons (tE c Φ .bo a) tNil)) := by
      refine pe_callF (f := b1Of b) ?_ (cr_b1 C.K b) (show X.env.scope.names.lookup _ = _ by rw [C.sc]; exact hg) (C.bi _ (by cases b <;> decide)) ?_ (by cases b <;> decide) (by cases b <;> decide) pa hall
      · cases b <;> first | exact .inl ⟨_, rfl⟩ | exact .inr ⟨_, rfl⟩
      · cases b <;> kernel_rfl
    refine PE.imp key fun σ H Q ⟨F, ρ, d, s, h, k⟩ => ?_
    simp only [ev, Option.bind_eq_some_iff] at h
    obtain ⟨x, ea, hf⟩ := h
    exact ev1 s ea fun v F1 H1 e r => ⟨F1, v, x, d, rfl, e.ok, r, hf, kont e k⟩
  · cases h
theorem good_bi (C : CtxOk c ct Φ lf X sc fnb g) {b : Bi} {a : Ex} {e : Expr} (iha : ∀ e, chk ct a sc fnb g e = true → Good c Φ X e a) (h : chk ct (.bi b a) sc fnb g e = true) : Good c Φ X e (.bi b a) := by
  unfold chk at h
  split at h
  · rename_i x a' hx
    rw [Bool.and_eq_true, Bool.and_eq_true] at h
    obtain ⟨hb, hs, h1⟩ := h
    obtain ⟨p, q, rfl⟩ := dOne_ok hx
    rw [chkB, Bool.and_eq_true, decide_eq_true_eq, glB, decide_eq_true_eq] at hb
    obtain ⟨rfl, hg⟩ := hb
    refine good_of C (fun m hm => ?_) rfl
    have pa := pa_cons ((iha _ h1).pe .bo (fun z => by cases z)) pa_nil (star_cons hs)
    have hall : [a'].all noStar = true := by simp [hs]
    have key : PE X (.Call (.Name (biN b) p) [a'] [] q) (tCB (rBi c m b) (tCons (tE c Φ .bo a) tNil)) := by
      refine pe_callF (f := biOf b) ?_ (cr_bi C.K C.calm C.hu b) (show X.env.scope.names.lookup _ = _ by rw [C.sc]; exact hg) (C.bi _ (by cases b <;> decide)) ?_ (by cases b <;> decide) (by cases b <;> decide) pa hall
      · cases b <;> first | exact .inl ⟨_, rfl⟩ | exact .inr ⟨_, rfl⟩
      · cases b <;> kernel_rfl
    refine PE.imp key fun σ H Q ⟨F, ρ, d, s, h, k⟩ => ?_
    simp only [ev, Option.bind_eq_some_iff] at h
    obtain ⟨x, ea, hf⟩ := h
    exact ev1 s ea fun v F1 H1 e r => ⟨F1, v, x, d, rfl, e.ok, r, hf, kont e k⟩
  · cases h
theorem good_st (C : CtxOk c ct Φ lf X sc fnb g) {l : Bool} {a : Ex} {e : Expr} (iha : ∀ e, chk ct a sc fnb g e = true → Good c Φ X e a) (h : chk ct (.st l a) sc fnb g e = true) : Good c Φ X e (.st l a) := by
  unfold chk at h
  split at h
  · rename_i x e' hx
    rw [Bool.and_eq_true] at h
    obtain ⟨hb, h⟩ := h
    split at h
    · rename_i y a' hy
      rw [Bool.and_eq_true, Bool.and_eq_true] at h
      obtain ⟨hb2, hs, h1⟩ := h
      obtain ⟨p, q, rfl⟩ := dOne_ok hx
      obtain ⟨p2, q2, rfl⟩ := dOne_ok hy
      rw [chkB, Bool.and_eq_true, decide_eq_true_eq, glB, decide_eq_true_eq] at hb hb2
      obtain ⟨rfl, hg⟩ := hb
      obtain ⟨rfl, hg2⟩ := hb2
      refine good_of C (fun m hm => ?_) rfl
      have pa := pa_cons ((iha _ h1).pe .bo (fun z => by cases z)) pa_nil (star_cons hs)
      have hall : [a'].all noStar = true := by simp [hs]
      have inner : PE X (.Call (.Name "set" p2) [a'] [] q2) (tCB (rSet c X.prog X.w) (tCons (tE c Φ .bo a) tNil)) :=
        pe_callF (f := .type "set") (.inr ⟨_, rfl⟩) (cr_setD C.K C.calm C.hu) (show X.env.scope.names.lookup _ = _ by rw [C.sc]; exact hg2) (C.bi _ (by decide)) (by kernel_rfl) (by decide) (by decide) pa hall
      have pb := pa_cons inner pa_nil (by rfl)
      have key : PE X (.Call (.Name (stN l) p) [.Call (.Name "set" p2) [a'] [] q2] [] q) (tCB (fun xs H Q => rSetQ c X.prog X.w l Q H xs) (tCons (tCB (rSet c X.prog X.w) (tCons (tE c Φ .bo a) tNil)) tNil)) := by
        cases l with
        | true => exact pe_callF (f := .builtin "len") (.inl ⟨_, rfl⟩) (cr_setL C.K C.calm C.hu) (show X.env.scope.names.lookup _ = _ by rw [C.sc]; exact hg) (C.bi _ (by decide)) (by kernel_rfl) (by decide) (by decide) pb (by rfl)
        | false => exact pe_callF (f := .builtin "sorted") (.inl ⟨_, rfl⟩) (cr_setS C.K C.calm C.hu) (show X.env.scope.names.lookup _ = _ by rw [C.sc]; exact hg) (C.bi _ (by decide)) (by kernel_rfl) (by decide) (by decide) pb (by rfl)
      refine PE.imp key fun σ H Q ⟨F, ρ, d, s, h, k⟩ => ?_
      simp only [ev, Option.bind_eq_some_iff, Option.map_eq_some_iff] at h
      obtain ⟨x, ea, ds, hs1, es, hd, rfl⟩ := h
      refine ev1 s ea fun v F1 H1 e r => ⟨F1, v, x, ds, es, rfl, e.ok, r, hs1, hd, fun p o hn nt so => ?_⟩
      have e2 := Ext.new (u := o) e.ok hn nt
      refine ⟨F1, p, o, es, rfl, upd_same, e2.ok, so, ?_⟩
      cases l with
      | true => exact fin_int e2.ok (kont (e.trans e2) k)
      | false => exact fun q ys hn2 hy => fin_lst (Ext.refl e2.ok) hn2 hy (kont (e.trans e2) k)
    · cases h
  · cases h
theorem good_b2 (C : CtxOk c ct Φ lf X sc fnb g) {b : B2} {a a2 : Ex} {e : Expr} (iha : ∀ e, chk ct a sc fnb g e = true → Good c Φ X e a) (ihb : ∀ e, chk ct a2 sc fnb g e = true → Good c Φ X e a2) (h : chk ct (.b2 b a a2) sc fnb g e = true) : Good c Φ X e (.b2 b a a2) := by
  unfold chk at h
  split at h
  · rename_i x a' b' hx
    rw [Bool.and_eq_true, Bool.and_eq_true, Bool.and_eq_true, Bool.and_eq_true] at h
    obtain ⟨hb, ⟨hs, hs2⟩, h1, h2⟩ := h
    obtain ⟨p, q, rfl⟩ := dTwo_ok hx
    rw [chkB, Bool.and_eq_true, decide_eq_true_eq, glB, decide_eq_true_eq] at hb
    obtain ⟨rfl, hg⟩ := hb
    refine good_of C (fun m hm => ?_) rfl
    have pa := pa_cons ((iha _ h1).pe .bo (fun z => by cases z)) (pa_cons ((ihb _ h2).pe .bo (fun z => by cases z)) pa_nil (star_cons hs2)) (star_cons hs)
    have hall : [a', b'].all noStar = true := by simp [hs, hs2]
    have key : PE X (.Call (.Name (b2N b) p) [a', b'] [] q) (tCB (rB2 c m b) (tCons (tE c Φ .bo a) (tCons (tE c Φ .bo a2) tNil))) := by
      refine pe_callF (f := b2Of b) ?_ (cr_b2 C.calm b) (show X.env.scope.names.lookup _ = _ by rw [C.sc]; exact hg) (C.bi _ (by cases b <;> decide)) ?_ (by cases b <;> decide) (by cases b <;> decide) pa hall
      · cases b <;> first | exact .inl ⟨_, rfl⟩ | exact .inr ⟨_, rfl⟩
      · cases b <;> kernel_rfl
    refine PE.imp key fun σ H Q ⟨F, ρ, d, s, h, k⟩ => ?_
    simp only [ev, Option.bind_eq_some_iff] at h
    obtain ⟨x, ea, y, eb, hf⟩ := h
    exact ev2 s ea eb fun v w F1 H1 e r r2 => ⟨F1, v, w, x, y, d, rfl, e.ok, r, r2, hf, kont e k⟩
  · cases h
theorem good_mt (C : CtxOk c ct Φ lf X sc fnb g) {m : Mt} {a b : Ex} {e : Expr} (iha : ∀ e, chk ct a sc fnb g e = true → Good c Φ X e a) (ihb : ∀ e, chk ct b sc fnb g e = true → Good c Φ X e b) (h : chk ct (.mt m a b) sc fnb g e = true) : Good c Φ X e (.mt m a b) := by
  unfold chk at h
  split at h
  · rename_i o nm b' hx
    rw [Bool.and_eq_true, Bool.and_eq_true, Bool.and_eq_true, decide_eq_true_eq] at h
    obtain ⟨⟨rfl, hs⟩, h1, h2⟩ := h
    obtain ⟨ap, cp, rfl, hl, hns⟩ := dMeth_ok hx
    refine good_of C (fun md hm => ⟨fun pins s σ H Q I ⟨F, ρ, d, st, h, k⟩ => ?_⟩) rfl
    simp only [ev, Option.bind_eq_some_iff] at h
    obtain ⟨x, ea, y, eb, hf⟩ := h
    have A := ((iha _ h1).pe .bo (fun z => by cases z)).run pins s σ H (fun v H1 => ∃ F1, Ext c F H F1 H1 ∧ Rq c.K F1 H1 v x) I (ev1 st ea fun v F1 H1 e r => ⟨F1, e, r⟩)
    refine wpAny_Call_method_late (noSup_ok hns) (by rw [star_cons hs]; rfl) hl rfl (thn A fun v s1 ⟨x', H1, I1, r1, F1, e1, q1⟩ => ?_)
    obtain ⟨kd, hk⟩ := kd_some hf
    obtain ⟨t1, t2⟩ := kd_type hk I1 r1 (C.K ▸ q1.dp e1.ok)
    obtain ⟨sl, ty⟩ := kd_slot hk
    refine ⟨kdN kd, kdI m kd, kd_attrs kd, sl, ty, t1, t2, ?_⟩
    have PB := pa_cons ((ihb _ h2).pe .bo (fun z => by cases z)) pa_nil (star_cons hs)
    have hA := PB.run cp pins s1 σ H1 (fun vs H2 => ∃ w F2, vs = [w] ∧ Ext c F1 H1 F2 H2 ∧ Rq c.K F2 H2 w y) I1 (ev1 (st.ext e1) eb fun w F2 H2 e2 r2 => ⟨w, F2, rfl, e2, r2⟩)
    rw [star_cons hs] at hA ⊢
    refine Calls.callWith_builtin (by rfl) (Calls.evalArgs_plain ?_)
    refine thn hA fun us s2 ⟨vs, H2, I2, r2, w, F2, hv, e2, q2⟩ => ?_
    subst hv
    cases r2 with
    | cons rw' rr =>
      cases rr
      have e12 := e1.trans e2
      refine mt_run (by have := C.hu; omega) hk I2 r1 rw' (C.K ▸ (q1.ext e2).dp e2.ok) (C.K ▸ q2.dp e2.ok) hf fun z hz nm => ?_
      exact fin_val (m := md) e12 (C.K ▸ hz F2) (fun _ => nm) k
  · cases h
theorem good_isi (C : CtxOk c ct Φ lf X sc fnb g) {T : Tyn} {a : Ex} {e : Expr} (iha : ∀ e, chk ct a sc fnb g e = true → Good c Φ X e a) (h : chk ct (.isi T a) sc fnb g e = true) : Good c Φ X e (.isi T a) := by
  unfold chk at h
  split at h
  · rename_i x a' b' hx
    rw [Bool.and_eq_true, Bool.and_eq_true, Bool.and_eq_true] at h
    obtain ⟨⟨hb, hb2⟩, hs, h1⟩ := h
    obtain ⟨p, q, rfl⟩ := dTwo_ok hx
    rw [chkB, Bool.and_eq_true, decide_eq_true_eq, glB, decide_eq_true_eq] at hb
    obtain ⟨rfl, hg⟩ := hb
    split at hb2 <;> try (cases hb2; done)
    rename_i y hy
    obtain ⟨p2, rfl⟩ := xName_ok hy
    rw [chkB, Bool.and_eq_true, decide_eq_true_eq, glB, decide_eq_true_eq] at hb2
    obtain ⟨rfl, hg2⟩ := hb2
    refine good_of C (fun m hm => ?_) rfl
    have ty : PE X (.Name (tyN T) p2) (tC (.ty (tyName T))) := pe_bltn (u := .type (tyName T)) (show X.env.scope.names.lookup _ = _ by rw [C.sc]; exact hg2) (C.bi _ (by cases T <;> decide)) (by cases T <;> kernel_rfl) (by rfl) (by cases T <;> decide) (by cases T <;> decide)
    have pa := pa_cons ((iha _ h1).pe .bo (fun z => by cases z)) (pa_cons ty pa_nil rfl) (star_cons hs)
    have hall : [a', .Name (tyN T) p2].all noStar = true := by rw [List.all_cons, hs]; rfl
    have key : PE X (.Call (.Name "isinstance" p) [a', .Name (tyN T) p2] [] q) (tCB (rIsT c T) (tCons (tE c Φ .bo a) (tCons (tC (.ty (tyName T))) tNil))) :=
      pe_callF (f := .builtin "isinstance") (.inl ⟨_, rfl⟩) (cr_isT C.K T) (show X.env.scope.names.lookup _ = _ by rw [C.sc]; exact hg) (C.bi _ (by decide)) (by kernel_rfl) (by decide) (by decide) pa hall
    refine PE.imp key fun σ H Q ⟨F, ρ, d, s, h, k⟩ => ?_
    simp only [ev, Option.bind_eq_some_iff, Option.map_eq_some_iff] at h
    obtain ⟨x, ea, t, hf, rfl⟩ := h
    exact ev1 s ea fun v F1 H1 e r => ⟨F1, v, x, t, rfl, e.ok, r, hf, fin_bl e.ok (kont e k)⟩
  · cases h
theorem good_tup (C : CtxOk c ct Φ lf X sc fnb g) {es : Exs} {e : Expr} (ih : ∀ xs, chks ct es sc fnb g xs = true → PA X xs (tA c Φ es)) (h : chk ct (.tup es) sc fnb g e = true) : Good c Φ X e (.tup es) := by
  unfold chk at h
  split at h
  · rename_i xs hx
    rw [Bool.and_eq_true] at h
    obtain ⟨k0, p, rfl⟩ := dTup_ok hx
    refine good_of C (fun m _ => PE.imp (pe_tup (ih _ h.2)) fun σ H Q ⟨F, ρ, d, s, h, k⟩ => ?_) rfl
    simp only [ev, Option.bind_eq_some_iff] at h
    obtain ⟨ds, hds, hd⟩ := h
    rw [gd_some] at hd
    obtain ⟨hl, hd⟩ := hd
    cases hd
    exact ⟨F, ρ, ds, s, hds, fun vs H1 F1 e1 a1 => ⟨by rw [DpAll.length a1, ← lim_eq]; exact hl, fun p hn => fin_tup e1 hn a1 k⟩⟩
  · cases h
theorem good_lst (C : CtxOk c ct Φ lf X sc fnb g) {es : Exs} {e : Expr} (ih : ∀ xs, chks ct es sc fnb g xs = true → PA X xs (tA c Φ es)) (h : chk ct (.lst es) sc fnb g e = true) : Good c Φ X e (.lst es) := by
  unfold chk at h
  split at h
  · rename_i xs hx
    rw [Bool.and_eq_true] at h
    obtain ⟨p, rfl⟩ := dLst_ok hx
    refine good_of C (fun m _ => PE.imp (pe_lst (ih _ h.2)) fun σ H Q ⟨F, ρ, d, s, h, k⟩ => ?_) rfl
    simp only [ev, Option.bind_eq_some_iff] at h
    obtain ⟨ds, hds, hd⟩ := h
    rw [gd_some] at hd
    obtain ⟨hl, hd⟩ := hd
    cases hd
    exact ⟨F, ρ, ds, s, hds, fun vs H1 F1 e1 a1 => ⟨by rw [DpAll.length a1, ← lim_eq]; exact hl, fun p hn => fin_lst e1 hn a1 k⟩⟩
  · cases h
theorem passes0 (X : Cx) : Passes CX0 X (fun _ _ _ => False) := fun _ _ _ _ _ _ _ h => h.elim
theorem good_call (C : CtxOk c ct Φ lf X sc fnb g) {f : Nat} {es : Exs} {e : Expr} (ih : ∀ xs, chks ct es sc fnb g xs = true → PA X xs (tA c Φ es)) (h : chk ct (.call f es) sc fnb g e = true) : Good c Φ X e (.call f es) := by
  unfold chk at h
  split at h
  · rename_i x xs hx
    rw [Bool.and_eq_true, Bool.and_eq_true, Bool.and_eq_true, Bool.and_eq_true, decide_eq_true_eq, glB, decide_eq_true_eq] at h
    obtain ⟨⟨hf, hg, hn⟩, hs, h1⟩ := h
    obtain ⟨p, q, rfl⟩ := dCall_ok hx
    obtain ⟨n1, n2, n3⟩ := okN_ok hn
    obtain ⟨fd, a, ps, m1, m2, m3, m4, m5⟩ := (C.fns x f hf).ex
    have hg' : Gl X x := show X.env.scope.names.lookup _ = _ by rw [C.sc]; exact hg
    refine good_of C (fun m hm => ?_) rfl
    have hm' : m ≠ .nw := fun z => absurd (hm z) (by simp [isNew])
    have key : PE X (.Call (.Name x p) xs [] q) (tCall (spD c.b Φ f ps.length) [] (fun _ _ _ => False) (tA c Φ es)) := by
      cases xs with
      | nil =>
        refine PE.imp (pe_call0 m4 C.room0 hg' m1 m2 m3 .nil (passes0 X) n1) fun σ H Q h => ?_
        obtain ⟨F, ρ, ds, s, hds, k⟩ := h
        have : ds = [] := by
          cases es with
          | nil => cases hds; rfl
          | cons e es => simp [chks] at h1
        subst this
        exact k [] H F (Ext.refl s.ok) .nil
      | cons x0 xs =>
        have hs' := hs
        rw [List.all_cons, Bool.and_eq_true] at hs'
        exact pe_call m4 C.room0 hg' m1 m2 m3 .nil (passes0 X) (ih _ h1) n1 (star_cons hs'.1) (star_any hs'.2)
    refine PE.imp key fun σ H Q ⟨F, ρ, d, s, h, k⟩ => ?_
    simp only [ev, Option.bind_eq_some_iff] at h
    obtain ⟨ds, hds, hd⟩ := h
    refine ⟨F, ρ, ds, s, hds, fun vs H1 F1 e1 a1 => ⟨by rw [List.append_nil, DpAll.length a1]; exact m5 _ _ hd, F1, ds, d, e1.ok.b, by rw [List.append_nil]; exact a1, hd, fun v H' F' e2 dp => k v H' F' (e1.trans (Ext.conv (c1 := c.b) rfl e1.ok e2)) ?_⟩⟩
    cases m with
    | fr => exact dp
    | bo => exact .inl dp
    | nw => exact absurd rfl hm'
  · cases h
end
end Cs

set_option maxHeartbeats 8000000
/-! The text against the core language: the whole of expressions. -/
noncomputable section
namespace Cs
open PySem PySem.Spec PyProof.Rows L2 GxR Ce Gx
section
variable {c : Cfg} {ct : Ctl} {Φ : Fns} {lf : Nat} {X : Cx} {sc : Scope} {fnb : Str → Bool} {g : Nat}
theorem good_rev (C : CtxOk c ct Φ lf X sc fnb g) {a : Ex} {e : Expr} (iha : ∀ e, chk ct a sc fnb g e = true → Good c Φ X e a) (h : chk ct (.rev a) sc fnb g e = true) : Good c Φ X e (.rev a) := by
  unfold chk at h
  split at h
  · rename_i a' hx
    obtain ⟨k0, p1, p2, p3, p, rfl⟩ := dRev_ok hx
    refine good_of C (fun m hm => PE.imp (pe_revA ((iha _ h).pe .bo (fun z => by cases z))) fun σ H Q ⟨F, ρ, d, s, h, k⟩ => ?_) rfl
    simp only [ev, Option.bind_eq_some_iff] at h
    obtain ⟨x, ea, hf⟩ := h
    refine ev1 s ea fun v F1 H1 e r => ?_
    cases x <;> try (simp [revd] at hf; done)
    · cases hf
      obtain ⟨a, xs, rfl, s1, a1⟩ := r.lst e.ok
      exact ⟨a, xs, rfl, .inl ⟨C.K ▸ s1, fun p hn => fin_lst e hn (DpAll.reverse a1) k⟩⟩
    · cases hf
      obtain ⟨a, xs, rfl, s1, a1, _⟩ := r.tup e.ok
      exact ⟨a, xs, rfl, .inr ⟨C.K ▸ s1, fun p hn => fin_tup e hn (DpAll.reverse a1) k⟩⟩
  · cases h
theorem rng_some {a b : Int} {ds : List PyData} (h : rng a b = some ds) : (-(2 ^ 62) ≤ a ∧ a < 2 ^ 62 ∧ -(2 ^ 62) ≤ b ∧ b < 2 ^ 62) ∧ (b - a).toNat ≤ LIM ∧ ds = (List.range (b - a).toNat).map fun k => PyData.int (a + (k : Nat)) := by
  unfold rng at h
  rw [gd_some] at h
  obtain ⟨hz, h⟩ := h
  cases h
  exact ⟨hz.1, hz.2, rfl⟩
theorem rgV_dp {K : PySem.W.Frag} {F : Hp} (a b : Int) : DpAll K F (rgV a b) ((List.range (b - a).toNat).map fun k => PyData.int (a + (k : Nat))) := by
  unfold rgV
  generalize List.range (b - a).toNat = l
  induction l with
  | nil => exact .nil
  | cons x l ih => exact .cons (.int _) ih
/-- a range as an argument -/
def tR (c : Cfg) (Φ : Fns) (i : Ce.It) : L2.St → Hp → (Int → Int → Hp → Prop) → Prop := fun σ H Q => ∃ F ρ ds, StE c F H σ ρ ∧ itms Φ i ρ true = some ds ∧ ∀ a b F' H', Ext c F H F' H' → rng a b = some ds → Q a b H'
theorem PRg.imp {X : Cx} {e : Expr} {t t' : L2.St → Hp → (Int → Int → Hp → Prop) → Prop} (h : PRg X e t) (i : ∀ σ H Q, t' σ H Q → t σ H Q) : PRg X e t' := fun pins s σ H Q I q => h pins s σ H Q I (i σ H Q q)
theorem good_conv (C : CtxOk c ct Φ lf X sc fnb g) {l : Bool} {i : Ce.It} {e : Expr} (ih : ∀ e, chkR ct i sc fnb g e = true → PRg X e (tR c Φ i)) (h : chk ct (.conv l i) sc fnb g e = true) : Good c Φ X e (.conv l i) := by
  unfold chk at h
  split at h
  · rename_i x a' hx
    rw [Bool.and_eq_true, Bool.and_eq_true] at h
    obtain ⟨hb, hs, h1⟩ := h
    obtain ⟨p, q, rfl⟩ := dOne_ok hx
    rw [chkB, Bool.and_eq_true, decide_eq_true_eq, glB, decide_eq_true_eq] at hb
    obtain ⟨rfl, hg⟩ := hb
    refine good_of C (fun m hm => ?_) rfl
    have hg' : Gl X (cvN l) := show X.env.scope.names.lookup _ = _ by rw [C.sc]; exact hg
    cases l with
    | true =>
      refine PE.imp (pe_listRg C.calm hg' (C.bi _ (by decide)) (ih _ h1) (star_cons hs)) fun σ H Q ⟨F, ρ, d, s, h, k⟩ => ?_
      simp only [ev, Option.map_eq_some_iff, if_true] at h
      obtain ⟨ds, hds, rfl⟩ := h
      refine ⟨F, ρ, ds, s, hds, fun a b F' H' e hr => ?_⟩
      obtain ⟨⟨b1, b2, b3, b4⟩, b5, rfl⟩ := rng_some hr
      exact ⟨⟨b1, b2, b3, b4, b5⟩, fun q hn => fin_lst e hn (rgV_dp a b) k⟩
    | false =>
      refine PE.imp (pe_tupRg C.calm hg' (C.bi _ (by decide)) (ih _ h1) (star_cons hs)) fun σ H Q ⟨F, ρ, d, s, h, k⟩ => ?_
      simp only [ev, Option.map_eq_some_iff, Bool.false_eq_true, if_false] at h
      obtain ⟨ds, hds, rfl⟩ := h
      refine ⟨F, ρ, ds, s, hds, fun a b F' H' e hr => ?_⟩
      obtain ⟨⟨b1, b2, b3, b4⟩, b5, rfl⟩ := rng_some hr
      exact ⟨⟨b1, b2, b3, b4, b5⟩, fun q hn => fin_tup e hn (rgV_dp a b) k⟩
  · cases h
theorem lc_imp {el : Ex} {t : Tg} {i : Ce.It} {ifs : Exo} {m : Md} {σ : L2.St} {H : Hp} {Q : VK} (h : tE c Φ m (.lc el t i ifs) σ H Q) (N : List Str) : tLc (tI c Φ true i) (tG c t) (tO c Φ ifs) (tE c Φ .fr el) ((ownOf N (slots t)).map (·.2)) σ H Q := by
  obtain ⟨F, ρ, d, s, h, k⟩ := h
  simp only [ev, Option.bind_eq_some_iff] at h
  obtain ⟨ds, hds, h⟩ := h
  rw [gd_some] at h
  obtain ⟨hl, h⟩ := h
  rw [Option.map_eq_some_iff] at h
  obtain ⟨ys, hy, rfl⟩ := h
  refine ⟨F, ρ, ds, s, hds, fun J H1 F1 e1 fd => ?_⟩
  rw [own_map]
  exact lc_go e1 s fd hl hy k
theorem good_lc (C : CtxOk c ct Φ lf X sc fnb g) {el : Ex} {t : Tg} {i : Ce.It} {ifs : Exo} {e : Expr}
    (ihe : ∀ {X sc fnb g e}, CtxOk c ct Φ lf X sc fnb g → chk ct el sc fnb g e = true → Good c Φ X e el) (ihi : ∀ tg e, chkI ct i sc fnb g tg e = true → PI X tg e (tI c Φ true i))
    (iho : ∀ {X sc fnb g es}, CtxOk c ct Φ lf X sc fnb g → chko ct ifs sc fnb g es = true → PTs X es (tO c Φ ifs)) (h : chk ct (.lc el t i ifs) sc fnb g e = true) : Good c Φ X e (.lc el t i ifs) := by
  unfold chk at h
  split at h
  · rename_i m0 hx
    simp only [Bool.and_eq_true] at h
    obtain ⟨⟨h1, h2⟩, ⟨h3, h4⟩, h5, h6⟩ := h
    obtain ⟨p, rfl⟩ := dLc_ok hx
    have ok := blkOk_by h1
    rw [← C.sc, ← C.N] at ok
    refine good_of C (fun m _ => PE.imp (pe_lc C.calm (by rw [C.N]; exact C.nd) (ihi _ _ h3) ok (fun s H c0 cl fp => sG t (C.blk m0.scope s H c0 cl fp) h4) (fun s H c0 cl fp => iho (C.blk m0.scope s H c0 cl fp) h6) (fun s H c0 cl fp => (ihe (C.blk m0.scope s H c0 cl fp) h5).pe .fr (fun z => by cases z)) (plain_fold h2).1) fun σ H Q h => lc_imp h _) rfl
  · cases h
theorem lc_imp2 {el : Ex} {t t1 : Tg} {i i1 : Ce.It} {ifs ifs1 : Exo} {m : Md} {σ : L2.St} {H : Hp} {Q : VK} (h : tE c Φ m (.lc2 el t i ifs t1 i1 ifs1) σ H Q) (N : List Str) : tLc2 (tI c Φ true i) (tG c t) (tO c Φ ifs) (tI c Φ false i1) (tG c t1) (tO c Φ ifs1) (tE c Φ .fr el) ((ownOf N (slots t ++ slots t1)).map (·.2)) (slots t1) σ H Q := by
  obtain ⟨F, ρ, d, s, h, k⟩ := h
  simp only [ev, Option.bind_eq_some_iff] at h
  obtain ⟨ds, hds, ys, hy, h⟩ := h
  rw [gd_some] at h
  obtain ⟨hl, h⟩ := h
  cases h
  refine ⟨F, ρ, ds, s, hds, fun J H1 F1 e1 fd => ?_⟩
  rw [own_map]
  exact lc_go2 e1 s fd hl hy k
theorem good_lc2 (C : CtxOk c ct Φ lf X sc fnb g) {el : Ex} {t t1 : Tg} {i i1 : Ce.It} {ifs ifs1 : Exo} {e : Expr}
    (ihe : ∀ {X sc fnb g e}, CtxOk c ct Φ lf X sc fnb g → chk ct el sc fnb g e = true → Good c Φ X e el) (ihi : ∀ tg e, chkI ct i sc fnb g tg e = true → PI X tg e (tI c Φ true i))
    (iho : ∀ {X sc fnb g es}, CtxOk c ct Φ lf X sc fnb g → chko ct ifs sc fnb g es = true → PTs X es (tO c Φ ifs)) (ihi1 : ∀ {X sc fnb g}, CtxOk c ct Φ lf X sc fnb g → ∀ tg e, chkI ct i1 sc fnb g tg e = true → PI X tg e (tI c Φ false i1))
    (iho1 : ∀ {X sc fnb g es}, CtxOk c ct Φ lf X sc fnb g → chko ct ifs1 sc fnb g es = true → PTs X es (tO c Φ ifs1)) (h : chk ct (.lc2 el t i ifs t1 i1 ifs1) sc fnb g e = true) : Good c Φ X e (.lc2 el t i ifs t1 i1 ifs1) := by
  unfold chk at h
  split at h
  · rename_i m0 hx
    simp only [Bool.and_eq_true] at h
    obtain ⟨⟨h1, h2, h2'⟩, ⟨h3, h4⟩, ⟨h3', h4'⟩, h5, h6, h6'⟩ := h
    obtain ⟨p, rfl⟩ := dLc2_ok hx
    have ok := blkOk_by h1
    rw [← C.sc, ← C.N] at ok
    refine good_of C (fun m _ => PE.imp (pe_lc2 C.calm (by rw [C.N]; exact C.nd) (ihi _ _ h3) ok (fun i hi => by rw [own_map]; exact List.mem_append_right _ hi) (fun s H c0 cl fp => sG t (C.blk m0.scope s H c0 cl fp) h4) (fun s H c0 cl fp => iho (C.blk m0.scope s H c0 cl fp) h6) (fun s H c0 cl fp => ihi1 (C.blk m0.scope s H c0 cl fp) _ _ h3') (fun s H c0 cl fp => sG t1 (C.blk m0.scope s H c0 cl fp) h4') (fun s H c0 cl fp => iho1 (C.blk m0.scope s H c0 cl fp) h6') (fun s H c0 cl fp => (ihe (C.blk m0.scope s H c0 cl fp) h5).pe .fr (fun z => by cases z)) (plain_fold h2).1 (fun env => (plain_fold (env := env) h2').1)) fun σ H Q h => lc_imp2 h _) rfl
  · cases h
theorem Feeds.at {c : Cfg} {F H F2 H2 : Hp} {J : L2.It} {ds : List PyData} {q : Addr × Addr} (fd : Feeds c false F H J ds) (e : Ext c F H F2 H2) (hq : F2 q.1 = some (CodeX q.1 q.2)) : Feeds (c.at q) false F2 H2 J ds := by
  refine ⟨fun F1 H1 e1 i => ?_⟩
  have e1 : Ext (c.at q) F2 H2 F1 H1 := e1
  obtain ⟨h1, h2, h3⟩ := fd.run F1 H1 (show Ext c F H F1 H1 from e.trans (Ext.conv (c1 := c.at q) rfl e.ok e1)) i
  refine ⟨h1, fun d hd x H3 y => ?_, h3⟩
  obtain ⟨F3, e3, dp⟩ := h2 d hd x H3 y
  exact ⟨F3, Ext.conv (c := c.at q) (c1 := c) rfl e1.ok e3, dp⟩
theorem StE.at {c : Cfg} {F H : Hp} {σ : L2.St} {ρ : Rho} {q : Addr × Addr} (s : StE c F H σ ρ) (hq : F q.1 = some (CodeX q.1 q.2)) : StE (c.at q) F H σ ρ := ⟨s.ok.at hq, s.len, s.slot, s.own⟩
theorem good_gen (C : CtxOk c ct Φ lf X sc fnb g) {b0 : Bool} {el : Ex} {t : Tg} {i : Ce.It} {ifs : Exo} {e : Expr}
    (ihe : ∀ {c X sc fnb g e}, CtxOk c ct Φ lf X sc fnb g → chk ct el sc fnb g e = true → Good c Φ X e el) (ihi : ∀ tg e, chkI ct i sc fnb g tg e = true → PI X tg e (tI c Φ true i))
    (iho : ∀ {c X sc fnb g es}, CtxOk c ct Φ lf X sc fnb g → chko ct ifs sc fnb g es = true → PTs X es (tO c Φ ifs)) (h : chk ct (.gen b0 el t i ifs) sc fnb g e = true) : Good c Φ X e (.gen b0 el t i ifs) := by
  unfold chk at h
  split at h
  · rename_i x e' hx
    rw [Bool.and_eq_true, Bool.and_eq_true, decide_eq_true_eq] at h
    obtain ⟨⟨hgt, hb⟩, h⟩ := h
    obtain ⟨g', rfl⟩ : ∃ k, g = k + 1 := ⟨g - 1, by omega⟩
    rw [Nat.add_sub_cancel] at h
    split at h
    · rename_i m0 hx2
      simp only [Bool.and_eq_true] at h
      obtain ⟨⟨h1, h2⟩, ⟨h3, h4⟩, h5, h6⟩ := h
      obtain ⟨p, q, rfl⟩ := dOne_ok hx
      obtain ⟨gp, rfl⟩ := dGen_ok hx2
      rw [chkB, Bool.and_eq_true, decide_eq_true_eq, glB, decide_eq_true_eq] at hb
      obtain ⟨rfl, hg⟩ := hb
      have S : GenOk X.N X.env.scope m0.scope (ownOf ct.N (slots t)) := by rw [C.sc, C.N]; exact genC_ok h1
      obtain ⟨Cd, P, hcode, TB, hsrc⟩ := C.tb (by omega)
      have hg' : Gl X (gnN b0) := show X.env.scope.names.lookup _ = _ by rw [C.sc]; exact hg
      have key : PE X (.Call (.Name (gnN b0) p) [.GeneratorExp m0.elt [⟨m0.tg, m0.iter, m0.ifs, 0⟩] m0.scope gp] [] q) (tGen b0 X.base Cd P gp (tI c Φ true i) (fun c' P' => tG (c.at (c', P')) t) (fun c' P' => tO (c.at (c', P')) Φ ifs) (fun c' P' => tE (c.at (c', P')) Φ .bo el) ((ownOf ct.N (slots t)).map (·.2))) := by
        have pg : ∀ (s : Shared) (H : Hp) (C0 : Addr) (c' P' : Addr) (fp : List Addr) (go : Addr × Obj), PG (CxGen X s H (genEnv m0.scope (cloFrom X.env.cells m0.scope.names []) C0 (.ref c') builtinsNs X.env) fp go) m0.tg (tG (c.at (c', P')) t) := fun s H C0 c' P' fp go => sG t (C.gen m0.scope s H C0 _ (c', P') fp go) h4
        have pt : ∀ (s : Shared) (H : Hp) (C0 : Addr) (c' P' : Addr) (fp : List Addr) (go : Addr × Obj), PTs (CxGen X s H (genEnv m0.scope (cloFrom X.env.cells m0.scope.names []) C0 (.ref c') builtinsNs X.env) fp go) m0.ifs (tO (c.at (c', P')) Φ ifs) := fun s H C0 c' P' fp go => iho (C.gen m0.scope s H C0 _ (c', P') fp go) h6
        have pe : ∀ (s : Shared) (H : Hp) (C0 : Addr) (c' P' : Addr) (fp : List Addr) (go : Addr × Obj), PE (CxGen X s H (genEnv m0.scope (cloFrom X.env.cells m0.scope.names []) C0 (.ref c') builtinsNs X.env) fp go) m0.elt (tE (c.at (c', P')) Φ .bo el) := fun s H C0 c' P' fp go => (ihe (C.gen m0.scope s H C0 _ (c', P') fp go) h5).pe .bo (fun z => by cases z)
        cases b0 with
        | true => exact pe_allG C.room C.calm (by rw [C.N]; exact C.nd) hg' (C.bi _ (by decide)) TB hcode S (ihi _ _ h3) pg pt pe (plain_fold h2).2
        | false => exact pe_anyG C.room C.calm (by rw [C.N]; exact C.nd) hg' (C.bi _ (by decide)) TB hcode S (ihi _ _ h3) pg pt pe (plain_fold h2).2
      refine good_of C (fun m _ => PE.imp key fun σ H Q ⟨F, ρ, d, s, h, k⟩ => ?_) rfl
      simp only [ev, Option.bind_eq_some_iff] at h
      obtain ⟨ds, hds, h⟩ := h
      rw [Option.map_eq_some_iff] at h
      obtain ⟨r, hy, rfl⟩ := h
      refine ⟨F, ρ, ds, s, hds, fun J H1 F1 e1 fd => ?_⟩
      have hT : TabF F1 H1 P := by
        rcases hsrc with z | z
        · exact e1.ok.tab P z.1
        · exact e1.ok.tabs _ _ (e1.ok.fr _ z)
      have hC : CdAt X.base H1 Cd P := by
        rcases hsrc with z | z
        · exact .inl z.2
        · exact .inr (e1.ok.fh _ _ (e1.ok.fr _ z))
      refine ⟨hT.g, hC, fun H2 code tx => ?_⟩
      obtain ⟨F2, c', P', hcc, hF2, e2⟩ := Ext.tabX e1.ok hT tx
      refine ⟨c', P', hcc, ?_⟩
      rw [own_map]
      have s2 : StE (c.at (c', P')) F2 H2 σ ρ := StE.at (s.ext (e1.trans e2)) hF2
      have := gen_go (c := c.at (c', P')) (m := m) (Q := Q) (Ext.refl s2.ok) s2 (fd.at e2 hF2) hy (fun v H' F' e3 f3 => k v H' F' ((e1.trans e2).trans (Ext.conv (c := c) (c1 := c.at (c', P')) rfl (e1.trans e2).ok e3)) (Fin.base (e1.trans e2) (show Fin c m F2 H2 F' H' v _ from f3))) H2 F2 (Ext.refl s2.ok)
      exact this
    · cases h
  · cases h

theorem good_gen2 (C : CtxOk c ct Φ lf X sc fnb g) {b0 : Bool} {el : Ex} {t t1 : Tg} {i i1 : Ce.It} {ifs ifs1 : Exo} {e : Expr}
    (ihe : ∀ {X sc fnb g e}, CtxOk c ct Φ lf X sc fnb g → chk ct el sc fnb g e = true → Good c Φ X e el) (ihi : ∀ tg e, chkI ct i sc fnb g tg e = true → PI X tg e (tI c Φ true i))
    (iho : ∀ {X sc fnb g es}, CtxOk c ct Φ lf X sc fnb g → chko ct ifs sc fnb g es = true → PTs X es (tO c Φ ifs)) (ihi1 : ∀ {X sc fnb g}, CtxOk c ct Φ lf X sc fnb g → ∀ tg e, chkI ct i1 sc fnb g tg e = true → PI X tg e (tI c Φ false i1))
    (iho1 : ∀ {X sc fnb g es}, CtxOk c ct Φ lf X sc fnb g → chko ct ifs1 sc fnb g es = true → PTs X es (tO c Φ ifs1)) (h : chk ct (.gen2 b0 el t i ifs t1 i1 ifs1) sc fnb g e = true) : Good c Φ X e (.gen2 b0 el t i ifs t1 i1 ifs1) := by
  unfold chk at h
  split at h
  · rename_i x e' hx
    rw [Bool.and_eq_true, Bool.and_eq_true, decide_eq_true_eq] at h
    obtain ⟨⟨hgt, hb⟩, h⟩ := h
    obtain ⟨g', rfl⟩ : ∃ k, g = k + 1 := ⟨g - 1, by omega⟩
    split at h
    · rename_i m0 hx2
      simp only [Bool.and_eq_true] at h
      obtain ⟨⟨h1, h2, h2'⟩, ⟨h3, h4⟩, ⟨h3', h4'⟩, h5, h6, h6'⟩ := h
      obtain ⟨p, q, rfl⟩ := dOne_ok hx
      obtain ⟨gp, rfl⟩ := dGen2_ok hx2
      rw [chkB, Bool.and_eq_true, decide_eq_true_eq, glB, decide_eq_true_eq] at hb
      obtain ⟨rfl, hg⟩ := hb
      have S : GenOk X.N X.env.scope m0.scope (ownOf ct.N (slots t ++ slots t1)) := by rw [C.sc, C.N]; exact genC_ok h1
      obtain ⟨Cd, P, hcode, TB, hsrc⟩ := C.tb (by omega)
      have hg' : Gl X (gnN b0) := show X.env.scope.names.lookup _ = _ by rw [C.sc]; exact hg
      have hv : ∀ i ∈ slots t1, i ∈ (ownOf ct.N (slots t ++ slots t1)).map (·.2) := fun i hi => by rw [own_map]; exact List.mem_append_right _ hi
      have key : PE X (.Call (.Name (gnN b0) p) [.GeneratorExp m0.elt [⟨m0.tg, m0.iter, m0.ifs, 0⟩, ⟨m0.tg1, m0.iter1, m0.ifs1, 0⟩] m0.scope gp] [] q) (tGen2 b0 X.base Cd P gp (tI c Φ true i) (tG c t) (tO c Φ ifs) (tI c Φ false i1) (tG c t1) (tO c Φ ifs1) (tE c Φ .bo el) ((ownOf ct.N (slots t ++ slots t1)).map (·.2)) (slots t1)) := by
        have pg : ∀ (s : Shared) (H : Hp) (C0 : Addr) (code : Value) (fp : List Addr) (go : Addr × Obj), PG (CxGen X s H (genEnv m0.scope (cloFrom X.env.cells m0.scope.names []) C0 code builtinsNs X.env) fp go) m0.tg (tG c t) := fun s H C0 code fp go => sG t (C.gen0 m0.scope s H C0 _ code fp go) h4
        have pt : ∀ (s : Shared) (H : Hp) (C0 : Addr) (code : Value) (fp : List Addr) (go : Addr × Obj), PTs (CxGen X s H (genEnv m0.scope (cloFrom X.env.cells m0.scope.names []) C0 code builtinsNs X.env) fp go) m0.ifs (tO c Φ ifs) := fun s H C0 code fp go => iho (C.gen0 m0.scope s H C0 _ code fp go) h6
        have pe : ∀ (s : Shared) (H : Hp) (C0 : Addr) (code : Value) (fp : List Addr) (go : Addr × Obj), PE (CxGen X s H (genEnv m0.scope (cloFrom X.env.cells m0.scope.names []) C0 code builtinsNs X.env) fp go) m0.elt (tE c Φ .bo el) := fun s H C0 code fp go => (ihe (C.gen0 m0.scope s H C0 _ code fp go) h5).pe .bo (fun z => by cases z)
        have pi1 : ∀ (s : Shared) (H : Hp) (C0 : Addr) (code : Value) (fp : List Addr) (go : Addr × Obj), PI (CxGen X s H (genEnv m0.scope (cloFrom X.env.cells m0.scope.names []) C0 code builtinsNs X.env) fp go) m0.tg1 m0.iter1 (tI c Φ false i1) := fun s H C0 code fp go => ihi1 (C.gen0 m0.scope s H C0 _ code fp go) _ _ h3'
        have pg1 : ∀ (s : Shared) (H : Hp) (C0 : Addr) (code : Value) (fp : List Addr) (go : Addr × Obj), PG (CxGen X s H (genEnv m0.scope (cloFrom X.env.cells m0.scope.names []) C0 code builtinsNs X.env) fp go) m0.tg1 (tG c t1) := fun s H C0 code fp go => sG t1 (C.gen0 m0.scope s H C0 _ code fp go) h4'
        have pt1 : ∀ (s : Shared) (H : Hp) (C0 : Addr) (code : Value) (fp : List Addr) (go : Addr × Obj), PTs (CxGen X s H (genEnv m0.scope (cloFrom X.env.cells m0.scope.names []) C0 code builtinsNs X.env) fp go) m0.ifs1 (tO c Φ ifs1) := fun s H C0 code fp go => iho1 (C.gen0 m0.scope s H C0 _ code fp go) h6'
        cases b0 with
        | true => exact pe_allG2 C.room C.calm (by rw [C.N]; exact C.nd) hg' (C.bi _ (by decide)) TB hcode S (ihi _ _ h3) pg pt pe pi1 pg1 pt1 hv (fun env => (plain_fold (env := env) h2').1) (plain_fold h2).2
        | false => exact pe_anyG2 C.room C.calm (by rw [C.N]; exact C.nd) hg' (C.bi _ (by decide)) TB hcode S (ihi _ _ h3) pg pt pe pi1 pg1 pt1 hv (fun env => (plain_fold (env := env) h2').1) (plain_fold h2).2
      refine good_of C (fun m _ => PE.imp key fun σ H Q ⟨F, ρ, d, s, h, k⟩ => ?_) rfl
      simp only [ev, Option.bind_eq_some_iff] at h
      obtain ⟨ds, hds, h⟩ := h
      rw [Option.map_eq_some_iff] at h
      obtain ⟨r, hy, rfl⟩ := h
      refine ⟨F, ρ, ds, s, hds, fun J H1 F1 e1 fd => ?_⟩
      have hT : TabF F1 H1 P := by
        rcases hsrc with z | z
        · exact e1.ok.tab P z.1
        · exact e1.ok.tabs _ _ (e1.ok.fr _ z)
      have hC : CdAt X.base H1 Cd P := by
        rcases hsrc with z | z
        · exact .inl z.2
        · exact .inr (e1.ok.fh _ _ (e1.ok.fr _ z))
      refine ⟨hT.g, hC, fun H2 code tx => ?_⟩
      obtain ⟨F2, c', P', hcc, hF2, e2⟩ := Ext.tabX e1.ok hT tx
      rw [own_map]
      exact gen_go2 e1 s fd hy k H2 F2 e2
    · cases h
  · cases h

/-! ### the whole -/
theorem pi_ex (C : CtxOk c ct Φ lf X sc fnb g) {a : Ex} {tg e : Expr} (G : Good c Φ X e a) (bor : Bool) : PI X tg e (tI c Φ bor (.ex a)) := by
  refine PI.imp (pi_seq (G.pe (if bor = true then .bo else .fr) (fun z => by cases bor <;> cases z))) fun σ H R ⟨F, ρ, ds, s, h, k⟩ => ?_
  simp only [itms, Option.bind_eq_some_iff] at h
  obtain ⟨d, hd, hs⟩ := h
  cases bor with
  | true =>
    refine ⟨F, ρ, d, s, hd, fun v H1 F1 e1 f1 => ?_⟩
    rw [← C.K]
    exact feeds_seq (full := false) e1.ok hs f1 fun J fd => k J H1 F1 e1 fd
  | false =>
    refine ⟨F, ρ, d, s, hd, fun v H1 F1 e1 f1 => ?_⟩
    rw [← C.K]
    exact feeds_seq (full := true) e1.ok hs f1 fun J fd => k J H1 F1 e1 fd
theorem pi_r1 (C : CtxOk c ct Φ lf X sc fnb g) {a : Ex} {tg a' : Expr} {p q : Pos} (G : Good c Φ X a' a) (hg : sc.names.lookup ("range" : Str) = some NameKind.globalImplicit) (hs : noStar a' = true) (bor : Bool) : PI X tg (.Call (.Name "range" p) [a'] [] q) (tI c Φ bor (.rng1 a)) := by
  refine PI.imp (pi_range1 (show X.env.scope.names.lookup _ = _ by rw [C.sc]; exact hg) (C.bi _ (by decide)) (pa_cons (G.pe .bo (fun z => by cases z)) pa_nil (star_cons hs)) (star_cons hs)) fun σ H R ⟨F, ρ, ds, s, h, k⟩ => ?_
  simp only [itms, Option.bind_eq_some_iff] at h
  obtain ⟨d, hd, h⟩ := h
  cases d <;> try (cases h; done)
  obtain ⟨⟨b1, b2, b3, b4⟩, b5, rfl⟩ := rng_some h
  refine ev1 s hd fun v F1 H1 e1 r1 => ⟨_, by rw [r1.int], b3, b4, k _ H1 F1 e1 ?_⟩
  have := feeds_rng (c := c) (F := F1) (H := H1) (lo := 0) (n := (‹Int› - 0).toNat)
  rw [Int.sub_zero] at this ⊢
  exact this.weak
theorem pi_r2 (C : CtxOk c ct Φ lf X sc fnb g) {a b : Ex} {tg a' b' : Expr} {p q : Pos} (G : Good c Φ X a' a) (G2 : Good c Φ X b' b) (hg : sc.names.lookup ("range" : Str) = some NameKind.globalImplicit) (hs : noStar a' = true) (hs2 : noStar b' = true) (bor : Bool) : PI X tg (.Call (.Name "range" p) [a', b'] [] q) (tI c Φ bor (.rng2 a b)) := by
  refine PI.imp (pi_range2 (show X.env.scope.names.lookup _ = _ by rw [C.sc]; exact hg) (C.bi _ (by decide)) (pa_cons (G.pe .bo (fun z => by cases z)) (pa_cons (G2.pe .bo (fun z => by cases z)) pa_nil (star_cons hs2)) (star_cons hs)) (by rw [star_cons hs, star_cons hs2]; rfl) (by rw [star_cons hs2]; rfl)) fun σ H R ⟨F, ρ, ds, s, h, k⟩ => ?_
  simp only [itms, Option.bind_eq_some_iff] at h
  obtain ⟨d, hd, d2, hd2, h⟩ := h
  cases d <;> cases d2 <;> try (cases h; done)
  obtain ⟨⟨b1, b2, b3, b4⟩, b5, rfl⟩ := rng_some h
  exact ev2 s hd hd2 fun v w F1 H1 e1 r1 r2 => ⟨_, _, by rw [r1.int, r2.int], ⟨b1, b2, b3, b4⟩, k _ H1 F1 e1 feeds_rng.weak⟩
theorem pi_en (C : CtxOk c ct Φ lf X sc fnb g) {a : Ex} {tg a' : Expr} {p q : Pos} (G : Good c Φ X a' a) (hg : sc.names.lookup ("enumerate" : Str) = some NameKind.globalImplicit) (hs : noStar a' = true) (ht : (dTup tg).isSome = true) (bor : Bool) : PI X tg (.Call (.Name "enumerate" p) [a'] [] q) (tI c Φ bor (.enum a)) := by
  obtain ⟨es, he⟩ := Option.isSome_iff_exists.mp ht
  obtain ⟨k0, tp, rfl⟩ := dTup_ok he
  refine PI.imp (pi_enumA (show X.env.scope.names.lookup _ = _ by rw [C.sc]; exact hg) (C.bi _ (by decide)) (pa_cons (G.pe (if bor = true then .bo else .fr) (fun z => by cases bor <;> cases z)) pa_nil (star_cons hs)) (star_cons hs)) fun σ H R ⟨F, ρ, ds, s, h, k⟩ => ?_
  simp only [itms, Option.bind_eq_some_iff, Option.map_eq_some_iff] at h
  obtain ⟨d, hd, ds0, hs, rfl⟩ := h
  cases bor with
  | true =>
    refine ⟨F, ρ, d, s, hd, fun v H1 F1 e1 f1 => ?_⟩
    have f1 : Rq c.K F1 H1 v d := f1
    rcases f1 with f1 | ⟨a0, xs, ds', rfl, rfl, h3, h4⟩
    · cases d <;> simp [seq?] at hs
      · subst hs
        cases f1 with
        | lst hs ha => exact ⟨_, rfl, .inl ⟨⟨_, C.K ▸ sql_mono e1.ok.fhT hs⟩, k _ H1 F1 e1 (C.K ▸ feeds_enum (full := false) (feeds_list hs ha).weak)⟩⟩
      · subst hs
        cases f1 with
        | tup hs ha => exact ⟨_, rfl, .inr ⟨⟨_, C.K ▸ sqt_mono e1.ok.fhT hs⟩, k _ H1 F1 e1 (C.K ▸ feeds_enumT (full := false) (feeds_tup hs ha).weak)⟩⟩
    · cases hs
      exact ⟨_, rfl, .inl ⟨⟨_, SqL.of h3⟩, k _ H1 F1 e1 (C.K ▸ feeds_enum (full := false) (feeds_listB h3 h4))⟩⟩
  | false =>
    refine ⟨F, ρ, d, s, hd, fun v H1 F1 e1 f1 => ?_⟩
    have f1 : Dp c.K F1 v d := f1
    cases d <;> simp [seq?] at hs
    · subst hs
      cases f1 with
      | lst hs ha => exact ⟨_, rfl, .inl ⟨⟨_, C.K ▸ sql_mono e1.ok.fhT hs⟩, k _ H1 F1 e1 (C.K ▸ feeds_enum (full := true) (feeds_list hs ha))⟩⟩
    · subst hs
      cases f1 with
      | tup hs ha => exact ⟨_, rfl, .inr ⟨⟨_, C.K ▸ sqt_mono e1.ok.fhT hs⟩, k _ H1 F1 e1 (C.K ▸ feeds_enumT (full := true) (feeds_tup hs ha))⟩⟩
theorem pi_zp (C : CtxOk c ct Φ lf X sc fnb g) {a b : Ex} {tg a' b' : Expr} {p q : Pos} (G : Good c Φ X a' a) (G2 : Good c Φ X b' b) (hg : sc.names.lookup ("zip" : Str) = some NameKind.globalImplicit) (hs : noStar a' = true) (hs2 : noStar b' = true) (ht : (dTup tg).isSome = true) (bor : Bool) : PI X tg (.Call (.Name "zip" p) [a', b'] [] q) (tI c Φ bor (.zip a b)) := by
  obtain ⟨es, he⟩ := Option.isSome_iff_exists.mp ht
  obtain ⟨k0, tp, rfl⟩ := dTup_ok he
  refine PI.imp (RZ.pi_zipA (show X.env.scope.names.lookup _ = _ by rw [C.sc]; exact hg) (C.bi _ (by decide)) (pa_cons (G.pe .fr (fun z => by cases z)) (pa_cons (G2.pe .fr (fun z => by cases z)) pa_nil (star_cons hs2)) (star_cons hs)) (by rw [star_cons hs]) (by rw [star_cons hs2]; rfl)) fun σ H R ⟨F, ρ, ds, s, h, k⟩ => ?_
  simp only [itms, Option.bind_eq_some_iff] at h
  obtain ⟨d, hd, d2, hd2, h⟩ := h
  refine ⟨F, ρ, d, s, hd, fun v H1 F1 e1 f1 => ⟨F1, ρ, d2, s.ext e1, hd2, fun w H2 F2 e2 f2 => ?_⟩⟩
  have f1 : Dp c.K F1 v d := f1
  have f2 : Dp c.K F2 w d2 := f2
  have f1' := dp_mono e2.fkT _ _ f1
  unfold zipd at h
  split at h <;> try (cases h; done)
  · cases h
    cases f1' with
    | lst q1 q2 => cases f2 with
      | lst q3 q4 => exact ⟨_, _, _, _, rfl, .inl ⟨C.K ▸ sql_mono e2.ok.fhT q1, C.K ▸ sql_mono e2.ok.fhT q3, k _ H2 F2 (e1.trans e2) (C.K ▸ (feeds_zipL q1 q2 q3 q4).weak)⟩⟩
  · cases h
    cases f1' with
    | tup q1 q2 => cases f2 with
      | tup q3 q4 => exact ⟨_, _, _, _, rfl, .inr ⟨C.K ▸ sqt_mono e2.ok.fhT q1, C.K ▸ sqt_mono e2.ok.fhT q3, k _ H2 F2 (e1.trans e2) (C.K ▸ (feeds_zipT q1 q2 q3 q4).weak)⟩⟩
theorem pi_rv0 (C : CtxOk c ct Φ lf X sc fnb g) {a : Ex} {tg a' : Expr} {p q : Pos} (G : Good c Φ X a' a) (hg : sc.names.lookup ("reversed" : Str) = some NameKind.globalImplicit) (hs : noStar a' = true) (bor : Bool) : PI X tg (.Call (.Name "reversed" p) [a'] [] q) (tI c Φ bor (.rv a)) := by
  refine PI.imp (RT.pi_revA (show X.env.scope.names.lookup _ = _ by rw [C.sc]; exact hg) (C.bi _ (by decide)) (G.pe .fr (fun z => by cases z)) (star_cons hs)) fun σ H R ⟨F, ρ, ds, s, h, k⟩ => ?_
  simp only [itms, Option.bind_eq_some_iff, Option.map_eq_some_iff] at h
  obtain ⟨d, hd, ds0, h, rfl⟩ := h
  refine ⟨F, ρ, d, s, hd, fun v H1 F1 e1 f1 => ?_⟩
  have f1 : Dp c.K F1 v d := f1
  cases d <;> simp [seq?] at h
  · subst h
    cases f1 with
    | lst q1 q2 => exact ⟨_, _, rfl, .inl ⟨C.K ▸ sql_mono e1.ok.fhT q1, k _ H1 F1 e1 (C.K ▸ (feeds_revL q1 q2).weak)⟩⟩
  · subst h
    cases f1 with
    | tup q1 q2 => exact ⟨_, _, rfl, .inr ⟨C.K ▸ sqt_mono e1.ok.fhT q1, k _ H1 F1 e1 (C.K ▸ (feeds_revT q1 q2).weak)⟩⟩
theorem pi_rr0 (C : CtxOk c ct Φ lf X sc fnb g) {i : Ce.It} {tg a' : Expr} {p q : Pos} (G : PRg X a' (tR c Φ i)) (hi : (∃ a, i = .rng1 a) ∨ ∃ a b, i = .rng2 a b) (hg : sc.names.lookup ("reversed" : Str) = some NameKind.globalImplicit) (hs : noStar a' = true) (bor : Bool) : PI X tg (.Call (.Name "reversed" p) [a'] [] q) (tI c Φ bor (.rrng i)) := by
  refine PI.imp (L2.pi_revR (show X.env.scope.names.lookup _ = _ by rw [C.sc]; exact hg) (C.bi _ (by decide)) G (star_cons hs)) fun σ H R ⟨F, ρ, ds, s, h, k⟩ => ?_
  have h : (itms Φ i ρ true).map List.reverse = some ds := by
    rcases hi with ⟨a, rfl⟩ | ⟨a, b, rfl⟩
    · simpa only [itms_e6] using h
    · simpa only [itms_e7] using h
  rw [Option.map_eq_some_iff] at h
  obtain ⟨es, hes, rfl⟩ := h
  refine ⟨F, ρ, es, s, hes, fun a b F' H' e hr => ?_⟩
  obtain ⟨⟨b1, b2, b3, b4⟩, b5, rfl⟩ := rng_some hr
  exact ⟨b1, b2, b3, b4, k _ H' F' e feeds_rrng.weak⟩
theorem prg_r1 (C : CtxOk c ct Φ lf X sc fnb g) {a : Ex} {a' : Expr} {p q : Pos} (G : Good c Φ X a' a) (hg : sc.names.lookup ("range" : Str) = some NameKind.globalImplicit) (hs : noStar a' = true) : PRg X (.Call (.Name "range" p) [a'] [] q) (tR c Φ (.rng1 a)) := by
  refine PRg.imp (prg_1 (show X.env.scope.names.lookup _ = _ by rw [C.sc]; exact hg) (C.bi _ (by decide)) (G.pe .bo (fun z => by cases z)) (star_cons hs)) fun σ H R ⟨F, ρ, ds, s, h, k⟩ => ?_
  simp only [itms, Option.bind_eq_some_iff] at h
  obtain ⟨d, hd, h⟩ := h
  cases d <;> try (cases h; done)
  exact ev1 s hd fun v F1 H1 e1 r1 => ⟨_, r1.int, k _ _ F1 H1 e1 h⟩
theorem prg_r2 (C : CtxOk c ct Φ lf X sc fnb g) {a b : Ex} {a' b' : Expr} {p q : Pos} (G : Good c Φ X a' a) (G2 : Good c Φ X b' b) (hg : sc.names.lookup ("range" : Str) = some NameKind.globalImplicit) (hs : noStar a' = true) (hs2 : noStar b' = true) : PRg X (.Call (.Name "range" p) [a', b'] [] q) (tR c Φ (.rng2 a b)) := by
  refine PRg.imp (prg_2 (show X.env.scope.names.lookup _ = _ by rw [C.sc]; exact hg) (C.bi _ (by decide)) (G.pe .bo (fun z => by cases z)) (G2.pe .bo (fun z => by cases z)) (star_cons hs) (star_cons hs2) (by rw [star_cons hs2]; rfl)) fun σ H R ⟨F, ρ, ds, s, h, k⟩ => ?_
  simp only [itms, Option.bind_eq_some_iff] at h
  obtain ⟨d, hd, d2, hd2, h⟩ := h
  cases d <;> cases d2 <;> try (cases h; done)
  exact ev2 s hd hd2 fun v w F1 H1 e1 r1 r2 => ⟨_, _, r1.int, r2.int, k _ _ F1 H1 e1 h⟩
theorem chkB_range {x y : Str} (h : chkB sc x y = true) : x = y ∧ sc.names.lookup y = some .globalImplicit := by
  rw [chkB, Bool.and_eq_true, decide_eq_true_eq, glB, decide_eq_true_eq] at h
  exact ⟨h.1, h.1 ▸ h.2⟩
end
section
variable {ct : Ctl} {Φ : Fns} {lf : Nat}
mutual
theorem chk_ok : ∀ (ex : Ex) {c : Cfg} {X : Cx} {sc : Scope} {fnb : Str → Bool} {g : Nat} {e : Expr}, CtxOk c ct Φ lf X sc fnb g → chk ct ex sc fnb g e = true → Good c Φ X e ex
  | .var i, _, _, _, _, _, _, C, h => good_var C h
  | .int n, _, _, _, _, _, _, C, h => good_const C (v := .int n) (d := .int n) (by unfold chk at h; exact of_decide_eq_true h) (fun _ _ => pe_int) (fun _ => .int n) rfl (fun _ _ => rfl)
  | .str n, _, _, _, _, _, _, C, h => good_const C (v := .str n) (d := .str n) (by unfold chk at h; exact of_decide_eq_true h) (fun _ _ => pe_str) (fun _ => .str n) rfl (fun _ _ => rfl)
  | .bool n, _, _, _, _, _, _, C, h => good_const C (v := .bl n) (d := .bool n) (by unfold chk at h; exact of_decide_eq_true h) (fun _ _ => pe_bl) (fun _ => .bl n) rfl (fun _ _ => rfl)
  | .non, _, _, _, _, _, _, C, h => good_const C (v := .non) (d := .none) (by unfold chk at h; exact of_decide_eq_true h) (fun _ _ => pe_non) (fun _ => .non) rfl (fun _ _ => rfl)
  | .tup es, _, _, _, _, _, _, C, h => good_tup C (fun xs hx => chks_ok es C hx) h
  | .lst es, _, _, _, _, _, _, C, h => good_lst C (fun xs hx => chks_ok es C hx) h
  | .bin op a b, _, _, _, _, _, _, C, h => good_bin C (fun e he => chk_ok a C he) (fun e he => chk_ok b C he) h
  | .neg a, _, _, _, _, _, _, C, h => good_neg C (fun e he => chk_ok a C he) h
  | .not a, _, _, _, _, _, _, C, h => good_not C (fun e he => chk_ok a C he) h
  | .and a b, _, _, _, _, _, _, C, h => good_and C (fun e he => chk_ok a C he) (fun e he => chk_ok b C he) h
  | .or a b, _, _, _, _, _, _, C, h => good_or C (fun e he => chk_ok a C he) (fun e he => chk_ok b C he) h
  | .cmp op a b, _, _, _, _, _, _, C, h => good_cmp C (fun e he => chk_ok a C he) (fun e he => chk_ok b C he) h
  | .ch2 op op' a b d, _, _, _, _, _, _, C, h => good_ch2 C (fun e he => chk_ok a C he) (fun e he => chk_ok b C he) (fun e he => chk_ok d C he) h
  | .isn a, _, _, _, _, _, _, C, h => good_isn C (fun e he => chk_ok a C he) h
  | .nisn a, _, _, _, _, _, _, C, h => good_nisn C (fun e he => chk_ok a C he) h
  | .ife d a b, _, _, _, _, _, _, C, h => good_ife C (fun e he => chk_ok d C he) (fun e he => chk_ok a C he) (fun e he => chk_ok b C he) h
  | .sub a i, _, _, _, _, _, _, C, h => good_sub C (fun e he => chk_ok a C he) (fun e he => chk_ok i C he) h
  | .sl a lo hi, _, _, _, _, _, _, C, h => good_sl C (fun e he => chk_ok a C he) (fun e he => chkp_ok lo C he) (fun e he => chkp_ok hi C he) h
  | .rev a, _, _, _, _, _, _, C, h => good_rev C (fun e he => chk_ok a C he) h
  | .call f es, _, _, _, _, _, _, C, h => good_call C (fun xs hx => chks_ok es C hx) h
  | .b1 b a, _, _, _, _, _, _, C, h => good_b1 C (fun e he => chk_ok a C he) h
  | .bi b a, _, _, _, _, _, _, C, h => good_bi C (fun e he => chk_ok a C he) h
  | .conv l i, _, _, _, _, _, _, C, h => good_conv C (fun e he => chkR_ok i C he) h
  | .b2 b a d, _, _, _, _, _, _, C, h => good_b2 C (fun e he => chk_ok a C he) (fun e he => chk_ok d C he) h
  | .isi T a, _, _, _, _, _, _, C, h => good_isi C (fun e he => chk_ok a C he) h
  | .lc el t i ifs, _, _, _, _, _, _, C, h => good_lc C (fun C' h' => chk_ok el C' h') (fun tg e he => chkI_ok i C he true) (fun C' h' => chko_ok ifs C' h') h
  | .gen b0 el t i ifs, _, _, _, _, _, _, C, h => good_gen C (fun C' h' => chk_ok el C' h') (fun tg e he => chkI_ok i C he true) (fun C' h' => chko_ok ifs C' h') h
  | .st l a, _, _, _, _, _, _, C, h => good_st C (fun e he => chk_ok a C he) h
  | .mt m a b, _, _, _, _, _, _, C, h => good_mt C (fun e he => chk_ok a C he) (fun e he => chk_ok b C he) h
  | .gen2 b0 el t i ifs t1 i1 ifs1, _, _, _, _, _, _, C, h => good_gen2 C (fun C' h' => chk_ok el C' h') (fun tg e he => chkI_ok i C he true) (fun C' h' => chko_ok ifs C' h') (fun C' tg e he => chkI_ok i1 C' he false) (fun C' h' => chko_ok ifs1 C' h') h
  | .lc2 el t i ifs t1 i1 ifs1, _, _, _, _, _, _, C, h => good_lc2 C (fun C' h' => chk_ok el C' h') (fun tg e he => chkI_ok i C he true) (fun C' h' => chko_ok ifs C' h') (fun C' tg e he => chkI_ok i1 C' he false) (fun C' h' => chko_ok ifs1 C' h') h
theorem chks_ok : ∀ (es : Exs) {c : Cfg} {X : Cx} {sc : Scope} {fnb : Str → Bool} {g : Nat} {xs : List Expr}, CtxOk c ct Φ lf X sc fnb g → chks ct es sc fnb g xs = true → PA X xs (tA c Φ es)
  | .nil, _, _, _, _, _, xs, C, h => by
    cases xs with
    | cons x xs => simp [chks] at h
    | nil =>
      refine PA.imp pa_nil fun σ H Q ⟨F, ρ, ds, s, h, k⟩ => ?_
      cases h
      exact k [] H F (Ext.refl s.ok) .nil
  | .cons e es, _, _, _, _, _, xs, C, h => by
    cases xs with
    | nil => simp [chks] at h
    | cons x xs =>
      simp only [chks, Bool.and_eq_true] at h
      have G := chk_ok e C h.1
      have ns : noStar x = true := by
        cases x <;> first | rfl | skip
        exfalso
        have h1 := h.1
        cases e <;> simp [chk, xName, dConst, dTup, dLst, dBin, dUn, dBool, dCmp, dCmp2, dIf, dSub, dSl, dRev, dCall, dOne, dTwo, dLc, dLc2, dMeth] at h1
      refine PA.imp (pa_cons (G.pe .fr (fun z => by cases z)) (chks_ok es C h.2) (star_cons ns)) fun σ H Q ⟨F, ρ, ds, s, h, k⟩ => ?_
      simp only [evs, Option.bind_eq_some_iff, Option.map_eq_some_iff] at h
      obtain ⟨d, he, ds', hes, rfl⟩ := h
      exact ⟨F, ρ, d, s, he, fun v H1 F1 e1 f1 => ⟨F1, ρ, ds', s.ext e1, hes, fun vs H2 F2 e2 a2 => k (v :: vs) H2 F2 (e1.trans e2) (.cons (dp_mono e2.fkT _ _ f1) a2)⟩⟩
theorem chkp_ok : ∀ (o : Exo) {c : Cfg} {X : Cx} {sc : Scope} {fnb : Str → Bool} {g : Nat} {e : Option Expr}, CtxOk c ct Φ lf X sc fnb g → chkp ct o sc fnb g e = true → PO X e (tP c Φ o)
  | .no, _, _, _, _, _, e, C, h => by
    cases e with
    | some e => simp [chkp] at h
    | none =>
      refine ⟨fun pins s σ H Q I q => po_none.run pins s σ H Q I ?_⟩
      obtain ⟨F, ρ, b, st, hb, k⟩ := q
      cases hb
      exact k H F (Ext.refl st.ok)
  | .yes ex, _, _, _, _, _, e, C, h => by
    cases e with
    | none => simp [chkp] at h
    | some e =>
      simp only [chkp] at h
      refine ⟨fun pins s σ H Q I q => (po_some ((chk_ok ex C h).pe .bo (fun z => by cases z))).run pins s σ H Q I ?_⟩
      obtain ⟨F, ρ, b, st, hb, k⟩ := q
      simp only [evo, Option.bind_eq_some_iff] at hb
      obtain ⟨x, ea, hb⟩ := hb
      cases x <;> try (cases hb; done)
      cases hb
      exact ev1 st ea fun v F1 H1 e r => ⟨_, r.int, k H1 F1 e⟩
theorem chko_ok : ∀ (o : Exo) {c : Cfg} {X : Cx} {sc : Scope} {fnb : Str → Bool} {g : Nat} {es : List Expr}, CtxOk c ct Φ lf X sc fnb g → chko ct o sc fnb g es = true → PTs X es (tO c Φ o)
  | .no, _, _, _, _, _, es, C, h => by
    cases es with
    | cons e es => simp [chko] at h
    | nil =>
      refine ⟨fun pins s σ H Q I q => pts_nil.run pins s σ H Q I ?_⟩
      obtain ⟨F, ρ, b, st, hb, k⟩ := q
      cases hb
      exact k H F (Ext.refl st.ok)
  | .yes ex, _, _, _, _, _, es, C, h => by
    cases es with
    | nil => simp [chko] at h
    | cons e es =>
      cases es with
      | cons e2 es => simp [chko] at h
      | nil =>
        simp only [chko] at h
        refine ⟨fun pins s σ H Q I q => (pts_one (chk_ok ex C h).pt).run pins s σ H Q I ?_⟩
        obtain ⟨F, ρ, b, st, hb, k⟩ := q
        exact ⟨F, ρ, b, st, hb, k⟩
theorem chkI_ok : ∀ (i : Ce.It) {c : Cfg} {X : Cx} {sc : Scope} {fnb : Str → Bool} {g : Nat} {tg e : Expr}, CtxOk c ct Φ lf X sc fnb g → chkI ct i sc fnb g tg e = true → ∀ bor, PI X tg e (tI c Φ bor i)
  | .ex a, _, _, _, _, _, _, _, C, h => fun bor => by
    simp only [chkI] at h
    exact pi_ex C (chk_ok a C h) bor
  | .rng1 a, _, _, _, _, _, _, _, C, h => fun bor => by
    simp only [chkI] at h
    split at h <;> try (cases h; done)
    rename_i x a' hx
    simp only [Bool.and_eq_true] at h
    obtain ⟨p, q, rfl⟩ := dOne_ok hx
    obtain ⟨rfl, hg⟩ := chkB_range h.1
    exact pi_r1 C (chk_ok a C h.2.2) hg h.2.1 bor
  | .rng2 a b, _, _, _, _, _, _, _, C, h => fun bor => by
    simp only [chkI] at h
    split at h <;> try (cases h; done)
    rename_i x a' b' hx
    simp only [Bool.and_eq_true] at h
    obtain ⟨p, q, rfl⟩ := dTwo_ok hx
    obtain ⟨rfl, hg⟩ := chkB_range h.1
    exact pi_r2 C (chk_ok a C h.2.2.1) (chk_ok b C h.2.2.2) hg h.2.1.1 h.2.1.2 bor
  | .enum a, _, _, _, _, _, _, _, C, h => fun bor => by
    simp only [chkI] at h
    split at h <;> try (cases h; done)
    rename_i x a' hx
    simp only [Bool.and_eq_true] at h
    obtain ⟨p, q, rfl⟩ := dOne_ok hx
    obtain ⟨rfl, hg⟩ := chkB_range h.1.1
    exact pi_en C (chk_ok a C h.2.2) hg h.2.1 h.1.2 bor
  | .zip a b, _, _, _, _, _, _, _, C, h => fun bor => by
    simp only [chkI] at h
    split at h <;> try (cases h; done)
    rename_i x a' b' hx
    simp only [Bool.and_eq_true] at h
    obtain ⟨p, q, rfl⟩ := dTwo_ok hx
    obtain ⟨rfl, hg⟩ := chkB_range h.1.1
    exact pi_zp C (chk_ok a C h.2.2.1) (chk_ok b C h.2.2.2) hg h.2.1.1 h.2.1.2 h.1.2 bor
  | .rv a, _, _, _, _, _, _, _, C, h => fun bor => by
    simp only [chkI] at h
    split at h <;> try (cases h; done)
    rename_i x a' hx
    simp only [Bool.and_eq_true] at h
    obtain ⟨p, q, rfl⟩ := dOne_ok hx
    obtain ⟨rfl, hg⟩ := chkB_range h.1
    exact pi_rv0 C (chk_ok a C h.2.2) hg h.2.1 bor
  | .rrng i, _, _, _, _, _, _, _, C, h => fun bor => by
    simp only [chkI] at h
    split at h <;> try (cases h; done)
    rename_i x a' hx
    simp only [Bool.and_eq_true] at h
    obtain ⟨p, q, rfl⟩ := dOne_ok hx
    obtain ⟨rfl, hg⟩ := chkB_range h.1
    refine pi_rr0 C (chkR_ok i C h.2.2) ?_ hg h.2.1 bor
    have h3 := h.2.2
    cases i <;> first | exact .inl ⟨_, rfl⟩ | exact .inr ⟨_, _, rfl⟩ | (simp [chkR] at h3; done)
theorem chkR_ok : ∀ (i : Ce.It) {c : Cfg} {X : Cx} {sc : Scope} {fnb : Str → Bool} {g : Nat} {e : Expr}, CtxOk c ct Φ lf X sc fnb g → chkR ct i sc fnb g e = true → PRg X e (tR c Φ i)
  | .ex a, _, _, _, _, _, _, C, h => by simp [chkR] at h
  | .enum a, _, _, _, _, _, _, C, h => by simp [chkR] at h
  | .zip a b, _, _, _, _, _, _, C, h => by simp [chkR] at h
  | .rv a, _, _, _, _, _, _, C, h => by simp [chkR] at h
  | .rrng a, _, _, _, _, _, _, C, h => by simp [chkR] at h
  | .rng1 a, _, _, _, _, _, _, C, h => by
    simp only [chkR] at h
    split at h <;> try (cases h; done)
    rename_i x a' hx
    simp only [Bool.and_eq_true] at h
    obtain ⟨p, q, rfl⟩ := dOne_ok hx
    obtain ⟨rfl, hg⟩ := chkB_range h.1
    exact prg_r1 C (chk_ok a C h.2.2) hg h.2.1
  | .rng2 a b, _, _, _, _, _, _, C, h => by
    simp only [chkR] at h
    split at h <;> try (cases h; done)
    rename_i x a' b' hx
    simp only [Bool.and_eq_true] at h
    obtain ⟨p, q, rfl⟩ := dTwo_ok hx
    obtain ⟨rfl, hg⟩ := chkB_range h.1
    exact prg_r2 C (chk_ok a C h.2.2.1) (chk_ok b C h.2.2.2) hg h.2.1.1 h.2.1.2
end
end
end Cs

set_option maxHeartbeats 8000000
/-! Statements that change a list. -/
noncomputable section
namespace PySem
open PySem.Spec PyProof.Rows
open Sem (wp)
theorem list_extendS (l : Addr) (items : Array Value) (n : Nat) (b : Addr) (items2 : Array Value) (n2 : Nat) (sl : Array (Option Value)) (hc0 : ¬(!items.isEmpty && Builtin.List.listTooLong (items.size + items2.size)) = true) (hc1 : items.size ≤ sizeLine) (hs2 : items.size + items2.size ≤ sizeLine + 1) :
    Meets (Builtin.«list.extend» ⟨[.ref l, .ref b], []⟩) (fun _ R s => s.heap.get? l = some { cls := .type "list", dict := none, data := .seq items n, slots := #[] } ∧ s.heap.get? b = some { cls := .type "list", dict := none, data := .seq items2 n2, slots := sl } ∧ R (.ok (.ret Value.none)) { s with heap := s.heap.update l (Obj.mapSeq fun x => x ++ items2), toks := s.toks }) :=
  .of_wp fun prog w A R s h => by
    obtain ⟨hp, g, d, tk, os⟩ := s; obtain ⟨hl, hb, h⟩ := h; have f1 := AutoSeq1.idx_int; have f2 := AutoSeq1.sub_tuple_tuple; have f3 := AutoSeq1.sub_list_list; have f4 := AutoSeq1.sub_tuple_list; have f5 := AutoSeq1.sub_list_tuple
    have hz' : (items ++ items2).size ≤ sizeLine + 1 := by rw [Array.size_append]; exact hs2
    wp_walk using (wpAny_updateSeq hl rfl (hz := hc1) (_hz' := hz')), wpAny_loadPart' hl, wpAny_loadPart' hb
    exact ⟨_, rfl, h⟩
end PySem
namespace Cs
open PySem PySem.Spec PyProof.Rows L2 GxR Ce Gx
def rExtS (K : PySem.W.Frag) : V → List V → Hp → VK → Prop := fun x vs H Q => ∃ l b xs zs, x = .ref l ∧ vs = [.ref b] ∧ H l = some (.lst xs) ∧ SqL K H b zs ∧ xs.length + zs.length ≤ sizeLine ∧ Q .non (upd H l (.lst (xs ++ zs)))
theorem mt_extS {X : Cx} : MtM X "list.extend" (rExtS X.K) := by
  intro pins s σ H x vs v us Q I rx rv h
  obtain ⟨l, b, xs, zs, rfl, rfl, hH, hB, hz, q⟩ := h
  cases rx
  obtain ⟨u, rfl, ru⟩ := rv.one
  cases ru
  obtain ⟨z, its, n, r, hl, e⟩ := I.lstM hH
  obtain ⟨its2, r2, ⟨⟨cls, dd, data, sl⟩, n2, e2, hc2, hd2, hdt2⟩, hl2⟩ := I.list hB
  simp only at hc2 hd2 hdt2
  subst hc2 hd2 hdt2
  have le2 := r2.length
  have hsz : its.toArray.size + its2.toArray.size ≤ sizeLine := by rw [List.size_toArray, List.size_toArray]; omega
  have hlong : ¬ (!its.toArray.isEmpty && Builtin.List.listTooLong (its.toArray.size + its2.toArray.size)) = true := by
    rw [notLongL hsz, Bool.and_false]
    exact Bool.false_ne_true
  refine call_meets F.slot_list_extend ⟨_, e, rfl⟩ F.entry_list_extend (F.args_list_extend_2 _ _)
    (PySem.list_extendS l its.toArray n b its2.toArray n2 sl hlong (by rw [List.size_toArray]; omega) (by omega)) ⟨e, e2, ?_⟩
  refine ⟨.non, _, I.lset (its' := its ++ its2) hH e (by simp) (r.append r2) ?_, rfl, q⟩
  rw [List.length_append]
  omega
theorem DpAll.set {K : PySem.W.Frag} {F : Hp} {v : V} {d : PyData} (h : Dp K F v d) : ∀ {xs : List V} {ds : List PyData} (j : Nat), DpAll K F xs ds → DpAll K F (xs.set j v) (ds.set j d)
  | _, _, _, .nil => .nil
  | _, _, 0, .cons r t => .cons h t
  | _, _, j + 1, .cons r t => .cons r (DpAll.set h j t)
theorem DpAll.eraseIdx {K : PySem.W.Frag} {F : Hp} : ∀ {xs : List V} {ds : List PyData} (j : Nat), DpAll K F xs ds → DpAll K F (xs.eraseIdx j) (ds.eraseIdx j)
  | _, _, _, .nil => .nil
  | _, _, 0, .cons r t => t
  | _, _, j + 1, .cons r t => .cons r (DpAll.eraseIdx j t)
theorem DpAll.dropLast {K : PySem.W.Frag} {F : Hp} {xs : List V} {ds : List PyData} (h : DpAll K F xs ds) : DpAll K F xs.dropLast ds.dropLast := by
  rw [List.dropLast_eq_take, List.dropLast_eq_take, DpAll.length h]
  exact DpAll.take _ h
theorem ixN_seq {n : Nat} {i : Int} {k : Nat} (h : ixN n i = some k) : seqIndex? i n = some k ∧ -(n : Int) ≤ i ∧ i < n ∧ k < n := by
  unfold ixN at h
  unfold seqIndex?
  by_cases h0 : 0 ≤ i
  · rw [if_pos h0] at h
    by_cases h1 : i < n
    · rw [if_pos h1] at h
      cases h
      have : ¬ i < 0 := by omega
      refine ⟨?_, by omega, h1, by omega⟩
      simp [this]
      omega
    · rw [if_neg h1] at h; cases h
  · rw [if_neg h0] at h
    by_cases h1 : -(n : Int) ≤ i
    · rw [if_pos h1] at h
      cases h
      have : i < 0 := by omega
      refine ⟨?_, h1, by omega, by omega⟩
      simp [this]
      omega
    · rw [if_neg h1] at h; cases h
/-! ### texts -/
/-- x[i] = e -/
def dPut : Stmt → Option (Str × Expr × Expr)
  | .Assign [.Subscript (.Name x _) i _] e _ => if notSl i = true then some (x, i, e) else none
  | _ => none
theorem dPut_ok {s : Stmt} {x : Str} {i e : Expr} (h : dPut s = some (x, i, e)) : (∃ p q r, s = .Assign [.Subscript (.Name x p) i q] e r) ∧ notSl i = true := by
  unfold dPut at h
  split at h
  · split at h
    · rename_i h1
      cases h
      exact ⟨⟨_, _, _, rfl⟩, h1⟩
    · cases h
  · cases h
/-- t = x.pop(..) -/
def dPop : Stmt → Option (Expr × Str × List Expr)
  | .Assign [t] (.Call (.Attribute (.Name x _) "pop" apos) es [] cpos) _ => if apos.endLine == cpos.line then some (t, x, es) else none
  | _ => none
theorem dPop_ok {s : Stmt} {t : Expr} {x : Str} {es : List Expr} (h : dPop s = some (t, x, es)) : ∃ p a c r, s = .Assign [t] (.Call (.Attribute (.Name x p) "pop" a) es [] c) r ∧ (a.endLine == c.line) = true := by
  unfold dPop at h
  split at h
  · split at h
    · rename_i hl
      cases h; exact ⟨_, _, _, _, rfl, hl⟩
    · cases h
  · cases h
/-- x, y = a, b -/
structure Par2 where
  x : Str
  p : Pos
  y : Str
  q : Pos
  a : Expr
  b : Expr
def dPar : Stmt → Option Par2
  | .Assign [.Tuple [.Name x p, .Name y q] _ _] (.Tuple [a, b] _ _) _ => some ⟨x, p, y, q, a, b⟩
  | _ => none
theorem dPar_ok {s : Stmt} {m : Par2} (h : dPar s = some m) : ∃ k1 p3 k2 p4 p5, s = .Assign [.Tuple [.Name m.x m.p, .Name m.y m.q] k1 p3] (.Tuple [m.a, m.b] k2 p4) p5 := by
  unfold dPar at h
  split at h
  · cases h; exact ⟨_, _, _, _, _, rfl⟩
  · cases h
def parB (sc : Scope) (m : Par2) : Bool := (decide (sc.names.lookup m.x = some .local) && decide (sc.names.lookup m.y = some .local)) && (((m.q.line == m.p.line) && ([m.x, m.y].eraseDups.length == 2)) && ((noStar m.a && noStar m.b) && (!([m.a, m.b].all (foldedForSure 8)) && !([m.a, m.b].all (constantsAlone 8)))))
theorem sw_par {m : Par2} {env : Env} {k1 k2 : Nat} {p3 p4 : Pos} (k3 : env.blockKind = .function) (h : parB env.scope m = true) : swappedStores [.Tuple [.Name m.x m.p, .Name m.y m.q] k1 p3] (.Tuple [m.a, m.b] k2 p4) env = pure (some [m.x, m.y]) := by
  unfold parB at h
  simp only [Bool.and_eq_true, decide_eq_true_eq, Bool.not_eq_true', beq_iff_eq] at h
  obtain ⟨⟨h2, h3⟩, ⟨h4, h5⟩, ⟨h6, h7⟩, h8, h9⟩ := h
  have k1' : env.kindOf m.x = some .local := h2
  have k2' : env.kindOf m.y = some .local := h3
  have e1 : ∀ e : Expr, noStar e = true → (match e with | .Starred value pos => true | x => false) = false := fun e he => by
    cases e <;> first | rfl | (cases he)
  have e2 : ([m.a, m.b].any fun e => match e with | .Starred value pos => true | x => false) = false := by
    simp only [List.any_cons, List.any_nil, e1 _ h6, e1 _ h7, Bool.or_false]
  unfold swappedStores
  simp only [List.length_cons, List.length_nil, k3]
  refine (if_neg (by decide)).trans ?_
  refine (if_neg (fun z => Bool.false_ne_true (e2.symm.trans z))).trans ?_
  simp only [List.head?_cons, Option.map_some, Option.getD_some, List.filterMap_cons, List.filterMap_nil, k1', k2', h8, h9]
  simp [Expr.pos, h4, h5]
/-- return tuple([x.pop(e) for tg in iter]), y = tuple(..) -/
structure Lp where
  to : Option Str
  tup : Str
  x : Str
  arg : Expr
  tg : Expr
  iter : Expr
  scope : Scope
def dLpE : Expr → Option Lp
  | .Call (.Name f _) [.ListComp (.Call (.Attribute (.Name x _) "pop" apos) [e] [] cpos) [⟨tg, it, [], 0⟩] sc _] [] _ => if apos.endLine == cpos.line then some ⟨none, f, x, e, tg, it, sc⟩ else none
  | _ => none
theorem dLpE_ok {e : Expr} {m : Lp} (h : dLpE e = some m) : ∃ p1 p2 a c p3 p4, e = .Call (.Name m.tup p1) [.ListComp (.Call (.Attribute (.Name m.x p2) "pop" a) [m.arg] [] c) [⟨m.tg, m.iter, [], 0⟩] m.scope p3] [] p4 ∧ (a.endLine == c.line) = true := by
  unfold dLpE at h
  split at h
  · split at h
    · rename_i hl
      cases h; exact ⟨_, _, _, _, _, _, rfl, hl⟩
    · cases h
  · cases h
theorem ns_assign {o i : Expr} {pos : Pos} {env : Env} (h : notSl i = true) (v : Value) : assign (.Subscript o i pos) env v = (do
      let ov ← holding [v] (eval o env)
      let iv ← holding [v, ov] (eval i env)
      standAt pos
      holding [v, ov, iv] (setItem ov iv v)
      release [v, ov, iv] []) := by
  cases i <;> first | rfl | (cases h)
end Cs

set_option maxHeartbeats 8000000
/-! The text against the core language: statements. -/
noncomputable section
namespace Cs
open PySem PySem.Spec PyProof.Rows L2 GxR Ce Gx

/-! ### taking statements apart -/
def dAsg : Stmt → Option (Expr × Expr × Pos)
  | .Assign [t] e p => some (t, e, p)
  | _ => none
def dRet : Stmt → Option Expr
  | .Return (some e) _ => some e
  | _ => none
def dIfS : Stmt → Option (Expr × List Stmt × List Stmt)
  | .If c a b _ => some (c, a, b)
  | _ => none
def dFor : Stmt → Option (Expr × Expr × List Stmt)
  | .For t i b [] _ => some (t, i, b)
  | _ => none
def dWhl : Stmt → Option (Expr × List Stmt)
  | .While c b [] _ => some (c, b)
  | _ => none
def dAug : Stmt → Option (Str × Operator × Expr)
  | .AugAssign (.Name x _) o e _ => some (x, o, e)
  | _ => none
/-- x.m(e) as a statement -/
def dMt : Stmt → Option (Str × Str × Expr)
  | .Expr (.Call (.Attribute (.Name x _) m apos) [e] [] cpos) _ => if apos.endLine == cpos.line then some (x, m, e) else none
  | _ => none
theorem dAsg_ok {s : Stmt} {t e : Expr} {p : Pos} (h : dAsg s = some (t, e, p)) : s = .Assign [t] e p := by
  unfold dAsg at h
  split at h
  · cases h; rfl
  · cases h
theorem dRet_ok {s : Stmt} {e : Expr} (h : dRet s = some e) : ∃ p, s = .Return (some e) p := by
  unfold dRet at h
  split at h
  · cases h; exact ⟨_, rfl⟩
  · cases h
theorem dIfS_ok {s : Stmt} {c : Expr} {a b : List Stmt} (h : dIfS s = some (c, a, b)) : ∃ p, s = .If c a b p := by
  unfold dIfS at h
  split at h
  · cases h; exact ⟨_, rfl⟩
  · cases h
theorem dFor_ok {s : Stmt} {t i : Expr} {b : List Stmt} (h : dFor s = some (t, i, b)) : ∃ p, s = .For t i b [] p := by
  unfold dFor at h
  split at h
  · cases h; exact ⟨_, rfl⟩
  · cases h
theorem dWhl_ok {s : Stmt} {c : Expr} {b : List Stmt} (h : dWhl s = some (c, b)) : ∃ p, s = .While c b [] p := by
  unfold dWhl at h
  split at h
  · cases h; exact ⟨_, rfl⟩
  · cases h
theorem dAug_ok {s : Stmt} {x : Str} {o : Operator} {e : Expr} (h : dAug s = some (x, o, e)) : ∃ q p, s = .AugAssign (.Name x q) o e p := by
  unfold dAug at h
  split at h
  · cases h; exact ⟨_, _, rfl⟩
  · cases h
theorem dMt_ok {s : Stmt} {x m : Str} {e : Expr} (h : dMt s = some (x, m, e)) : ∃ q a c p, s = .Expr (.Call (.Attribute (.Name x q) m a) [e] [] c) p ∧ (a.endLine == c.line) = true := by
  unfold dMt at h
  split at h
  · split at h
    · rename_i hl
      cases h; exact ⟨_, _, _, _, rfl, hl⟩
    · cases h
  · cases h
/-- no comprehension -/
def noLc : Expr → Bool
  | .ListComp .. => false
  | .SetComp .. => false
  | .DictComp .. => false
  | _ => true
theorem noLc_ok {e : Expr} {o : Option Expr} {l : Nat} {env : Env} (h : noLc e = true) : swapsWith e o l env = pure false := by
  cases e <;> first | rfl | (simp [noLc] at h; done)
def noTup : Expr → Bool
  | .Tuple .. => false
  | _ => true
/-- a plain store: no swap of stores -/
def plainSt (t e : Expr) : Bool := match t with
  | .Name .. => true
  | .Tuple .. => noTup e
  | _ => false
theorem plainSt_ok {t e : Expr} {env : Env} (h : plainSt t e = true) : swappedStores [t] e env = pure none := by
  unfold plainSt at h
  split at h
  · cases e <;> rfl
  · cases e <;> first | rfl | (simp [noTup] at h; done)
  · cases h
theorem one_store {t e : Expr} {env : Env} (h : plainSt t e = true) : (assignEach [t] env).map (·.2) = [assign t env] := by
  unfold plainSt at h
  split at h
  · rfl
  · rfl
  · cases h
/-- x = [..] on one line, x a local -/
def lcSt (sc : Scope) (t e : Expr) : Bool := match t, e with
  | .Name x p, .ListComp _ _ s p2 => decide (sc.kind = .function) && (decide (sc.names.lookup x = some .local) && ((p.line == p2.line) && !(s.names.any fun (n, k) => n == x && (k == .local || k == .cell))))
  | _, _ => false
/-- x = .., x a cell -/
def lcCell (sc : Scope) (t : Expr) : Bool := match t with
  | .Name x _ => decide (sc.names.lookup x = some .cell)
  | _ => false
theorem lcCell_ok {sc : Scope} {t : Expr} (h : lcCell sc t = true) : ∃ x p, t = .Name x p ∧ sc.names.lookup x = some .cell := by
  unfold lcCell at h
  split at h
  · exact ⟨_, _, rfl, of_decide_eq_true h⟩
  · cases h
theorem sw_cell {e : Expr} {x : Str} {p : Pos} {l : Nat} {env : Env} (h : env.scope.names.lookup x = some .cell) : swapsWith e (some (.Name x p)) l env = pure false := by
  have ky : env.kindOf x = some .cell := h
  unfold swapsWith
  cases e <;> first | rfl | (simp only [ky]; cases env.blockKind <;> rfl)
/-- a way to store -/
def asgB (sc : Scope) (t e : Expr) : Bool := (noLc e && plainSt t e) || (lcSt sc t e || lcCell sc t)

/-- a target that is a name or a tuple -/
def plainTg : Expr → Bool
  | .Name .. => true
  | .Tuple .. => true
  | _ => false
/-- the arguments of pop -/
def chkA (ct : Ctl) (o : Exo) (sc : Scope) (fnb : Str → Bool) (es : List Expr) : Bool := match o, es with
  | .no, [] => true
  | .yes e, [x] => chk ct e sc fnb 2 x
  | _, _ => false
mutual
def chS (ct : Ctl) : Sm → Scope → (Str → Bool) → Stmt → Bool
  | .asg t e, sc, fnb, s => match dAsg s with
    | some (t', e', _) => asgB sc t' e' && (chkT ct t sc fnb t' && chk ct e sc fnb 2 e')
    | none => false
  | .own i e, sc, fnb, s => match dAsg s with
    | some (t', e', _) => asgB sc t' e' && (chkT ct (.nm i) sc fnb t' && (isNew e && chk ct e sc fnb 2 e'))
    | none => false
  | .ret e, sc, fnb, s => match dRet s with
    | some e' => chk ct e sc fnb 2 e'
    | none => false
  | .ife c a b, sc, fnb, s => match dIfS s with
    | some (c', a', b') => chk ct c sc fnb 2 c' && (chSs ct a sc fnb a' && chSs ct b sc fnb b')
    | none => false
  | .for t i b, sc, fnb, s => match dFor s with
    | some (t', i', b') => (plainIter i' && chkT ct t sc fnb t') && (chkI ct i sc fnb 2 t' i' && chSs ct b sc fnb b')
    | none => false
  | .whl c b, sc, fnb, s => match dWhl s with
    | some (c', b') => chk ct c sc fnb 2 c' && chSs ct b sc fnb b'
    | none => false
  | .app i e, sc, fnb, s => match dMt s with
    | some (x, m, e') => (decide (m = "append") && (decide (ct.N[i]? = some x) && (visB sc x && okN x))) && (noStar e' && chk ct e sc fnb 2 e')
    | none => false
  | .aug i b e, sc, fnb, s => match dAug s with
    | some (x, o, e') => (decide (o = if b = true then .Add else .Sub) && (decide (ct.N[i]? = some x) && stoB sc fnb x)) && chk ct e sc fnb 2 e'
    | none => false
  | .frz _ s', sc, fnb, s => chS ct s' sc fnb s
  | .cont, _, _, s => match s with
    | .Continue _ => true
    | _ => false
  | .brk, _, _, s => match s with
    | .Break _ => true
    | _ => false
  | .pass, _, _, s => match s with
    | .Pass _ => true
    | _ => false
  | .put x i e, sc, fnb, s => match dPut s with
    | some (y, i', e') => (noLc e' && (decide (ct.N[x]? = some y) && (visB sc y && okN y))) && (chk ct i sc fnb 2 i' && chk ct e sc fnb 2 e')
    | none => false
  | .ext i e, sc, fnb, s => match dMt s with
    | some (x, m, e') => (decide (m = "extend") && (decide (ct.N[i]? = some x) && (visB sc x && okN x))) && (noStar e' && chk ct e sc fnb 2 e')
    | none => false
  | .rem i e, sc, fnb, s => match dMt s with
    | some (x, m, e') => (decide (m = "remove") && (decide (ct.N[i]? = some x) && (visB sc x && okN x))) && (noStar e' && chk ct e sc fnb 2 e')
    | none => false
  | .popTo t x o, sc, fnb, s => match dPop s with
    | some (t', y, es) => (plainTg t' && chkT ct t sc fnb t') && ((decide (ct.N[x]? = some y) && (visB sc y && okN y)) && (es.all noStar && chkA ct o sc fnb es))
    | none => false
  | .par i j a b, sc, fnb, s => match dPar s with
    | some m => ((decide (ct.N[i]? = some m.x) && decide (ct.N[j]? = some m.y)) && (decide (sc.kind = .function) && parB sc m)) && (chk ct a sc fnb 2 m.a && chk ct b sc fnb 2 m.b)
    | none => false
  | .lpop o w x e t i, sc, fnb, s => match (match o, s with
      | none, .Return (some e') _ => dLpE e'
      | some _, .Assign [.Name _ _] e' _ => dLpE e'
      | _, _ => none) with
    | some m => ((w && (decide (m.tup = "tuple") && glB sc "tuple")) && ((blkC ct.N sc m.scope (ownOf ct.N (slots t)) && plainIter m.iter) && (chkI ct i sc fnb 2 m.tg m.iter && chkT ct t (relS m.scope sc) (fnB m.scope) m.tg))) && (((decide (ct.N[x]? = some m.x) && (visB (relS m.scope sc) m.x && okN m.x)) && (noStar m.arg && chk ct e (relS m.scope sc) (fnB m.scope) 2 m.arg)) && (match o, s with
      | none, .Return _ _ => true
      | some j, .Assign [.Name y _] _ _ => decide (ct.N[j]? = some y) && stoB sc fnb y
      | _, _ => false))
    | none => false
def chSs (ct : Ctl) : Sms → Scope → (Str → Bool) → List Stmt → Bool
  | .nil, _, _, [] => true
  | .cons s r, sc, fnb, t :: ts => chS ct s sc fnb t && chSs ct r sc fnb ts
  | _, _, _, _ => false
end

/-! ### the state between statements -/
/-- beside StE: what the def owns is new since its entry (F0, H0), no object is owned twice -/
structure StB (c : Cfg) (F0 H0 F H : Hp) (σ : L2.St) (ρ : Rho) : Prop where
  st : StE c F H σ ρ
  ext : Ext c F0 H0 F H
  own : ∀ (i : Nat) (d : PyData) (a : Addr), ρ[i]? = some (.ow d) → σ[i]? = some (some (.ref a)) → H0 a = none
  one : ∀ (i j : Nat) (d e : PyData) (a : Addr), ρ[i]? = some (.ow d) → ρ[j]? = some (.ow e) → σ[i]? = some (some (.ref a)) → σ[j]? = some (some (.ref a)) → i = j
def Sub (F F' : Hp) : Prop := ∀ a o, F a = some o → F' a = some o
theorem Sub.refl (F : Hp) : Sub F F := fun _ _ e => e
theorem Sub.trans {F F1 F2 : Hp} (a : Sub F F1) (b : Sub F1 F2) : Sub F F2 := fun p o e => b p o (a p o e)
theorem Sub.t {F F1 : Hp} (a : Sub F F1) : ∀ p o, (∀ ps, o ≠ .tbl ps) → F p = some o → F1 p = some o := fun p o _ e => a p o e
theorem StB.step {c : Cfg} {F0 H0 F H F' H' : Hp} {σ : L2.St} {ρ : Rho} (s : StB c F0 H0 F H σ ρ) (e : Ext c F H F' H') : StB c F0 H0 F' H' σ ρ := ⟨s.st.ext e, s.ext.trans e, s.own, s.one⟩
/-- readings of statements -/
def RQ (c : Cfg) (F0 H0 F : Hp) (D : Ends) : Res → Prop
  | .nx ρ' => ∀ σ' H' F', StB c F0 H0 F' H' σ' ρ' → Sub F F' → D.nx σ' H'
  | .ct ρ' => ∀ σ' H' F', StB c F0 H0 F' H' σ' ρ' → Sub F F' → D.ct σ' H'
  | .bk ρ' => ∀ σ' H' F', StB c F0 H0 F' H' σ' ρ' → Sub F F' → D.bk σ' H'
  | .rt d => ∀ v H' F', Ext c F0 H0 F' H' → Dp c.K F' v d → D.rt v H'
def tS (c : Cfg) (Φ : Fns) (n : Nat) (s : Sm) : TS := fun D σ H => ∃ F0 H0 F ρ r, StB c F0 H0 F H σ ρ ∧ exS Φ n s ρ = some r ∧ RQ c F0 H0 F D r
def tSs (c : Cfg) (Φ : Fns) (n : Nat) (s : Sms) : TS := fun D σ H => ∃ F0 H0 F ρ r, StB c F0 H0 F H σ ρ ∧ exSs Φ n s ρ = some r ∧ RQ c F0 H0 F D r
theorem RQ.sub {c : Cfg} {F0 H0 F F1 : Hp} {D : Ends} {r : Res} (h : RQ c F0 H0 F D r) (e : Sub F F1) : RQ c F0 H0 F1 D r := by
  cases r with
  | nx ρ' => exact fun σ' H' F' s e' => h σ' H' F' s (e.trans e')
  | ct ρ' => exact fun σ' H' F' s e' => h σ' H' F' s (e.trans e')
  | bk ρ' => exact fun σ' H' F' s e' => h σ' H' F' s (e.trans e')
  | rt d => exact h

/-! a store -/
mutual
theorem bindT_own : ∀ (t : Tg) (d : PyData) (ρ ρ' : Rho), bindT t d ρ = some ρ' → ρ'.length = ρ.length ∧ ∀ i e, ρ'[i]? = some (.ow e) → i ∉ slots t ∧ ρ[i]? = some (.ow e)
  | .nm j, d, ρ, ρ', h => by
    simp only [bindT] at h
    split at h <;> try (cases h; done)
    rename_i hj
    cases h
    refine ⟨List.length_set, fun i e he => ?_⟩
    by_cases hij : j = i
    · subst hij
      rw [List.getElem?_set_self hj] at he
      cases he
    · rw [List.getElem?_set_ne hij] at he
      exact ⟨by simp [slots]; exact fun z => hij z.symm, he⟩
  | .tp ts, d, ρ, ρ', h => by
    cases d <;> try (simp [bindT] at h; done)
    simp only [bindT] at h
    have := bindTs_own ts _ ρ ρ' h
    simpa [slots] using this
theorem bindTs_own : ∀ (t : Tgs) (d : List PyData) (ρ ρ' : Rho), bindTs t d ρ = some ρ' → ρ'.length = ρ.length ∧ ∀ i e, ρ'[i]? = some (.ow e) → i ∉ slotss t ∧ ρ[i]? = some (.ow e)
  | .nil, d, ρ, ρ', h => by
    cases d <;> simp [bindTs] at h
    subst h
    exact ⟨rfl, fun i e he => ⟨by simp [slotss], he⟩⟩
  | .cons t ts, d, ρ, ρ', h => by
    cases d with
    | nil => simp [bindTs] at h
    | cons d ds =>
      simp only [bindTs, Option.bind_eq_some_iff] at h
      obtain ⟨ρ1, h1, h2⟩ := h
      obtain ⟨l1, k1⟩ := bindT_own t d ρ ρ1 h1
      obtain ⟨l2, k2⟩ := bindTs_own ts ds ρ1 ρ' h2
      refine ⟨l2.trans l1, fun i e he => ?_⟩
      obtain ⟨a1, a2⟩ := k2 i e he
      obtain ⟨b1, b2⟩ := k1 i e a2
      exact ⟨by simp [slotss, a1, b1], b2⟩
end
theorem StB.asg {c : Cfg} {F0 H0 F H : Hp} {σ σ' : L2.St} {ρ ρ' : Rho} {t : Tg} {d : PyData} (s : StB c F0 H0 F H σ ρ) (hb : bindT t d ρ = some ρ') (s' : StE c F H σ' ρ') (hw : ∀ vs, (∀ i ∈ slots t, i ∈ vs) → wipe σ' vs = wipe σ vs) : StB c F0 H0 F H σ' ρ' := by
  obtain ⟨l, k⟩ := bindT_own t d ρ ρ' hb
  have eq : ∀ i, i ∉ slots t → σ'[i]? = σ[i]? := fun i hi => by
    have := hw (slots t) (fun i hi => hi)
    rw [← wipe_out (σ := σ') hi, ← wipe_out (σ := σ) hi, this]
  refine ⟨s', s.ext, fun i e a h1 h2 => ?_, fun i j e e2 a h1 h2 h3 h4 => ?_⟩
  · obtain ⟨n1, n2⟩ := k i e h1
    rw [eq i n1] at h2
    exact s.own i e a n2 h2
  · obtain ⟨n1, n2⟩ := k i e h1
    obtain ⟨m1, m2⟩ := k j e2 h2
    rw [eq i n1] at h3
    rw [eq j m1] at h4
    exact s.one i j e e2 a n2 m2 h3 h4
/-- an owned object's contents change -/
theorem StB.put {c : Cfg} {F0 H0 F H : Hp} {σ : L2.St} {ρ : Rho} {x : Nat} {a : Addr} {d d' : PyData} {o : HO} (s : StB c F0 H0 F H σ ρ) (hx : ρ[x]? = some (.ow d)) (ha : σ[x]? = some (some (.ref a))) (ho : OwnOf c.K F o d') : StB c F0 H0 F (upd H a o) σ (ρ.set x (.ow d')) := by
  obtain ⟨a', u, e1, hF, hH, hO⟩ := s.st.own x d hx
  rw [ha] at e1; cases e1
  have hxl : x < ρ.length := (List.getElem?_eq_some_iff.mp hx).1
  have e := s.ext.put (s.own x d a hx ha) hF hH hO.nt o
  have gs : ∀ (i : Nat), x ≠ i → (ρ.set x (.ow d'))[i]? = ρ[i]? := fun i h => List.getElem?_set_ne h
  have gx : (ρ.set x (.ow d'))[x]? = some (.ow d') := List.getElem?_set_self hxl
  refine ⟨⟨e.ok, by rw [List.length_set]; exact s.st.len, fun i v h => ?_, fun i v h => ?_⟩, e, fun i v b h1 h2 => ?_, fun i j v v2 b h1 h2 h3 h4 => ?_⟩
  · by_cases hi : x = i
    · subst hi; rw [gx] at h; cases h
    · rw [gs i hi] at h; exact s.st.slot i v h
  · by_cases hi : x = i
    · subst hi
      rw [gx] at h; cases h
      exact ⟨a, o, ha, hF, upd_same, ho⟩
    · rw [gs i hi] at h
      obtain ⟨b, w, q1, q2, q3, q4⟩ := s.st.own i v h
      refine ⟨b, w, q1, q2, ?_, q4⟩
      have : b ≠ a := fun z => hi (s.one x i d v a hx h ha (by rw [q1, z]))
      rw [upd_ne this]; exact q3
  · by_cases hi : x = i
    · subst hi; rw [ha] at h2; cases h2; exact s.own x d a hx ha
    · rw [gs i hi] at h1; exact s.own i v b h1 h2
  · by_cases hi : x = i
    · by_cases hj : x = j
      · rw [← hi, ← hj]
      · subst hi
        rw [gs j hj] at h2
        exact s.one x j d v2 b hx h2 h3 h4
    · rw [gs i hi] at h1
      by_cases hj : x = j
      · subst hj
        exact s.one i x v d b h1 hx h3 h4
      · rw [gs j hj] at h2
        exact s.one i j v v2 b h1 h2 h3 h4
/-- a new object in a slot of its own -/
theorem StB.new {c : Cfg} {F0 H0 F H F' H' : Hp} {σ : L2.St} {ρ : Rho} {i : Nat} {a : Addr} {d : PyData} {o : HO} (s : StB c F0 H0 F H σ ρ) (e : Ext c F H F' H') (hi : i < ρ.length) (hF : F' a = none) (hn : H a = none) (hH : H' a = some o) (ho : OwnOf c.K F' o d) : StB c F0 H0 F' H' (σ.set i (some (.ref a))) (ρ.set i (.ow d)) := by
  have s1 := s.step e
  have hl : i < σ.length := by rw [s.st.len]; exact hi
  have ne : ∀ (j : Nat) (v : PyData) (b : Addr), ρ[j]? = some (Sl.ow v) → σ[j]? = some (some (V.ref b)) → b ≠ a := fun j v b h1 h2 z => by
    obtain ⟨b', w, q1, q2, q3, q4⟩ := s.st.own j v h1
    rw [h2] at q1; cases q1
    rw [z, hn] at q3; cases q3
  refine ⟨⟨s1.st.ok, by rw [List.length_set, List.length_set]; exact s1.st.len, fun j v h => ?_, fun j v h => ?_⟩, s1.ext, fun j v b h1 h2 => ?_, fun j k v v2 b h1 h2 h3 h4 => ?_⟩
  · by_cases hj : i = j
    · subst hj; rw [List.getElem?_set_self hi] at h; cases h
    · rw [List.getElem?_set_ne hj] at h ⊢; exact s1.st.slot j v h
  · by_cases hj : i = j
    · subst hj
      rw [List.getElem?_set_self hi] at h; cases h
      exact ⟨a, o, List.getElem?_set_self hl, hF, hH, ho⟩
    · rw [List.getElem?_set_ne hj] at h ⊢; exact s1.st.own j v h
  · by_cases hj : i = j
    · subst hj
      rw [List.getElem?_set_self hl] at h2; cases h2
      exact s.ext.grow a hn
    · rw [List.getElem?_set_ne hj] at h1 h2; exact s.own j v b h1 h2
  · by_cases hj : i = j
    · by_cases hk : i = k
      · rw [← hj, ← hk]
      · subst hj
        rw [List.getElem?_set_self hl] at h3; cases h3
        rw [List.getElem?_set_ne hk] at h2 h4
        exact absurd rfl (ne k v2 a h2 h4)
    · rw [List.getElem?_set_ne hj] at h1 h3
      by_cases hk : i = k
      · subst hk
        rw [List.getElem?_set_self hl] at h4; cases h4
        exact absurd rfl (ne j v a h1 h3)
      · rw [List.getElem?_set_ne hk] at h2 h4
        exact s.one j k v v2 b h1 h2 h3 h4
/-- owned slots are changed no more -/
theorem StB.frz {c : Cfg} {F0 H0 H : Hp} {σ : L2.St} : ∀ (is : List Nat) {F : Hp} {ρ : Rho}, StB c F0 H0 F H σ ρ → ∃ F', StB c F0 H0 F' H σ (frzR ρ is) ∧ Sub F F'
  | [], F, ρ, s => ⟨F, s, Sub.refl F⟩
  | x :: is, F, ρ, s => by
    unfold frzR
    split
    · rename_i d hx
      obtain ⟨a, o, ha, hF, hH, hO⟩ := s.st.own x d hx
      have hxl : x < ρ.length := (List.getElem?_eq_some_iff.mp hx).1
      have e := s.ext.frz (s.own x d a hx ha) hF hH hO.nt (fun f z => by subst z; cases d <;> exact hO)
      have sub : Sub F (upd F a o) := fun b u q => by
        have z : b ≠ a := fun z => by rw [z, hF] at q; cases q
        rw [upd_ne z]; exact q
      have gs : ∀ (i : Nat), x ≠ i → (ρ.set x (.fz d))[i]? = ρ[i]? := fun i h => List.getElem?_set_ne h
      have gx : (ρ.set x (.fz d))[x]? = some (.fz d) := List.getElem?_set_self hxl
      have s1 : StB c F0 H0 (upd F a o) H σ (ρ.set x (.fz d)) := by
        refine ⟨⟨e.ok, by rw [List.length_set]; exact s.st.len, fun i v h => ?_, fun i v h => ?_⟩, e, fun i v b h1 h2 => ?_, fun i j v v2 b h1 h2 h3 h4 => ?_⟩
        · by_cases hi : x = i
          · subst hi
            rw [gx] at h; cases h
            exact ⟨.ref a, ha, (hO.mono sub.t).dp upd_same⟩
          · rw [gs i hi] at h
            obtain ⟨w, q1, q2⟩ := s.st.slot i v h
            exact ⟨w, q1, dp_mono sub.t _ _ q2⟩
        · by_cases hi : x = i
          · subst hi; rw [gx] at h; cases h
          · rw [gs i hi] at h
            obtain ⟨b, w, q1, q2, q3, q4⟩ := s.st.own i v h
            refine ⟨b, w, q1, ?_, q3, q4.mono sub.t⟩
            have : b ≠ a := fun z => hi (s.one x i d v a hx h ha (by rw [q1, z]))
            rw [upd_ne this]; exact q2
        · by_cases hi : x = i
          · subst hi; rw [gx] at h1; cases h1
          · rw [gs i hi] at h1; exact s.own i v b h1 h2
        · by_cases hi : x = i
          · subst hi; rw [gx] at h1; cases h1
          · by_cases hj : x = j
            · subst hj; rw [gx] at h2; cases h2
            · rw [gs i hi] at h1
              rw [gs j hj] at h2
              exact s.one i j v v2 b h1 h2 h3 h4
      obtain ⟨F', h1, h2⟩ := StB.frz is s1
      exact ⟨F', h1, sub.trans h2⟩
    · exact StB.frz is s
end Cs

set_option maxHeartbeats 8000000
/-! The text against the core language: statements hold. -/
noncomputable section
namespace Cs
open PySem PySem.Spec PyProof.Rows L2 GxR Ce Gx
section
variable {c : Cfg} {ct : Ctl} {Φ : Fns} {lf n : Nat} {X : Cx} {sc : Scope} {fnb : Str → Bool}

theorem lcSt_ok {t e : Expr} (h : lcSt sc t e = true) : ∃ x p el gs s p2, t = .Name x p ∧ e = .ListComp el gs s p2 ∧ sc.kind = .function ∧ sc.names.lookup x = some .local ∧ (p.line == p2.line) = true ∧ (s.names.any fun (n, k) => n == x && (k == .local || k == .cell)) = false := by
  unfold lcSt at h
  split at h
  · rw [Bool.and_eq_true, Bool.and_eq_true, Bool.and_eq_true, decide_eq_true_eq, decide_eq_true_eq, Bool.not_eq_true'] at h
    exact ⟨_, _, _, _, _, _, rfl, rfl, h.1, h.2.1, h.2.2.1, h.2.2.2⟩
  · cases h
/-- a name's store, of any way -/
theorem ps_nm (C : CtxOk c ct Φ lf X sc fnb 2) {i : Nat} {ex : Ex} {t' e' : Expr} {pos : Pos} {m : Md} (hm : m = .nw → isNew ex = true) (ha : asgB sc t' e' = true) (ht : chkT ct (.nm i) sc fnb t' = true) (he : chk ct ex sc fnb 2 e' = true) :
    PS X (.Assign [t'] e' pos) (tAsg (tE c Φ m ex) (gName i)) := by
  unfold chkT at ht
  split at ht <;> try (cases ht; done)
  rename_i x hx
  rw [Bool.and_eq_true, decide_eq_true_eq] at ht
  obtain ⟨p, rfl⟩ := xName_ok hx
  obtain ⟨h1, h2⟩ := stoB_ok ht.2
  unfold asgB at ha
  rw [Bool.or_eq_true, Bool.or_eq_true, Bool.and_eq_true] at ha
  rcases ha with ⟨ha, _⟩ | ha | ha
  · exact ps_set (by rw [C.N]; exact C.nd) (by rw [C.N]; exact ht.1) (by rw [C.sc]; exact h1) ((chk_ok ex C he).pe m hm) (noLc_ok ha) (by rw [C.sc, C.fn]; exact h2)
  · obtain ⟨x', p', el', gs, s', p2, e1, rfl, k1, k2, k3, k4⟩ := lcSt_ok ha
    cases e1
    have hex : (∃ el t i ifs, ex = .lc el t i ifs) ∨ ∃ el t i ifs t1 i1 ifs1, ex = .lc2 el t i ifs t1 i1 ifs1 := by
      cases ex <;> first | exact .inl ⟨_, _, _, _, rfl⟩ | exact .inr ⟨_, _, _, _, _, _, _, rfl⟩ | (simp [chk, xName, dConst, dTup, dLst, dBin, dUn, dBool, dCmp, dCmp2, dIf, dSub, dSl, dRev, dCall, dOne, dTwo, dMeth] at he; done)
    rcases hex with ⟨el, t, it, ifs, rfl⟩ | ⟨el, t, it, ifs, t1, it1, ifs1, rfl⟩
    · unfold chk at he
      split at he <;> try (cases he; done)
      rename_i m0 hx2
      simp only [Bool.and_eq_true] at he
      obtain ⟨⟨h1', h2'⟩, ⟨h3, h4⟩, h5, h6⟩ := he
      obtain ⟨p3, e3⟩ := dLc_ok hx2
      cases e3
      have ok := blkOk_by h1'
      rw [← C.sc, ← C.N] at ok
      refine PS.imp (ps_setLc C.calm (by rw [C.N]; exact C.nd) (by rw [C.N]; exact ht.1) (by rw [C.sc]; exact k2) (sw_true (by rw [C.sc]; exact k1) (by rw [C.sc]; exact k2) k3 k4) (chkI_ok it C h3 true) ok
        (fun s H c0 cl fp => sG t (C.blk m0.scope s H c0 cl fp) h4) (fun s H c0 cl fp => chko_ok ifs (C.blk m0.scope s H c0 cl fp) h6) (fun s H c0 cl fp => (chk_ok el (C.blk m0.scope s H c0 cl fp) h5).pe .fr (fun z => by cases z)) (plain_fold h2').1) fun D σ H h => ?_
      exact lc_imp h _
    · unfold chk at he
      split at he <;> try (cases he; done)
      rename_i m0 hx2
      simp only [Bool.and_eq_true] at he
      obtain ⟨⟨h1', h2', h2''⟩, ⟨h3, h4⟩, ⟨h3', h4'⟩, h5, h6, h6'⟩ := he
      obtain ⟨p3, e3⟩ := dLc2_ok hx2
      cases e3
      have ok := blkOk_by h1'
      rw [← C.sc, ← C.N] at ok
      refine PS.imp (ps_setLc2 C.calm (by rw [C.N]; exact C.nd) (by rw [C.N]; exact ht.1) (by rw [C.sc]; exact k2) (sw_true (by rw [C.sc]; exact k1) (by rw [C.sc]; exact k2) k3 k4) (chkI_ok it C h3 true) ok (fun i hi => by rw [own_map]; exact List.mem_append_right _ hi)
        (fun s H c0 cl fp => sG t (C.blk m0.scope s H c0 cl fp) h4) (fun s H c0 cl fp => chko_ok ifs (C.blk m0.scope s H c0 cl fp) h6) (fun s H c0 cl fp => chkI_ok it1 (C.blk m0.scope s H c0 cl fp) h3' false) (fun s H c0 cl fp => sG t1 (C.blk m0.scope s H c0 cl fp) h4') (fun s H c0 cl fp => chko_ok ifs1 (C.blk m0.scope s H c0 cl fp) h6') (fun s H c0 cl fp => (chk_ok el (C.blk m0.scope s H c0 cl fp) h5).pe .fr (fun z => by cases z)) (plain_fold h2').1 (fun env => (plain_fold (env := env) h2'').1)) fun D σ H h => ?_
      exact lc_imp2 h _
  · obtain ⟨x', p', e1, k1⟩ := lcCell_ok ha
    cases e1
    exact ps_set (by rw [C.N]; exact C.nd) (by rw [C.N]; exact ht.1) (by rw [C.sc]; exact h1) ((chk_ok ex C he).pe m hm) (sw_cell (by rw [C.sc]; exact k1)) (by rw [C.sc, C.fn]; exact h2)
theorem RQ.nx1 {F0 H0 F : Hp} {D : Ends} {ρ : Rho} (h : RQ c F0 H0 F D (.nx ρ)) {σ' : L2.St} {H' F' : Hp} (s : StB c F0 H0 F' H' σ' ρ) (e : Sub F F') : D.nx σ' H' := h σ' H' F' s e
theorem stb_set {F0 H0 F H : Hp} {σ : L2.St} {ρ : Rho} {i : Nat} {v : V} {d : PyData} (s : StB c F0 H0 F H σ ρ) (hi : i < ρ.length) (hd : Dp c.K F v d) : StB c F0 H0 F H (σ.set i (some v)) (ρ.set i (.fz d)) :=
  s.asg (t := .nm i) (d := d) (by simp [bindT, hi]) (s.st.set hd) fun vs hv => wipe_set (hv i (by simp [slots]))
theorem ps_asg0 (C : CtxOk c ct Φ lf X sc fnb 2) {t : Tg} {e : Ex} {s : Stmt} (h : chS ct (.asg t e) sc fnb s = true) : PS X s (tS c Φ n (.asg t e)) := by
  unfold chS at h
  split at h <;> try (cases h; done)
  rename_i t' e' pos hx
  rw [Bool.and_eq_true, Bool.and_eq_true] at h
  obtain ⟨ha, ht, he⟩ := h
  rw [dAsg_ok hx]
  cases t with
  | nm i =>
    refine PS.imp (ps_nm (m := .fr) C (fun z => by cases z) ha ht he) fun D σ H ⟨F0, H0, F, ρ, r, s, h, k⟩ => ?_
    simp only [exS, Option.bind_eq_some_iff, Option.map_eq_some_iff] at h
    obtain ⟨d, hd, ρ', hb, rfl⟩ := h
    refine ⟨F, ρ, d, s.st, hd, fun v H1 F1 e1 f1 => ?_⟩
    have hi : i < ρ.length := by
      simp only [bindT] at hb
      split at hb
      · assumption
      · cases hb
    have eb : ρ' = ρ.set i (.fz d) := by simpa [bindT, hi] using hb.symm
    subst eb
    exact k.nx1 (stb_set (s.step e1) hi f1) e1.fk
  | tp ts =>
    have hl : noLc e' = true ∧ plainSt t' e' = true := by
      unfold asgB at ha
      rw [Bool.or_eq_true, Bool.or_eq_true, Bool.and_eq_true] at ha
      rcases ha with ha | ha | ha
      · exact ha
      · obtain ⟨x', p', el', gs, s', p2, rfl, rfl, _⟩ := lcSt_ok ha
        simp [chkT, dTup] at ht
      · obtain ⟨x', p', rfl, _⟩ := lcCell_ok ha
        simp [chkT, dTup] at ht
    refine PS.imp (ps_asg ((chk_ok e C he).pe .fr (fun z => by cases z)) (sG _ C ht) (noLc_ok hl.1) (plainSt_ok hl.2) (one_store hl.2)) fun D σ H ⟨F0, H0, F, ρ, r, s, h, k⟩ => ?_
    simp only [exS, Option.bind_eq_some_iff, Option.map_eq_some_iff] at h
    obtain ⟨d, hd, ρ', hb, rfl⟩ := h
    exact ⟨F, ρ, d, s.st, hd, fun v H1 F1 e1 f1 => ⟨F1, ρ, d, ρ', s.st.ext e1, f1, hb, fun σ' s' hw => k.nx1 ((s.step e1).asg hb s' hw) e1.fk⟩⟩
theorem ps_own0 (C : CtxOk c ct Φ lf X sc fnb 2) {i : Nat} {e : Ex} {s : Stmt} (h : chS ct (.own i e) sc fnb s = true) : PS X s (tS c Φ n (.own i e)) := by
  unfold chS at h
  split at h <;> try (cases h; done)
  rename_i t' e' pos hx
  rw [Bool.and_eq_true, Bool.and_eq_true, Bool.and_eq_true] at h
  obtain ⟨ha, ht, hn, he⟩ := h
  rw [dAsg_ok hx]
  refine PS.imp (ps_nm (m := .nw) C (fun _ => hn) ha ht he) fun D σ H ⟨F0, H0, F, ρ, r, s, h, k⟩ => ?_
  simp only [exS, Option.bind_eq_some_iff] at h
  obtain ⟨d, hd, h⟩ := h
  split at h <;> try (cases h; done)
  rename_i hmi
  cases h
  refine ⟨F, ρ, d, s.st, hd, fun v H1 F1 e1 f1 => ?_⟩
  dsimp only [Fin] at f1
  rw [if_pos hmi.1] at f1
  obtain ⟨a, o, rfl, q1, q2, q3, q4⟩ := f1
  exact k.nx1 (s.new e1 hmi.2 q1 q2 q3 q4) e1.fk
theorem ps_ret0 (C : CtxOk c ct Φ lf X sc fnb 2) {e : Ex} {s : Stmt} (h : chS ct (.ret e) sc fnb s = true) : PS X s (tS c Φ n (.ret e)) := by
  unfold chS at h
  split at h <;> try (cases h; done)
  rename_i e' hx
  obtain ⟨p, rfl⟩ := dRet_ok hx
  refine PS.imp (ps_ret ((chk_ok e C h).pe .fr (fun z => by cases z))) fun D σ H ⟨F0, H0, F, ρ, r, s, h, k⟩ => ?_
  simp only [exS, Option.map_eq_some_iff] at h
  obtain ⟨d, hd, rfl⟩ := h
  exact ⟨F, ρ, d, s.st, hd, fun v H1 F1 e1 f1 => k v H1 F1 (s.ext.trans e1) f1⟩
theorem ps_app0 (C : CtxOk c ct Φ lf X sc fnb 2) {i : Nat} {e : Ex} {s : Stmt} (h : chS ct (.app i e) sc fnb s = true) : PS X s (tS c Φ n (.app i e)) := by
  unfold chS at h
  split at h <;> try (cases h; done)
  rename_i x m e' hx
  rw [Bool.and_eq_true, Bool.and_eq_true, Bool.and_eq_true, Bool.and_eq_true, Bool.and_eq_true, decide_eq_true_eq, decide_eq_true_eq] at h
  obtain ⟨⟨rfl, hi, hv, hok⟩, hs, he⟩ := h
  obtain ⟨q, a, cp, p, rfl, hl⟩ := dMt_ok hx
  obtain ⟨n1, n2, n3⟩ := okN_ok hok
  have pv : PE X (.Name x q) (tVar i) := pe_var (by rw [C.N]; exact hi) (by rw [C.sc]; exact visB_ok hv) n1 n2
  have key := pe_bm (X := X) (apos := a) (cpos := cp) PySem.F.plainAttrs_list PySem.F.slot_list_append PySem.F.type_list_append mt_append pv (pa_cons ((chk_ok e C he).pe .fr (fun z => by cases z)) pa_nil (star_cons hs)) (by rfl)
    (by rw [star_cons hs]; rfl) hl (star_cons hs) (by rfl)
  refine PS.imp (ps_expr key (noLc_ok rfl)) fun D σ H ⟨F0, H0, F, ρ, r, s, h, k⟩ => ?_
  simp only [exS, Option.bind_eq_some_iff] at h
  obtain ⟨d, hd, h⟩ := h
  split at h <;> try (cases h; done)
  rename_i ds hx
  rw [gd_some] at h
  obtain ⟨hlen, h⟩ := h
  cases h
  obtain ⟨ad, o, ha, hF, hH, hO⟩ := s.st.own i _ hx
  cases o <;> try exact hO.elim
  rename_i xs
  refine ⟨.ref ad, ha, .inl ⟨rfl, xs, SqL.of hH⟩, F, ρ, d, s.st, hd, fun v H1 F1 e1 f1 => ⟨ad, xs, v, rfl, rfl, e1.keep ad _ (fun ps z => by cases z) hH, ?_, ?_⟩⟩
  · have hO : DpAll c.K F xs ds := hO
    rw [DpAll.length hO, ← lim_eq]; exact hlen
  · have hO : DpAll c.K F xs ds := hO
    exact k.nx1 ((s.step e1).put hx ha (show OwnOf c.K F1 (.lst (xs ++ [v])) (.list (ds ++ [d])) from DpAll.append (dpAll_mono e1.fkT _ _ hO) (.cons f1 .nil))) e1.fk
theorem ps_aug0 (C : CtxOk c ct Φ lf X sc fnb 2) {i : Nat} {b : Bool} {e : Ex} {s : Stmt} (h : chS ct (.aug i b e) sc fnb s = true) : PS X s (tS c Φ n (.aug i b e)) := by
  unfold chS at h
  split at h <;> try (cases h; done)
  rename_i x o e' hx
  rw [Bool.and_eq_true, Bool.and_eq_true, Bool.and_eq_true, decide_eq_true_eq, decide_eq_true_eq] at h
  obtain ⟨⟨ho, hi, hst⟩, he⟩ := h
  obtain ⟨q, p, rfl⟩ := dAug_ok hx
  obtain ⟨h1, h2⟩ := stoB_ok hst
  have pe := (chk_ok e C he).pe .bo (fun z => by cases z)
  have ip : PIp X o (ipI fun a d => if b = true then a + d else a - d) := by
    cases b with
    | true => rw [ho]; exact ip_add
    | false => rw [ho]; exact ip_sub
  refine PS.imp (ps_aug (by rw [C.N]; exact C.nd) (by rw [C.N]; exact hi) (by rw [C.sc]; exact h1) pe ip (by rw [C.sc, C.fn]; exact h2)) fun D σ H ⟨F0, H0, F, ρ, r, s, h, k⟩ => ?_
  simp only [exS, Option.bind_eq_some_iff] at h
  obtain ⟨d, hd, h⟩ := h
  split at h <;> try (cases h; done)
  rename_i x0 y0 hx
  cases h
  obtain ⟨v, q1, q2⟩ := s.st.slot i _ hx
  cases q2
  have hil : i < ρ.length := (List.getElem?_eq_some_iff.mp hx).1
  refine ⟨_, q1, ev1 s.st hd fun v H1 F1 e1 r1 => ⟨x0, y0, rfl, r1.int, ?_⟩⟩
  exact k.nx1 (stb_set (s.step e1) hil (.int _)) e1.fk
theorem ps_ext0 (C : CtxOk c ct Φ lf X sc fnb 2) {i : Nat} {e : Ex} {s : Stmt} (h : chS ct (.ext i e) sc fnb s = true) : PS X s (tS c Φ n (.ext i e)) := by
  unfold chS at h
  split at h <;> try (cases h; done)
  rename_i x m e' hx
  rw [Bool.and_eq_true, Bool.and_eq_true, Bool.and_eq_true, Bool.and_eq_true, Bool.and_eq_true, decide_eq_true_eq, decide_eq_true_eq] at h
  obtain ⟨⟨rfl, hi, hv, hok⟩, hs, he⟩ := h
  obtain ⟨q, a, cp, p, rfl, hl⟩ := dMt_ok hx
  obtain ⟨n1, n2, n3⟩ := okN_ok hok
  have pv : PE X (.Name x q) (tVar i) := pe_var (by rw [C.N]; exact hi) (by rw [C.sc]; exact visB_ok hv) n1 n2
  have key := pe_bm (X := X) (apos := a) (cpos := cp) PySem.F.plainAttrs_list PySem.F.slot_list_extend PySem.F.type_list_extend mt_extS pv (pa_cons ((chk_ok e C he).pe .fr (fun z => by cases z)) pa_nil (star_cons hs)) (by rfl)
    (by rw [star_cons hs]; rfl) hl (star_cons hs) (by rfl)
  refine PS.imp (ps_expr key (noLc_ok rfl)) fun D σ H ⟨F0, H0, F, ρ, r, s, h, k⟩ => ?_
  simp only [exS, Option.bind_eq_some_iff] at h
  obtain ⟨d, hd, h⟩ := h
  split at h <;> try (cases h; done)
  rename_i ds es hx
  rw [gd_some] at h
  obtain ⟨hlen, h⟩ := h
  cases h
  obtain ⟨ad, o, ha, hF, hH, hO⟩ := s.st.own i _ hx
  cases o <;> try exact hO.elim
  rename_i xs
  refine ⟨.ref ad, ha, .inl ⟨rfl, xs, SqL.of hH⟩, F, ρ, _, s.st, hd, fun v H1 F1 e1 f1 => ?_⟩
  have f1 : Dp c.K F1 v (.list es) := f1
  cases f1 with
  | lst q1 q2 =>
    have hO : DpAll c.K F xs ds := hO
    refine ⟨ad, _, xs, _, rfl, rfl, e1.keep ad _ (fun ps z => by cases z) hH, C.K ▸ sql_mono e1.ok.fhT q1, ?_, ?_⟩
    · rw [DpAll.length hO, DpAll.length q2, ← lim_eq]; exact hlen
    · exact k.nx1 ((s.step e1).put hx ha (show OwnOf c.K F1 (.lst (xs ++ _)) (.list (ds ++ es)) from DpAll.append (dpAll_mono e1.fkT _ _ hO) q2)) e1.fk
theorem ints_vals {K : PySem.W.Frag} {F : Hp} {xs : List V} {ds : List PyData} {ns : List Int} (h : DpAll K F xs ds) (hi : ints? ds = some ns) : xs = ns.map V.int := DpAll.ints h hi
theorem dp_ints_map {K : PySem.W.Frag} {F : Hp} : ∀ ns : List Int, DpAll K F (ns.map V.int) (ns.map PyData.int)
  | [] => .nil
  | n :: ns => .cons (.int n) (dp_ints_map ns)
theorem erase_first {ns : List Int} {k : Int} (h : k ∈ ns) : ∃ j : Nat, ns[j]? = some k ∧ (∀ m : Nat, m < j → ns[m]? ≠ some k) ∧ ns.eraseIdx j = ns.erase k := by
  induction ns with
  | nil => cases h
  | cons n ns ih =>
    by_cases e : n = k
    · subst e
      exact ⟨0, rfl, fun m hm => absurd hm (by omega), by simp⟩
    · obtain ⟨j, h1, h2, h3⟩ := ih (by
        rcases List.mem_cons.mp h with z | z
        · exact absurd z.symm e
        · exact z)
      refine ⟨j + 1, by simpa using h1, fun m hm => ?_, ?_⟩
      · cases m with
        | zero => simpa using e
        | succ m => simpa using h2 m (by omega)
      · rw [List.eraseIdx_cons_succ, h3, List.erase_cons]
        have : (n == k) = false := by simpa using e
        rw [this]
        rfl
theorem ps_rem0 (C : CtxOk c ct Φ lf X sc fnb 2) {i : Nat} {e : Ex} {s : Stmt} (h : chS ct (.rem i e) sc fnb s = true) : PS X s (tS c Φ n (.rem i e)) := by
  unfold chS at h
  split at h <;> try (cases h; done)
  rename_i x m e' hx
  rw [Bool.and_eq_true, Bool.and_eq_true, Bool.and_eq_true, Bool.and_eq_true, Bool.and_eq_true, decide_eq_true_eq, decide_eq_true_eq] at h
  obtain ⟨⟨rfl, hi, hv, hok⟩, hs, he⟩ := h
  obtain ⟨q, a, cp, p, rfl, hl⟩ := dMt_ok hx
  obtain ⟨n1, n2, n3⟩ := okN_ok hok
  have pv : PE X (.Name x q) (tVar i) := pe_var (by rw [C.N]; exact hi) (by rw [C.sc]; exact visB_ok hv) n1 n2
  have key := pe_bm (X := X) (apos := a) (cpos := cp) PySem.F.plainAttrs_list PySem.F.slot_list_remove PySem.F.type_list_remove mt_remove pv (pa_cons ((chk_ok e C he).pe .bo (fun z => by cases z)) pa_nil (star_cons hs)) (by rfl)
    (by rw [star_cons hs]; rfl) hl (star_cons hs) (by rfl)
  refine PS.imp (ps_expr key (noLc_ok rfl)) fun D σ H ⟨F0, H0, F, ρ, r, s, h, k⟩ => ?_
  simp only [exS, Option.bind_eq_some_iff] at h
  obtain ⟨d, hd, h⟩ := h
  split at h <;> try (cases h; done)
  rename_i ds kk hx
  rw [Option.bind_eq_some_iff] at h
  obtain ⟨ns, hns, h⟩ := h
  split at h <;> try (cases h; done)
  rename_i hmem
  cases h
  obtain ⟨ad, o, ha, hF, hH, hO⟩ := s.st.own i _ hx
  cases o <;> try exact hO.elim
  rename_i xs
  have hO : DpAll c.K F xs ds := hO
  have ev := ints_vals hO hns
  subst ev
  obtain ⟨j, j1, j2, j3⟩ := erase_first hmem
  refine ⟨.ref ad, ha, .inl ⟨rfl, _, SqL.of hH⟩, ev1 s.st hd fun v F1 H1 e1 r1 => ⟨ad, ns, kk, j, rfl, by rw [r1.int], e1.keep ad _ (fun ps z => by cases z) hH, j1, j2, ?_⟩⟩
  rw [j3]
  exact k.nx1 ((s.step e1).put hx ha (show OwnOf c.K F1 (.lst ((ns.erase kk).map V.int)) (.list ((ns.erase kk).map .int)) from dp_ints_map _)) e1.fk
theorem ps_put0 (C : CtxOk c ct Φ lf X sc fnb 2) {x : Nat} {i e : Ex} {s : Stmt} (h : chS ct (.put x i e) sc fnb s = true) : PS X s (tS c Φ n (.put x i e)) := by
  unfold chS at h
  split at h <;> try (cases h; done)
  rename_i y i' e' hx
  rw [Bool.and_eq_true, Bool.and_eq_true, Bool.and_eq_true, Bool.and_eq_true, Bool.and_eq_true, decide_eq_true_eq] at h
  obtain ⟨⟨hlc, hi, hv, hok⟩, h1, h2⟩ := h
  obtain ⟨⟨q, p, p2, rfl⟩, hsl⟩ := dPut_ok hx
  obtain ⟨n1, n2, n3⟩ := okN_ok hok
  have pv : PE X (.Name y q) (tVar x) := pe_var (by rw [C.N]; exact hi) (by rw [C.sc]; exact visB_ok hv) n1 n2
  refine PS.imp (ps_asg ((chk_ok e C h2).pe .fr (fun z => by cases z)) (pg_sub pv ((chk_ok i C h1).pe .bo (fun z => by cases z)) set_list (ns_assign hsl)) (show swapsWith e' (some ((Expr.Name y q).Subscript i' p)) p2.line X.env = pure false from noLc_ok hlc) (by cases e' <;> rfl) (by rfl)) fun D σ H ⟨F0, H0, F, ρ, r, s, h, k⟩ => ?_
  simp only [exS, Option.bind_eq_some_iff] at h
  obtain ⟨d, hd, kd, hk, h⟩ := h
  split at h <;> try (cases h; done)
  rename_i ds kk hx
  rw [Option.map_eq_some_iff] at h
  obtain ⟨j, hj, rfl⟩ := h
  obtain ⟨ad, o, ha, hF, hH, hO⟩ := s.st.own x _ hx
  cases o <;> try exact hO.elim
  rename_i xs
  have hO : DpAll c.K F xs ds := hO
  refine ⟨F, ρ, d, s.st, hd, fun v H1 F1 e1 f1 => ⟨.ref ad, ha, ev1 (s.st.ext e1) hk fun w F2 H2 e2 r2 => ⟨ad, xs, kk, j, rfl, r2.int, (e1.trans e2).keep ad _ (fun ps z => by cases z) hH, by rw [DpAll.length hO]; exact hj, ?_⟩⟩⟩
  have f1 : Dp c.K F1 v d := f1
  exact k.nx1 ((s.step (e1.trans e2)).put hx ha (show OwnOf c.K F2 (.lst (xs.set j v)) (.list (ds.set j d)) from DpAll.set (dp_mono e2.fkT _ _ f1) j (dpAll_mono (e1.trans e2).fkT _ _ hO))) (e1.trans e2).fk
theorem plainTg_ok {t : Expr} {p : Pos} {f : Expr} {es : List Expr} {kw : List Keyword} {env : Env} (h : plainTg t = true) : swappedStores [t] (.Call f es kw p) env = pure none := by
  cases t <;> first | rfl | (cases h)
theorem plainTg_ok2 {t : Expr} {env : Env} (h : plainTg t = true) : (assignEach [t] env).map (·.2) = [assign t env] := by
  cases t <;> first | rfl | (cases h)
theorem ps_par0 (C : CtxOk c ct Φ lf X sc fnb 2) {i j : Nat} {a b : Ex} {s : Stmt} (h : chS ct (.par i j a b) sc fnb s = true) : PS X s (tS c Φ n (.par i j a b)) := by
  unfold chS at h
  split at h <;> try (cases h; done)
  rename_i m0 hx
  simp only [Bool.and_eq_true, decide_eq_true_eq] at h
  obtain ⟨⟨⟨hi, hj⟩, hkd, hpar⟩, h1, h2⟩ := h
  have hbk : X.env.blockKind = .function := by
    have : X.env.scope.kind = .function := by rw [C.sc]; exact hkd
    unfold Env.blockKind
    rw [this]
    rfl
  obtain ⟨k1, p3, k2, p4, p5, rfl⟩ := dPar_ok hx
  by_cases hij : i = j
  · refine ⟨fun pins s σ H D I ⟨F0, H0, F, ρ, r, s, h, k⟩ => ?_⟩
    simp only [exS, Option.bind_eq_some_iff] at h
    obtain ⟨d, hd, d2, hd2, h⟩ := h
    rw [if_neg (fun z => z.1 hij)] at h
    cases h
  have hp2 := hpar
  unfold parB at hp2
  simp only [Bool.and_eq_true, decide_eq_true_eq] at hp2
  obtain ⟨⟨hlx, hly⟩, _, ⟨hs1, hs2⟩, _⟩ := hp2
  refine PS.imp (ps_par C.calm (by rw [C.N]; exact C.nd) (by rw [C.N]; exact hi) (by rw [C.N]; exact hj) hij (by rw [C.sc]; exact hlx) (by rw [C.sc]; exact hly) (pa_cons ((chk_ok a C h1).pe .fr (fun z => by cases z)) (pa_cons ((chk_ok b C h2).pe .fr (fun z => by cases z)) pa_nil (star_cons hs2)) (star_cons hs1)) (sw_par hbk (by rw [C.sc]; exact hpar))) fun D σ H ⟨F0, H0, F, ρ, r, s, h, k⟩ => ?_
  simp only [exS, Option.bind_eq_some_iff] at h
  obtain ⟨d, hd, d2, hd2, h⟩ := h
  split at h <;> try (cases h; done)
  rename_i hh
  cases h
  refine ⟨F, ρ, d, s.st, hd, fun v H1 F1 e1 f1 => ⟨F1, ρ, d2, s.st.ext e1, hd2, fun w H2 F2 e2 f2 => ⟨v, w, rfl, ?_⟩⟩⟩
  have f1 : Dp c.K F1 v d := f1
  have f2 : Dp c.K F2 w d2 := f2
  have s2 := stb_set (s.step (e1.trans e2)) hh.2.1 (dp_mono e2.fkT _ _ f1)
  exact k.nx1 (stb_set s2 (by rw [List.length_set]; exact hh.2.2) f2) (e1.trans e2).fk
theorem ps_pop0 (C : CtxOk c ct Φ lf X sc fnb 2) {t : Tg} {x : Nat} {o : Exo} {s : Stmt} (h : chS ct (.popTo t x o) sc fnb s = true) : PS X s (tS c Φ n (.popTo t x o)) := by
  unfold chS at h
  split at h <;> try (cases h; done)
  rename_i t' y es hx
  simp only [Bool.and_eq_true, decide_eq_true_eq] at h
  obtain ⟨⟨hpt, ht⟩, ⟨hi, hv, hok⟩, hst, ha⟩ := h
  obtain ⟨p, a, cp, r, rfl, hl⟩ := dPop_ok hx
  obtain ⟨n1, n2, n3⟩ := okN_ok hok
  have pv : PE X (.Name y p) (tVar x) := pe_var (by rw [C.N]; exact hi) (by rw [C.sc]; exact visB_ok hv) n1 n2
  have fin : ∀ {D : Ends} {σ : L2.St} {H F0 H0 F F1 H1 : Hp} {ρ : Rho} {r : Res} {d : PyData} {ds rest : List PyData} {xs zs : List V} {ad : Addr} {v : V}, StB c F0 H0 F H σ ρ → Ext c F H F1 H1 → ρ[x]? = some (.ow (.list ds)) → σ[x]? = some (some (.ref ad)) → x ∉ slots t → (bindT t d (ρ.set x (.ow (.list rest)))).map Res.nx = some r → Dp c.K F1 v d → DpAll c.K F1 zs rest → RQ c F0 H0 F D r → tG c t v σ (upd H1 ad (.lst zs)) D.nx := fun {D σ H F0 H0 F F1 H1 ρ r d ds rest xs zs ad v} s e1 hx ha hnx hb f1 fz k => by
    rw [Option.map_eq_some_iff] at hb
    obtain ⟨ρ', hb, rfl⟩ := hb
    have s2 := (s.step e1).put hx ha (show OwnOf c.K F1 (.lst zs) (.list rest) from fz)
    exact ⟨F1, _, d, ρ', s2.st, f1, hb, fun σ' s' hw => k.nx1 (s2.asg hb s' hw) e1.fk⟩
  cases o with
  | no =>
    cases es with
    | cons e es => simp [chkA] at ha
    | nil =>
      have key := pe_bm0 (X := X) (apos := a) (cpos := cp) PySem.F.plainAttrs_list PySem.F.slot_list_pop PySem.F.type_list_pop mt_pop pv (by rfl) hl
      refine PS.imp (ps_asg key (sG t C ht) (by rfl) (plainTg_ok hpt) (plainTg_ok2 hpt)) fun D σ H ⟨F0, H0, F, ρ, r, s, h, k⟩ => ?_
      simp only [exS, evo_e0, Option.bind_some] at h
      split at h <;> try (cases h; done)
      rename_i ds hxo
      rw [Option.bind_eq_some_iff] at h
      obtain ⟨⟨d, rest⟩, hp, h⟩ := h
      split at h <;> try (cases h; done)
      rename_i hnx
      obtain ⟨ad, u, hau, hF, hH, hO⟩ := s.st.own x _ hxo
      cases u <;> try exact hO.elim
      rename_i xs
      have hO : DpAll c.K F xs ds := hO
      simp only [popd, Option.map_eq_some_iff] at hp
      obtain ⟨d', hd', e⟩ := hp
      cases e
      obtain ⟨v, hv1, hv2⟩ := DpAll.get' hO hd'
      refine ⟨.ref ad, hau, .inl ⟨rfl, xs, SqL.of hH⟩, ad, xs, v, rfl, rfl, hH, by rw [DpAll.length hO]; exact hv1, ?_⟩
      exact fin (xs := xs) s (Ext.refl s.st.ok) hxo hau hnx h hv2 (Cs.DpAll.dropLast hO) k
  | yes e =>
    match es, ha with
    | [], ha => simp [chkA] at ha
    | _ :: _ :: _, ha => simp [chkA] at ha
    | [e'], ha =>
      simp only [chkA] at ha
      have hs : noStar e' = true := by simpa using hst
      have key := pe_bm (X := X) (apos := a) (cpos := cp) PySem.F.plainAttrs_list PySem.F.slot_list_pop PySem.F.type_list_pop mt_popAt pv (pa_cons ((chk_ok e C ha).pe .bo (fun z => by cases z)) pa_nil (star_cons hs)) (by rfl)
        (by rw [star_cons hs]; rfl) hl (star_cons hs) (by rfl)
      refine PS.imp (ps_asg key (sG t C ht) (by rfl) (plainTg_ok hpt) (plainTg_ok2 hpt)) fun D σ H ⟨F0, H0, F, ρ, r, s, h, k⟩ => ?_
      simp only [exS, evo_e1, Option.bind_eq_some_iff] at h
      obtain ⟨q, ⟨kd, hk, hq⟩, h⟩ := h
      cases kd <;> try (cases hq; done)
      rename_i kk
      cases hq
      split at h <;> try (cases h; done)
      rename_i ds hxo
      rw [Option.bind_eq_some_iff] at h
      obtain ⟨⟨d, rest⟩, hp, h⟩ := h
      split at h <;> try (cases h; done)
      rename_i hnx
      obtain ⟨ad, u, hau, hF, hH, hO⟩ := s.st.own x _ hxo
      cases u <;> try exact hO.elim
      rename_i xs
      have hO : DpAll c.K F xs ds := hO
      simp only [popd, gd_some, Option.bind_eq_some_iff, Option.map_eq_some_iff] at hp
      obtain ⟨hlim, j, hj, d', hd', e0⟩ := hp
      cases e0
      obtain ⟨v, hv1, hv2⟩ := DpAll.get' hO hd'
      obtain ⟨j1, j2, j3, j4⟩ := ixN_seq hj
      refine ⟨.ref ad, hau, .inl ⟨rfl, xs, SqL.of hH⟩, ev1 s.st hk fun w F1 H1 e1 r1 => ⟨ad, xs, kk, j, v, rfl, by rw [r1.int], e1.keep ad _ (fun ps z => by cases z) hH, ?_, ?_, by rw [DpAll.length hO]; exact j1, hv1, ?_⟩⟩
      · have : ds.length ≤ 16777216 := hlim
        omega
      · have : ds.length ≤ 16777216 := hlim
        omega
      · exact fin (xs := xs) s e1 hxo hau hnx h (dp_mono e1.fkT _ _ hv2) (DpAll.eraseIdx j (dpAll_mono e1.fkT _ _ hO)) k
/-! [x.pop(e) for ..] -/
theorem StB.putD {c : Cfg} {F0 H0 F H : Hp} {σ : L2.St} {ρ : Rho} {D : Addr} {u0 u : HO} (s : StB c F0 H0 F H σ ρ) (h0 : H0 D = none) (hF : F D = none) (hd : H D = some u0) (hu : ∀ ps, u0 ≠ .tbl ps) (hne : ∀ (i : Nat) (d : PyData) (a : Addr), ρ[i]? = some (.ow d) → σ[i]? = some (some (.ref a)) → a ≠ D) : StB c F0 H0 F (upd H D u) σ ρ := by
  have e := s.ext.put h0 hF hd hu u
  refine ⟨⟨e.ok, s.st.len, s.st.slot, fun i d h => ?_⟩, e, s.own, s.one⟩
  obtain ⟨a, o, q1, q2, q3, q4⟩ := s.st.own i d h
  exact ⟨a, o, q1, q2, by rw [upd_ne (hne i d a h q1)]; exact q3, q4⟩
theorem StB.un {c : Cfg} {F0 H0 F H : Hp} {σ : L2.St} {ρ : Rho} (s : StB c F0 H0 F H σ ρ) (x : Nat) : StB c F0 H0 F H σ (ρ.set x .un) := by
  have gs : ∀ {i : Nat} {z : Sl}, z ≠ .un → (ρ.set x .un)[i]? = some z → ρ[i]? = some z := fun {i z} hz h => by
    by_cases hi : x = i
    · subst hi
      by_cases hl : x < ρ.length
      · rw [List.getElem?_set_self hl] at h; cases h; exact absurd rfl hz
      · rw [List.getElem?_eq_none (by simpa using hl)] at h; cases h
    · rwa [List.getElem?_set_ne hi] at h
  exact ⟨⟨s.st.ok, by rw [List.length_set]; exact s.st.len, fun i d h => s.st.slot i d (gs (by simp) h), fun i d h => s.st.own i d (gs (by simp) h)⟩, s.ext, fun i d a h => s.own i d a (gs (by simp) h), fun i j d e a h1 h2 => s.one i j d e a (gs (by simp) h1) (gs (by simp) h2)⟩
theorem lp_go {Ex0 : Ex} {t : Tg} {x : Nat} {F0 H0 F H F1 H1 : Hp} {σ : L2.St} {ρ : Rho} {J : L2.It} {ds ls ys : List PyData} {Q : VK} (s : StB c F0 H0 F H σ ρ) (e1 : Ext c F H F1 H1) (fd : Feeds c true F1 H1 J ds) (hl : ds.length ≤ LIM) (hx : ρ[x]? = some (.ow (.list ls))) (hxt : x ∉ slots t)
    (hy : popF (fun d left => (bindT t d (wipeR (ρ.set x (.ow (.list left))) (slots t))).bind fun ρ1 => (ev Φ Ex0 ρ1 true).bind fun k => match k with
        | .int k => popd left (some k)
        | _ => none) ds ls = some ys)
    (k : ∀ D F' H' acc left, StB c F0 H0 F' H' σ (ρ.set x (.ow (.list left))) → Sub F F' → F' D = none → H' D = some (.lst acc) → DpAll c.K F' acc ys → Q (.ref D) H') :
    ∀ D, H1 D = none → ∃ W : Nat → Nat → Hp → Prop, (∃ m, W 0 m (upd H1 D (.lst []))) ∧ ∀ i m H, W i m H →
      (J.stop i H ∧ Q (.ref D) H) ∨ (J.go i H ∧ ∃ Nx : Hp → Prop, (∀ H', Nx H' → ∃ m', m' < m ∧ W (i + 1) m' H') ∧ ∀ x0 H', J.yld i H x0 H' → tG c t x0 (wipe σ (slots t)) H' fun σ2 H2 => wipe σ2 (slots t) = wipe σ (slots t) ∧ tO c Φ .no σ2 H2 fun b H3 =>
        if b = true then tBM X.K "list" rPopAt (tVar x) (tCons (tE c Φ .bo Ex0) tNil) σ2 H3 fun y H4 => ∃ acc, H4 D = some (.lst acc) ∧ acc.length < sizeLine ∧ Nx (upd H4 D (.lst (acc ++ [y]))) else Nx H3) := by
  intro D hD
  generalize hf : (fun d left => (bindT t d (wipeR (ρ.set x (.ow (.list left))) (slots t))).bind fun ρ1 => (ev Φ Ex0 ρ1 true).bind fun k => match k with
        | .int k => popd left (some k)
        | _ => none) = f at hy
  obtain ⟨ad, o0, hax, hFx, hHx, hOx⟩ := s.st.own x _ hx
  have hxl : x < ρ.length := (List.getElem?_eq_some_iff.mp hx).1
  have s1 := s.step e1
  have fD : F1 D = none := by
    cases q : F1 D with
    | none => rfl
    | some u => rw [e1.ok.fh D u q] at hD; cases hD
  have h0D : H0 D = none := s1.ext.grow D hD
  have nl : ∀ (xs : List V) ps, HO.lst xs ≠ .tbl ps := fun xs ps z => by cases z
  have hne : ∀ (left : List PyData) (i : Nat) (d : PyData) (a : Addr), (ρ.set x (.ow (.list left)))[i]? = some (.ow d) → σ[i]? = some (some (.ref a)) → a ≠ D := fun left i d a h1 h2 z => by
    have : ∃ d', ρ[i]? = some (.ow d') := by
      by_cases hi : x = i
      · subst hi; exact ⟨_, hx⟩
      · rw [List.getElem?_set_ne hi] at h1; exact ⟨_, h1⟩
    obtain ⟨d', h3⟩ := this
    obtain ⟨b, w, q1, q2, q3, q4⟩ := s1.st.own i d' h3
    rw [h2] at q1; cases q1
    rw [z, hD] at q3; cases q3
  have W0 : ∃ W : Nat → Nat → Hp → Prop, W = fun i m H' => ∃ F' acc done left, m = ds.length - i ∧ i ≤ ds.length ∧ StB c F0 H0 F' H' σ (ρ.set x (.ow (.list left))) ∧ Sub F1 F' ∧ F' D = none ∧ H' D = some (.lst acc) ∧ DpAll c.K F' acc done ∧ acc.length ≤ i ∧ (popF f (ds.drop i) left).map (done ++ ·) = some ys := ⟨_, rfl⟩
  obtain ⟨W, hW⟩ := W0
  have hself : ρ.set x (.ow (.list ls)) = ρ := by
    apply List.ext_getElem?
    intro i
    by_cases hi : x = i
    · subst hi; rw [List.getElem?_set_self hxl, hx]
    · rw [List.getElem?_set_ne hi]
  refine ⟨W, ⟨ds.length, ?_⟩, fun i n H' w => ?_⟩
  · rw [hW]
    have e2 : Ext c F1 H1 F1 (upd H1 D (.lst [])) := Ext.new e1.ok hD (nl _)
    exact ⟨F1, [], [], ls, by simp, Nat.zero_le _, by rw [hself]; exact s1.step e2, Sub.refl _, fD, upd_same, .nil, Nat.zero_le _, by simp [hy]⟩
  · rw [hW] at w
    obtain ⟨F', acc, done, left, rfl, hi, sb, sub, fD2, hD2, ha, hal, hr⟩ := w
    obtain ⟨r1, r2, r3⟩ := fd.run F' H' ⟨sb.st.ok, sub⟩ i
    by_cases hlt : i < ds.length
    · refine .inr ⟨r1 hlt, W (i + 1) (ds.length - (i + 1)), fun H2 w2 => ⟨_, by omega, w2⟩, fun x0 H2 y => ?_⟩
      have hd : ds[i]? = some ds[i] := by simp [hlt]
      obtain ⟨F2, e3, dp⟩ := r2 _ hd x0 H2 y
      rw [List.drop_eq_getElem_cons hlt] at hr
      simp only [popF] at hr
      rw [Option.map_eq_some_iff] at hr
      obtain ⟨rest, hr, hys⟩ := hr
      simp only [Option.bind_eq_some_iff, Option.map_eq_some_iff] at hr
      obtain ⟨⟨y0, left'⟩, hfr, rest', hr', rfl⟩ := hr
      rw [← hf] at hfr
      simp only [Option.bind_eq_some_iff] at hfr
      obtain ⟨ρ1, hb, kd, hk, hv⟩ := hfr
      cases kd <;> try (cases hv; done)
      rename_i kk
      simp only [popd, gd_some, Option.bind_eq_some_iff, Option.map_eq_some_iff] at hv
      obtain ⟨hlim, j, hj, d', hd', e0⟩ := hv
      cases e0
      have sb2 := sb.step e3
      have s2 : StE c F2 H2 (wipe σ (slots t)) (wipeR (ρ.set x (.ow (.list left))) (slots t)) := sb2.st.wipe _
      refine ⟨F2, _, ds[i], ρ1, s2, dp, hb, fun σ2 s3 hw => ⟨by rw [hw _ (fun i hi => hi), wipe_idem], F2, ρ1, true, s3, by rw [tsto_e0], fun H3 F3 e4 => ?_⟩⟩
      dsimp only
      rw [if_pos rfl]
      have hx2 : σ2[x]? = some (some (.ref ad)) := by
        have h1 := hw (slots t) (fun i hi => hi)
        rw [← wipe_out (σ := σ2) hxt, h1, wipe_idem, wipe_out hxt]
        exact hax
      have sb3 := sb2.step e4
      have hxo : (ρ.set x (.ow (.list left)))[x]? = some (.ow (.list left)) := List.getElem?_set_self hxl
      obtain ⟨ad', u, hau, hF3, hH3, hO3⟩ := sb3.st.own x _ hxo
      rw [hax] at hau
      cases hau
      cases u <;> try exact hO3.elim
      rename_i lv
      have hO3 : DpAll c.K F3 lv left := hO3
      refine ⟨.ref ad, hx2, .inl ⟨rfl, lv, SqL.of hH3⟩, ev1 (s3.ext e4) hk fun w F4 H4 e5 r4 => ?_⟩
      obtain ⟨j1, j2, j3, j4⟩ := ixN_seq hj
      obtain ⟨v, hv1, hv2⟩ := DpAll.get' hO3 hd'
      have sb4 := sb3.step e5
      obtain ⟨ad4, u4, hau4, hF4, hH4, hO4⟩ := sb4.st.own x _ hxo
      rw [hax] at hau4
      cases hau4
      have hH4' : H4 ad = some (.lst lv) := e5.keep ad _ (nl _) hH3
      refine ⟨ad, lv, kk, j, v, rfl, by rw [r4.int], hH4', ?_, ?_, by rw [DpAll.length hO3]; exact j1, hv1, ?_⟩
      · have : left.length ≤ 16777216 := hlim
        omega
      · have : left.length ≤ 16777216 := hlim
        omega
      · have e35 := (e3.trans e4).trans e5
        have nD : ad ≠ D := hne left x _ ad hxo hax
        have hD4 : H4 D = some (.lst acc) := e35.keep D _ (nl _) hD2
        have fD4 : F4 D = none := by
          cases q : F4 D with
          | none => rfl
          | some u =>
            rcases e35.fn D u q with z | z
            · rw [fD2] at z; cases z
            · rw [hD2] at z; cases z
        refine ⟨acc, by rw [upd_ne (Ne.symm nD)]; exact hD4, by rw [← lim_eq]; omega, ?_⟩
        have sb5 := sb4.put hxo hax (show OwnOf c.K F4 (.lst (lv.eraseIdx j)) (.list (left.eraseIdx j)) from DpAll.eraseIdx j (dpAll_mono e5.fkT _ _ hO3))
        rw [List.set_set] at sb5
        have sb6 := sb5.putD (u := .lst (acc ++ [v])) h0D fD4 (by rw [upd_ne (Ne.symm nD)]; exact hD4) (nl _) (hne _)
        rw [hW]
        exact ⟨F4, acc ++ [v], done ++ [y0], left.eraseIdx j, rfl, hlt, sb6, fun a o z => e35.fk a o (sub a o z), fD4, upd_same, DpAll.append (dpAll_mono e35.fkT _ _ ha) (.cons (dp_mono e5.fkT _ _ hv2) .nil), by simp; omega, by rw [hr']; simp [← hys]⟩
    · have hi' : i = ds.length := by omega
      refine .inl ⟨r3 (by omega), ?_⟩
      subst hi'
      rw [List.drop_length] at hr
      simp only [popF, Option.map_some, List.append_nil, Option.some.injEq] at hr
      subst hr
      exact k D F' H' acc left sb (fun a o z => sub a o (e1.fk a o z)) fD2 hD2 ha
theorem ps_lpop0 (C : CtxOk c ct Φ lf X sc fnb 2) {o : Option Nat} {w : Bool} {x : Nat} {e : Ex} {t : Tg} {i : Ce.It} {s : Stmt} (h : chS ct (.lpop o w x e t i) sc fnb s = true) : PS X s (tS c Φ n (.lpop o w x e t i)) := by
  unfold chS at h
  split at h <;> try (cases h; done)
  rename_i m0 hx0
  simp only [Bool.and_eq_true, decide_eq_true_eq] at h
  obtain ⟨⟨⟨rfl, hn, hgl⟩, ⟨h1, h2⟩, h3, h4⟩, ⟨⟨hi, hv, hok⟩, hs, he⟩, hto⟩ := h
  obtain ⟨n1, n2, n3⟩ := okN_ok hok
  have ok := blkOk_by h1
  rw [← C.sc, ← C.N] at ok
  rw [glB, decide_eq_true_eq] at hgl
  -- the tuple's expression
  have key : ∀ {e' : Expr}, dLpE e' = some m0 → PE X e' (tCB (rBi c .fr .tuple) (tCons (tLc (tI c Φ false i) (tG c t) (tO c Φ .no) (tBM X.K "list" rPopAt (tVar x) (tCons (tE c Φ .bo e) tNil)) ((ownOf ct.N (slots t)).map (·.2))) tNil)) := fun {e'} hd => by
    obtain ⟨p1, p2, a, cp, p3, p4, rfl, hl⟩ := dLpE_ok hd
    rw [hn]
    have lc := pe_lc (pos := p3) (elt := .Call (.Attribute (.Name m0.x p2) "pop" a) [m0.arg] [] cp) (te := tBM X.K "list" rPopAt (tVar x) (tCons (tE c Φ .bo e) tNil)) C.calm (by rw [C.N]; exact C.nd) (chkI_ok i C h3 false) (ok := ok) (fun s H c0 cl fp => sG t (C.blk m0.scope s H c0 cl fp) h4) (fun s H c0 cl fp => chko_ok .no (C.blk m0.scope s H c0 cl fp) (es := []) rfl)
      (fun s H c0 cl fp => by
        have C' := C.blk m0.scope s H c0 cl fp
        have pv : PE (X.blk s H m0.scope (compEnvC m0.scope cl c0 X.env) fp) (.Name m0.x p2) (tVar x) := pe_var (by rw [C'.N]; exact hi) (by rw [C'.sc]; exact visB_ok hv) n1 n2
        exact pe_bm (X := X.blk s H m0.scope (compEnvC m0.scope cl c0 X.env) fp) (apos := a) (cpos := cp) PySem.F.plainAttrs_list PySem.F.slot_list_pop PySem.F.type_list_pop mt_popAt pv (pa_cons ((chk_ok e C' he).pe .bo (fun z => by cases z)) pa_nil (star_cons hs)) (by rfl) (by rw [star_cons hs]; rfl) hl (star_cons hs) (by rfl)) (plain_fold h2).1
    rw [own_map] at lc ⊢
    exact pe_callF (f := biOf .tuple) (.inr ⟨_, rfl⟩) (cr_bi C.K C.calm C.hu .tuple) (show X.env.scope.names.lookup _ = _ by rw [C.sc]; exact hgl) (C.bi _ (by decide)) (by kernel_rfl) (by decide) (by decide) (pa_cons lc pa_nil rfl) rfl
  have read : ∀ {D : Ends} {σ : L2.St} {H F0 H0 F : Hp} {ρ : Rho} {ls ds ys : List PyData} {Q : VK}, StB c F0 H0 F H σ ρ → ρ[x]? = some (.ow (.list ls)) → x ∉ slots t → itms Φ i ρ false = some ds → ds.length ≤ LIM → popF (fun d left => (bindT t d (wipeR (ρ.set x (.ow (.list left))) (slots t))).bind fun ρ1 => (ev Φ e ρ1 true).bind fun k => match k with
        | .int k => popd left (some k)
        | _ => none) ds ls = some ys → (∀ v F' H' left, StB c F0 H0 F' H' σ (ρ.set x (.ow (.list left))) → Sub F F' → Dp c.K F' v (.tuple ys) → Q v H') →
      tCB (rBi c .fr .tuple) (tCons (tLc (tI c Φ false i) (tG c t) (tO c Φ .no) (tBM X.K "list" rPopAt (tVar x) (tCons (tE c Φ .bo e) tNil)) ((ownOf ct.N (slots t)).map (·.2))) tNil) σ H Q := fun {D σ H F0 H0 F ρ ls ds ys Q} s hx hxt hds hlim hy k => by
    refine ⟨F, ρ, ds, s.st, hds, fun J H1 F1 e1 fd => ?_⟩
    rw [own_map]
    refine lp_go (X := X) (Q := fun v H2 => tNil σ H2 fun xs H3 => rBi c .fr .tuple (v :: xs) H3 Q) s e1 fd hlim hx hxt hy fun D F' H' acc left sb sub fD hD ha => ?_
    exact ⟨F', .ref D, .list ys, .tuple ys, rfl, sb.st.ok, .inr ⟨D, acc, ys, rfl, rfl, hD, ha⟩, by simp, fun v H2 F2 e2 f2 => k v F2 H2 left (sb.step e2) (sub.trans e2.fk) f2⟩
  cases o with
  | none =>
    cases s <;> try (cases hx0; done)
    rename_i eo p
    cases eo <;> try (cases hx0; done)
    rename_i e'
    refine PS.imp (ps_ret (key hx0)) fun D σ H ⟨F0, H0, F, ρ, r, s, h, k⟩ => ?_
    simp only [exS] at h
    split at h <;> try (cases h; done)
    rename_i ls hx
    split at h <;> try (cases h; done)
    rename_i hxt
    rw [Option.bind_eq_some_iff] at h
    obtain ⟨ds, hds, h⟩ := h
    rw [gd_some] at h
    obtain ⟨hlim, h⟩ := h
    rw [Option.bind_eq_some_iff] at h
    obtain ⟨ys, hy, h⟩ := h
    cases h
    exact read (D := D) s hx hxt hds hlim hy fun v F' H' left sb sub dp => k v H' F' sb.ext dp
  | some j =>
    cases s <;> try (cases hx0; done)
    rename_i ts e' p
    match ts, hx0, hto with
    | [], hx0, _ => cases hx0
    | [.Name y py], hx0, hto =>
      simp only [Bool.and_eq_true, decide_eq_true_eq] at hto
      obtain ⟨s1, s2⟩ := stoB_ok hto.2
      have hd : dLpE e' = some m0 := hx0
      have hnl : noLc e' = true := by
        obtain ⟨p1, p2, a, cp, p3, p4, rfl, hl⟩ := dLpE_ok hd
        rfl
      refine PS.imp (ps_set (by rw [C.N]; exact C.nd) (by rw [C.N]; exact hto.1) (by rw [C.sc]; exact s1) (key hd) (noLc_ok hnl) (by rw [C.sc, C.fn]; exact s2)) fun D σ H ⟨F0, H0, F, ρ, r, s, h, k⟩ => ?_
      simp only [exS] at h
      split at h <;> try (cases h; done)
      rename_i ls hx
      split at h <;> try (cases h; done)
      rename_i hxt
      rw [Option.bind_eq_some_iff] at h
      obtain ⟨ds, hds, h⟩ := h
      rw [gd_some] at h
      obtain ⟨hlim, h⟩ := h
      rw [Option.bind_eq_some_iff] at h
      obtain ⟨ys, hy, h⟩ := h
      split at h <;> try (cases h; done)
      rename_i hjl
      cases h
      refine read (D := D) s hx hxt hds hlim hy fun v F' H' left sb sub dp => ?_
      have sb2 := sb.un x
      rw [List.set_set] at sb2
      exact k.nx1 (stb_set sb2 (by rw [List.length_set]; exact hjl) dp) sub
    | (.Name y py) :: _ :: _, hx0, _ => cases hx0
/-- a block of statements, given its statements -/
theorem pss_cons0 {s : Sm} {r : Sms} {t : Stmt} {ts : List Stmt} (h1 : PS X t (tS c Φ n s)) (h2 : PSs X ts (tSs c Φ n r)) : PSs X (t :: ts) (tSs c Φ n (.cons s r)) := by
  refine PSs.imp (pss_cons h1 h2) fun D σ H ⟨F0, H0, F, ρ, r0, s0, h, k⟩ => ?_
  simp only [exSs, Option.bind_eq_some_iff] at h
  obtain ⟨x, hx, h⟩ := h
  refine ⟨F0, H0, F, ρ, x, s0, hx, ?_⟩
  cases x with
  | nx ρ' => exact fun σ' H' F' s' e => ⟨F0, H0, F', ρ', r0, s', h, k.sub e⟩
  | rt d => cases h; exact k
  | ct ρ' => cases h; exact k
  | bk ρ' => cases h; exact k
theorem ps_if0 {d : Ex} {a b : Sms} {c' : Expr} {a' b' : List Stmt} {p : Pos} (hc : PT X c' (tT c Φ d)) (ha : PSs X a' (tSs c Φ n a)) (hb : PSs X b' (tSs c Φ n b)) : PS X (.If c' a' b' p) (tS c Φ n (.ife d a b)) := by
  refine PS.imp (ps_if hc ha hb) fun D σ H ⟨F0, H0, F, ρ, r, s, h, k⟩ => ?_
  simp only [exS, Option.bind_eq_some_iff] at h
  obtain ⟨t, ht, h⟩ := h
  refine ⟨F, ρ, t, s.st, ht, fun H1 F1 e1 => ?_⟩
  cases t with
  | true => exact ⟨F0, H0, F1, ρ, r, s.step e1, h, k.sub e1.fk⟩
  | false => exact ⟨F0, H0, F1, ρ, r, s.step e1, h, k.sub e1.fk⟩
theorem ps_for0 (C : CtxOk c ct Φ lf X sc fnb 2) (hp : PassesOwn (model X.prog X.w) X.A X.env X.xe) {t : Tg} {i : Ce.It} {b : Sms} {t' i' : Expr} {b' : List Stmt} {p : Pos} (hi : PI X t' i' (tI c Φ false i)) (ht : PG X t' (tG c t)) (hb : PSs X b' (tSs c Φ n b)) (hpl : plainIter i' = true) : PS X (.For t' i' b' [] p) (tS c Φ n (.for t i b)) := by
  refine PS.imp (ps_for hp C.calm hi ht hb (plain_fold hpl).1) fun D σ H ⟨F0, H0, F, ρ, r, s, h, k⟩ => ?_
  simp only [exS, Option.bind_eq_some_iff] at h
  obtain ⟨ds, hds, h⟩ := h
  generalize hf : (fun d ρ' => (bindT t d ρ').bind (exSs Φ n b)) = f at h
  refine ⟨F, ρ, ds, s.st, hds, fun J H1 F1 e1 fd => ?_⟩
  have W0 : ∃ W : Nat → Nat → L2.St → Hp → Prop, W = fun i m σ' H' => ∃ F' ρ', StB c F0 H0 F' H' σ' ρ' ∧ Sub F1 F' ∧ m = ds.length - i ∧ i ≤ ds.length ∧ forF f (ds.drop i) ρ' = some r := ⟨_, rfl⟩
  obtain ⟨W, hW⟩ := W0
  refine ⟨W, ⟨ds.length, ?_⟩, fun i m σ' H' w => ?_⟩
  · rw [hW]; exact ⟨F1, ρ, s.step e1, Sub.refl _, by simp, Nat.zero_le _, h⟩
  · rw [hW] at w
    obtain ⟨F', ρ', s', sub, rfl, hi, hr⟩ := w
    obtain ⟨r1, r2, r3⟩ := fd.run F' H' ⟨s'.st.ok, sub⟩ i
    by_cases hlt : i < ds.length
    · refine .inr ⟨r1 hlt, W (i + 1) (ds.length - (i + 1)), fun σ2 H2 w2 => ⟨_, by omega, w2⟩, fun x H2 y => ?_⟩
      have hd : ds[i]? = some ds[i] := by simp [hlt]
      obtain ⟨F2, e3, dp⟩ := r2 _ hd x H2 y
      rw [List.drop_eq_getElem_cons hlt] at hr
      simp only [forF, Option.bind_eq_some_iff] at hr
      obtain ⟨z, hz, hr⟩ := hr
      rw [← hf] at hz
      simp only [Option.bind_eq_some_iff] at hz
      obtain ⟨ρ1, hb1, hz⟩ := hz
      have s2 := s'.step e3
      have sub2 : Sub F1 F2 := sub.trans e3.fk
      refine ⟨F2, ρ', ds[i], ρ1, s2.st, dp, hb1, fun σ3 s3 hw => ⟨F0, H0, F2, ρ1, z, s2.asg hb1 s3 hw, hz, ?_⟩⟩
      have sF : Sub F F1 := e1.fk
      cases z with
      | nx ρ2 => exact fun σ4 H4 F4 s4 e4 => by rw [hW]; exact ⟨F4, ρ2, s4, sub2.trans e4, rfl, hlt, hr⟩
      | ct ρ2 => exact fun σ4 H4 F4 s4 e4 => by rw [hW]; exact ⟨F4, ρ2, s4, sub2.trans e4, rfl, hlt, hr⟩
      | bk ρ2 => cases hr; exact fun σ4 H4 F4 s4 e4 => k σ4 H4 F4 s4 (sF.trans (sub2.trans e4))
      | rt d => cases hr; exact k
    · have hi' : i = ds.length := by omega
      refine .inl ⟨r3 (by omega), ?_⟩
      subst hi'
      rw [List.drop_length] at hr
      simp only [forF, Option.some.injEq] at hr
      subst hr
      exact k.nx1 s' (Sub.trans e1.fk sub)
theorem ps_whl0 (hp : PassesOwn (model X.prog X.w) X.A X.env X.xe) {d : Ex} {b : Sms} {c' : Expr} {b' : List Stmt} {p : Pos} (hc : PT X c' (tT c Φ d)) (hb : PSs X b' (tSs c Φ n b)) : PS X (.While c' b' [] p) (tS c Φ n (.whl d b)) := by
  refine PS.imp (ps_while hp hc hb) fun D σ H ⟨F0, H0, F, ρ, r, s, h, k⟩ => ?_
  simp only [exS] at h
  have W0 : ∃ W : Nat → L2.St → Hp → Prop, W = fun m σ' H' => ∃ F' ρ', StB c F0 H0 F' H' σ' ρ' ∧ Sub F F' ∧ whileF (tst Φ d) (exSs Φ n b) m ρ' = some r := ⟨_, rfl⟩
  obtain ⟨W, hW⟩ := W0
  refine ⟨W, ⟨n, ?_⟩, fun m σ' H' w => ?_⟩
  · rw [hW]; exact ⟨F, ρ, s, Sub.refl _, h⟩
  · rw [hW] at w
    obtain ⟨F', ρ', s', sub, hr⟩ := w
    cases m with
    | zero => cases hr
    | succ m =>
      simp only [whileF, Option.bind_eq_some_iff] at hr
      obtain ⟨t, ht, hr⟩ := hr
      refine ⟨F', ρ', t, s'.st, ht, fun H1 F1 e1 => ?_⟩
      cases t with
      | false =>
        simp only [Bool.false_eq_true, if_false, Option.some.injEq] at hr ⊢
        subst hr
        exact k.nx1 (s'.step e1) (sub.trans e1.fk)
      | true =>
        simp only [if_true, Option.bind_eq_some_iff] at hr ⊢
        obtain ⟨z, hz, hr⟩ := hr
        refine ⟨W m, fun σ2 H2 w2 => ⟨m, by omega, w2⟩, F0, H0, F1, ρ', z, s'.step e1, hz, ?_⟩
        have sF : Sub F F1 := sub.trans e1.fk
        cases z with
        | nx ρ2 => exact fun σ4 H4 F4 s4 e4 => by rw [hW]; exact ⟨F4, ρ2, s4, sF.trans e4, hr⟩
        | ct ρ2 => exact fun σ4 H4 F4 s4 e4 => by rw [hW]; exact ⟨F4, ρ2, s4, sF.trans e4, hr⟩
        | bk ρ2 => cases hr; exact fun σ4 H4 F4 s4 e4 => k σ4 H4 F4 s4 (sF.trans e4)
        | rt d => cases hr; exact k
end
section
variable {c : Cfg} {ct : Ctl} {Φ : Fns} {lf n : Nat} {X : Cx} {sc : Scope} {fnb : Str → Bool}
mutual
theorem chS_ok (C : CtxOk c ct Φ lf X sc fnb 2) (hp : PassesOwn (model X.prog X.w) X.A X.env X.xe) : ∀ (s : Sm) {t : Stmt}, chS ct s sc fnb t = true → PS X t (tS c Φ n s)
  | .asg _ _, _, h => ps_asg0 C h
  | .own _ _, _, h => ps_own0 C h
  | .ret _, _, h => ps_ret0 C h
  | .app _ _, _, h => ps_app0 C h
  | .put _ _ _, _, h => ps_put0 C h
  | .ext _ _, _, h => ps_ext0 C h
  | .rem _ _, _, h => ps_rem0 C h
  | .popTo _ _ _, _, h => ps_pop0 C h
  | .par _ _ _ _, _, h => ps_par0 C h
  | .lpop _ _ _ _ _ _, _, h => ps_lpop0 C h
  | .aug _ _ _, _, h => ps_aug0 C h
  | .ife d a b, t, h => by
    simp only [chS] at h
    split at h <;> try (cases h; done)
    rename_i c' a' b' hx
    simp only [Bool.and_eq_true] at h
    obtain ⟨p, rfl⟩ := dIfS_ok hx
    exact ps_if0 (chk_ok d C h.1).pt (chSs_ok C hp a h.2.1) (chSs_ok C hp b h.2.2)
  | .for tg i b, t, h => by
    simp only [chS] at h
    split at h <;> try (cases h; done)
    rename_i t' i' b' hx
    simp only [Bool.and_eq_true] at h
    obtain ⟨p, rfl⟩ := dFor_ok hx
    exact ps_for0 C hp (chkI_ok i C h.2.1 false) (sG tg C h.1.2) (chSs_ok C hp b h.2.2) h.1.1
  | .whl d b, t, h => by
    simp only [chS] at h
    split at h <;> try (cases h; done)
    rename_i c' b' hx
    simp only [Bool.and_eq_true] at h
    obtain ⟨p, rfl⟩ := dWhl_ok hx
    exact ps_whl0 hp (chk_ok d C h.1).pt (chSs_ok C hp b h.2)
  | .frz is s, t, h => by
    simp only [chS] at h
    refine PS.imp (chS_ok C hp s h) fun D σ H ⟨F0, H0, F, ρ, r, s0, h0, k⟩ => ?_
    obtain ⟨F', s1, e1⟩ := s0.frz is
    exact ⟨F0, H0, F', _, r, s1, by simpa [exS] using h0, k.sub e1⟩
  | .cont, t, h => by
    cases t <;> try (simp [chS] at h; done)
    refine PS.imp ps_continue fun D σ H ⟨F0, H0, F, ρ, r, s0, h0, k⟩ => ?_
    cases h0
    exact k σ H F s0 (Sub.refl _)
  | .brk, t, h => by
    cases t <;> try (simp [chS] at h; done)
    refine PS.imp ps_break fun D σ H ⟨F0, H0, F, ρ, r, s0, h0, k⟩ => ?_
    cases h0
    exact k σ H F s0 (Sub.refl _)
  | .pass, t, h => by
    cases t <;> try (simp [chS] at h; done)
    refine PS.imp ps_pass fun D σ H ⟨F0, H0, F, ρ, r, s0, h0, k⟩ => ?_
    cases h0
    exact k σ H F s0 (Sub.refl _)
theorem chSs_ok (C : CtxOk c ct Φ lf X sc fnb 2) (hp : PassesOwn (model X.prog X.w) X.A X.env X.xe) : ∀ (s : Sms) {ts : List Stmt}, chSs ct s sc fnb ts = true → PSs X ts (tSs c Φ n s)
  | .nil, ts, h => by
    cases ts with
    | cons t ts => simp [chSs] at h
    | nil =>
      refine PSs.imp pss_nil fun D σ H ⟨F0, H0, F, ρ, r, s0, h0, k⟩ => ?_
      cases h0
      exact k σ H F s0 (Sub.refl _)
  | .cons s r, ts, h => by
    cases ts with
    | nil => simp [chSs] at h
    | cons t ts =>
      simp only [chSs, Bool.and_eq_true] at h
      exact pss_cons0 (chS_ok C hp s h.1) (chSs_ok C hp r h.2)
end
end
end Cs

set_option maxHeartbeats 8000000
/-! The defs of a text by the core language; the law's end. -/
noncomputable section
namespace Cs
open PySem PySem.Spec PyProof.Rows L2 GxR Ce Gx

structure CD where
  ix : Nat
  N : List Str
  ps : List Str
  body : Sms
/-- the meaning of the defs, calls n deep, while loops W long -/
def den (W : Nat) (D : List CD) : Nat → Fns
  | 0 => fun _ _ => none
  | n + 1 => fun f ds => match D[f]? with
    | some d => if ds.length = d.ps.length then runD (den W D n) W d.N.length d.body ds else none
    | none => none
section
variable (p : Program) (D : List CD)
def stOf (d : CD) : Stmt := p.main.body.getD d.ix (.Pass ⟨0, 0, 0, 0⟩)
def nmOf (d : CD) : Str := match stOf p d with
  | .FunctionDef n .. => n
  | _ => ""
def dDof (d : CD) : He.DefD := ⟨(nmOf p d, none), nmOf p d, nmOf p d, defArgs (stOf p d), defBody (stOf p d), defScope (stOf p d), [], []⟩
def tabF : List (Str × Nat) := D.zipIdx.map fun q => (nmOf p q.1, q.2)
structure DOk (d : CD) : Prop where
  chk : chSs ⟨d.N, tabF p D⟩ d.body (defScope (stOf p d)) (fun _ => true) (defBody (stOf p d)) = true
  sc : FnScope d.N d.ps (defScope (stOf p d))
  bind : ∀ (kV doc pm : Value) (an : Option Addr) (cdv ct : Value) (us : List Value), us.length = d.ps.length → bindArgs (PySem.W.fnOf (nmOf p d) (nmOf p d) (defArgs (stOf p d)) (defBody (stOf p d)) (defScope (stOf p d)) .none kV doc pm an cdv ct) ⟨us, []⟩ = pure (d.ps.zip us)
end
section
variable {p : Program} {D : List CD} {W : Nat}
theorem den_len {n f : Nat} {d : CD} {ds : List PyData} {r : PyData} (hd : D[f]? = some d) (h : den W D n f ds = some r) : ds.length = d.ps.length := by
  cases n with
  | zero => cases h
  | succ n =>
    simp only [den, hd] at h
    split at h
    · assumption
    · cases h
theorem tabF_ok {x : Str} {f : Nat} (h : (tabF p D).lookup x = some f) : ∃ d, D[f]? = some d ∧ x = nmOf p d ∧ d ∈ D := by
  have hm := PySem.mem_of_lookup h
  unfold tabF at hm
  obtain ⟨q, hq, e⟩ := List.mem_map.mp hm
  cases e
  have := List.mk_mem_zipIdx_iff_getElem?.mp (show (q.1, q.2) ∈ D.zipIdx from hq)
  exact ⟨q.1, this, rfl, List.mem_of_getElem? this⟩
theorem dpAll_at {K : PySem.W.Frag} {F : Hp} {vs : List V} {ds : List PyData} {i : Nat} {d : PyData} (h : DpAll K F vs ds) (e : ds[i]? = some d) : ∃ v, vs[i]? = some v ∧ Dp K F v d := DpAll.get' h e
theorem stb_start {c : Cfg} {F H : Hp} {N : List Str} {vs : List V} {ds : List PyData} (o : Ok c F H) (a : DpAll c.K F vs ds) (hl : ds.length ≤ N.length) : StB c F H F H (L2.start N vs) (startR N.length ds) := by
  have la := DpAll.length a
  have nope : ∀ (i : Nat) (d : PyData), (startR N.length ds)[i]? ≠ some (.ow d) := fun i d h => by
    unfold startR at h
    by_cases hi : i < ds.length
    · rw [List.getElem?_append_left (by simpa using hi), List.getElem?_map] at h
      cases q : ds[i]? with
      | none => rw [q] at h; cases h
      | some u => rw [q] at h; cases h
    · rw [List.getElem?_append_right (by simp; omega), List.getElem?_replicate] at h
      split at h <;> cases h
  refine ⟨⟨o, by unfold L2.start startR; simp [la], fun i d h => ?_, fun i d h => absurd h (nope i d)⟩, Ext.refl o, fun i d b h => absurd h (nope i d), fun i j d e b h => absurd h (nope i d)⟩
  unfold startR at h
  by_cases hi : i < ds.length
  · rw [List.getElem?_append_left (by simpa using hi), List.getElem?_map] at h
    cases q : ds[i]? with
    | none => rw [q] at h; cases h
    | some u =>
      rw [q] at h; cases h
      obtain ⟨v, h1, h2⟩ := DpAll.get' a q
      refine ⟨v, ?_, h2⟩
      unfold L2.start
      rw [List.getElem?_append_left (by simp; omega), List.getElem?_map, h1]
      rfl
  · rw [List.getElem?_append_right (by simp; omega), List.getElem?_replicate] at h
    split at h <;> cases h

/-- what the head tells -/
structure Says (p : Program) (D : List CD) (K : PySem.W.Frag) (mg : Str → Option Value) (base : Heap) (c : Cfg) : Prop where
  eK : c.K = K
  eF : c.fr = none
  fn : ∀ d ∈ D, ∃ fd, FunD K (nmOf p d) (nmOf p d) (defArgs (stOf p d)) (defBody (stOf p d)) (defScope (stOf p d)) [] [] (He.fAd K (nmOf p d, none)) fd
  at_ : ∀ d ∈ D, mg (nmOf p d) = some (.ref (He.fAd K (nmOf p d, none)))
  free : ∀ x ∈ biNames, mg x = none
  tab : ∀ d ∈ D, TabB base mg (He.cT K (nmOf p d, none)).1 (He.cT K (nmOf p d, none)).2 ∧ (He.cT K (nmOf p d, none)).2 ∈ c.T

theorem fns_ok {P : Program} {w : World} {K : PySem.W.Frag} {mg : Str → Option Value} {base : Heap} {c : Cfg} (S : Says p D K mg base c) (hD : ∀ d ∈ D, DOk p D d) :
    ∀ (n f : Nat) (d : CD), D[f]? = some d → ∀ fd, FunD K (nmOf p d) (nmOf p d) (defArgs (stOf p d)) (defBody (stOf p d)) (defScope (stOf p d)) [] [] (He.fAd K (nmOf p d, none)) fd →
      FnOk P w K mg base CX0 (3 * n) (He.fAd K (nmOf p d, none)) fd d.ps (spD c (den W D n) f d.ps.length) := by
  intro n
  induction n with
  | zero =>
    intro f d hd fd Fd
    refine ⟨fun vs H Q E h => h.1, fun A outer s H args us vs Q E _ _ _ _ h => ?_⟩
    obtain ⟨_, F, ds, r, _, _, hΦ, _⟩ := h
    cases hΦ
  | succ n ih =>
    intro f d hd fd Fd
    have hm : d ∈ D := List.mem_of_getElem? hd
    have ok := hD d hm
    obtain ⟨oc, od, dV, kV, doc, pm, an, cdv, ct, osl, rfl, lk, hcd, hDf, hKw⟩ := Fd.ex
    show FnOk P w K mg base CX0 (3 * n + 2 + 1) _ _ _ _
    refine fn_of lk hcd ok.sc (fun vs H Q E h => h.1) fun A outer s H vs Q E hr hsp => ?_
    obtain ⟨hlen, F, ds, r, o, a, hΦ, kk⟩ := hsp
    simp only [den, hd] at hΦ
    split at hΦ <;> try (cases hΦ; done)
    rename_i hdl
    refine ⟨tSs c (den W D n) W d.body, chSs_ok (ct := ⟨d.N, tabF p D⟩) (lf := 3 * n) (sc := defScope (stOf p d)) (fnb := fun _ => true) ?_ (passes_of rfl) d.body ok.chk, ?_⟩
    · refine ⟨S.eK, rfl, rfl, ok.sc.nd, rfl, fun _ => rfl, hr, S.free, fun x f' hx => ?_, fun _ => ?_⟩
      · obtain ⟨d', hd', rfl, hm'⟩ := tabF_ok hx
        obtain ⟨fd', Fd'⟩ := S.fn d' hm'
        have hcb : c.b = c := by
          have := S.eF
          cases c
          cases this
          rfl
        rw [hcb]
        exact ⟨⟨fd', _, d'.ps, S.at_ d' hm', Fd'.kp, Fd'.bindsN (hD d' hm').bind, ih f' d' hd' fd' Fd', fun ds r h => den_len hd' h⟩⟩
      · obtain ⟨cc, hcc⟩ := He.codeIn_ref hcd
        obtain ⟨t1, t2⟩ := S.tab d hm
        refine ⟨_, _, ?_, ⟨_, t1.bm⟩, .inl ⟨t2, t1.code⟩⟩
        show cdv = _
        rw [hcc]
        exact congrArg Value.ref (He.codeOf_eq (p := (nmOf p d, none)) lk hcc).symm
    · have hNl : ds.length ≤ d.N.length := by
        have := congrArg List.length ok.sc.pre
        rw [List.length_take] at this
        omega
      unfold runD at hΦ
      split at hΦ
      · rename_i r0 hr0
        cases hΦ
        exact ⟨F, H, F, _, _, stb_start o a hNl, hr0, fun v H' F' e dp => kk v H' F' e dp⟩
      · rename_i ρ' hr0
        cases hΦ
        exact ⟨F, H, F, _, _, stb_start o a hNl, hr0, fun σ' H' F' s' e => kk .non H' F' s'.ext .non⟩
      · cases hΦ
end

/-! ### the law -/
/-- walk_ofTs, the frozen part of the heap found at the head -/
theorem walk_tabs {l : PySem.W.OpenLaw} {n k : Nat} {q : Program} {loose : List Str} {XP : (Str → Option Value) → Heap → Prop} {YP : World → Heap → Prop} {d : DefRec} {CX : World → CXT} {x : Str}
    (hn : l.most = some n) (hn2 : n ≤ sizeLine) (hdf : d.params.defaults = []) (hr : Room k callerA)
    (F : ∀ (w : World) (mg : Str → Option Value) (fa : Addr) (h : Heap), YP w h → h.Ns mainGlobals mg → mg d.name = some (.ref fa) → ∃ K : PySem.W.Frag, K.In h ∧ LamX.LawAtS l w K (CX w) k n x mg fa h)
    (hCX : ∀ (w : World) (H : Hp) (s : Shared) (e : Value) (s' : Shared), CX w [] H s (fun _ _ _ => False) e s' → False) :
    PySem.W.WalkO q loose XP YP l.row.toRowW d [] (fun f vs => PySem.call f vs) := by
  refine Att.attach_callB hn hdf fun w s₀ s₁ mg mb fa o pm cd doc a vs ns G Y ho hd hcd hmg hobj hints hlen hbits hg => ?_
  obtain ⟨K, KX, fd, cs, sp, hT, nT, C, hb, hsp, hF⟩ := F w mg fa _ Y G.T.g hmg
  exact LamX.law_callTs KX G.T.g G.T.b G.T.builtins G.T.nolimit hg hT nT C G.T.bmain hobj hints (Nat.le_trans hlen hn2) hr hF hb (fun H hH hS => hsp H a ns hlen hbits hH hS) fun H e s' => hCX w H s₁ e s'
/-- the facts asked of the head -/
def faOf (p : Program) (D : List CD) : List He.Fa := (D.map fun d => He.Fa.glo (nmOf p d)) ++ biNames.map He.Fa.free
def fnOfD (p : Program) (D : List CD) : List He.DefD := D.map (dDof p)
def tfOf (p : Program) (D : List CD) : List He.Defn := D.map fun d => (nmOf p d, none)
abbrev hkOf (m : Nat) (p : Program) (D : List CD) : PySem.W.Hook := He.hookX m (faOf p D) (fnOfD p D) [] (tfOf p D) (fun _ => true)
def noTbl (H : Hp) : Hp := fun b => match H b with
  | some (.tbl _) => none
  | some (.ext _) => none
  | o => o
theorem noTbl_sub (H : Hp) : ∀ b o, noTbl H b = some o → H b = some o := by
  intro b o hb
  unfold noTbl at hb
  split at hb
  · cases hb
  · cases hb
  · exact hb
theorem noTbl_no (H : Hp) : ∀ b ps, noTbl H b ≠ some (.tbl ps) := by
  intro b ps hb
  unfold noTbl at hb
  split at hb
  · cases hb
  · cases hb
  · rename_i hne _
    exact hne ps hb
theorem noTbl_ne (H : Hp) : ∀ b f, noTbl H b ≠ some (.ext f) := by
  intro b f hb
  unfold noTbl at hb
  split at hb
  · cases hb
  · cases hb
  · rename_i hne
    exact hne f hb
theorem noTbl_of {H : Hp} {b : Addr} {o : HO} (h : H b = some o) (hn : ∀ ps, o ≠ .tbl ps) (hx : ∀ f, o ≠ .ext f) : noTbl H b = some o := by
  unfold noTbl
  split
  · rename_i ps q
    rw [h] at q
    cases q
    exact absurd rfl (hn ps)
  · rename_i f q
    rw [h] at q
    cases q
    exact absurd rfl (hx f)
  · exact h
theorem law_at {l : PySem.W.OpenLaw} {w : World} {D : List CD} {W n k most : Nat} {mg : Str → Option Value} {fa : Addr} {h : Heap} {li : Nat} {ld : CD} {x : Str} (hk : k = 3 * n) (m : Nat)
    (Y : (hkOf m l.prog D).says w h) (G : h.Ns mainGlobals mg) (hD : ∀ d ∈ D, DOk l.prog D d) (hli : D[li]? = some ld) (hps : ld.ps = [x]) (hmg : mg (nmOf l.prog ld) = some (.ref fa))
    (law : ∀ ns : List Int, ns.length ≤ most → (∀ z ∈ ns, Builtin.Int.intBits z ≤ 1048576) → den W D n li [.list (ns.map .int)] = some (.bool true)) :
    ∃ K : PySem.W.Frag, K.In h ∧ LamX.LawAtS l w K CX0 k most x mg fa h := by
  subst hk
  obtain ⟨K, KX, c⟩ := Y
  have cd := c.t.d
  have hlm : ld ∈ D := List.mem_of_getElem? hli
  have fdOf : ∀ d ∈ D, ∃ fd, FunD K (nmOf l.prog d) (nmOf l.prog d) (defArgs (stOf l.prog d)) (defBody (stOf l.prog d)) (defScope (stOf l.prog d)) [] [] (He.fAd K (nmOf l.prog d, none)) fd := fun d hd => He.SaysD.defs cd (d := dDof l.prog d) (List.mem_map.mpr ⟨d, hd, rfl⟩)
  have gl : ∀ {h' : Heap}, K.In h' → h'.Ns mainGlobals mg → ∀ d ∈ D, mg (nmOf l.prog d) = some (.ref (He.fAd K (nmOf l.prog d, none))) := fun KX' G' d hd => He.glo_ok KX' G' (He.SaysD.facts cd (f := .glo (nmOf l.prog d)) (List.mem_append_left _ (List.mem_map.mpr ⟨d, hd, rfl⟩)))
  have fr : ∀ {h' : Heap}, K.In h' → h'.Ns mainGlobals mg → ∀ y ∈ biNames, mg y = none := fun KX' G' y hy => He.free_ok KX' G' (He.SaysD.facts cd (f := .free y) (List.mem_append_right _ (List.mem_map.mpr ⟨y, hy, rfl⟩)))
  obtain ⟨fd, Fd⟩ := fdOf ld hlm
  have e := hmg.symm.trans (gl KX G ld hlm)
  cases e
  refine ⟨K, KX, fd, D.map fun d => He.cT K (nmOf l.prog d, none), spD ⟨K, D.map fun d => (He.cT K (nmOf l.prog d, none)).2, none⟩ (den W D n) li 1, ?_, ?_, ?_, ?_, ?_, ?_⟩
  · intro q hq
    obtain ⟨d, hd, rfl⟩ := List.mem_map.mp hq
    exact c.empty _ (List.mem_map.mpr ⟨d, hd, rfl⟩)
  · intro q hq
    obtain ⟨d, hd, rfl⟩ := List.mem_map.mp hq
    exact c.out _ (List.mem_map.mpr ⟨d, hd, rfl⟩)
  · intro q hq
    obtain ⟨d, hd, rfl⟩ := List.mem_map.mp hq
    exact PySem.W.codeHd_of_K KX (c.hd _ (List.mem_map.mpr ⟨d, hd, rfl⟩))
  · intro s u
    have := Fd.bindsA (ps := ld.ps) (hD ld hlm).bind s [u] (by rw [hps]; rfl)
    rw [hps] at this
    exact this
  · intro H a ns hns hbits hT hS
    refine ⟨rfl, noTbl H, [.list (ns.map .int)], .bool true, ⟨?_, ?_, ?_, ?_, ?_⟩, ?_, law ns hns hbits, fun v H' F' _ dp => by cases dp; rfl⟩
    · intro P hP
      obtain ⟨d, hd, rfl⟩ := List.mem_map.mp hP
      exact ⟨#[], hT _ (List.mem_map.mpr ⟨d, hd, rfl⟩), True.intro, fun pos cv hc => by simp [codeAmong] at hc⟩
    · exact fun c' P' e => absurd e (noTbl_ne H _ _)
    · exact fun q hq => by cases hq
    · exact noTbl_sub H
    · exact noTbl_no H
    · refine .cons (.lst (xs := ns.map V.int) ?_ ?_) .nil
      · rcases hS with hS | hS
        · refine .inl ?_
          rcases hS with hS | ⟨o, hS⟩
          · exact .inl (noTbl_of hS (fun ps z => by cases z) fun f z => by cases z)
          · exact .inr ⟨o, noTbl_of hS (fun ps z => by cases z) fun f z => by cases z⟩
        · exact .inr hS
      · clear hS hns hbits
        induction ns with
        | nil => exact .nil
        | cons z zs ih => exact .cons (.int _) ih
  · intro base KB GB hTB
    have S : Says l.prog D K mg base ⟨K, D.map fun d => (He.cT K (nmOf l.prog d, none)).2, none⟩ := ⟨rfl, rfl, fdOf, gl KB GB, fr KB GB, fun d hd => ⟨let t := hTB _ (List.mem_map.mpr ⟨d, hd, rfl⟩); ⟨t.code, t.bm, t.gP⟩, List.mem_map.mpr ⟨d, hd, rfl⟩⟩⟩
    have := fns_ok (P := l.prog) (w := w) (W := W) S hD n li ld hli fd Fd
    rw [hps] at this
    exact this
end Cs

set_option maxHeartbeats 4000000
/-! Plain laws of the core language. -/
namespace Pu
open PySem Ce Cs
@[simp] theorem itmQ_c0 (xs : List PyData) : itm? (.tuple xs) = some xs := rfl
@[simp] theorem itmQ_c1 (xs : List PyData) : itm? (.list xs) = some xs := rfl

/-! ### encodings -/
abbrev eI (i : Int) : PyData := .int i
abbrev eT (xs : List Int) : PyData := .tuple (xs.map .int)
abbrev eL (xs : List Int) : PyData := .list (xs.map .int)
/-- the number at a place -/
def nth (xs : List Int) (i : Int) : Int := xs.getD i.toNat 0

theorem gd_lim {α : Type} {n : Nat} {x : Option α} (h : n ≤ 1000000) : gd (n ≤ LIM) x = x := gd_pos (by unfold LIM; omega)
theorem gd_llim {α : Type} {n : Nat} {x : Option α} (h : n < 1000000) : gd (n < LIM) x = x := gd_pos (by unfold LIM; omega)
theorem lim_ok {n : Nat} (h : n ≤ 1000000) : n ≤ LIM := by unfold LIM; omega
theorem lim_lt {n : Nat} (h : n < 1000000) : n < LIM := by unfold LIM; omega
theorem rng_of {a b : Int} (h1 : -1000000 ≤ a) (h2 : a ≤ 1000000) (h3 : -1000000 ≤ b) (h4 : b ≤ 1000000) : rng a b = some ((List.range (b - a).toNat).map fun (k : Nat) => PyData.int (a + (k : Int))) := by
  unfold rng LIM
  rw [gd_pos]
  omega
theorem rng0 {b : Int} (h3 : -1000000 ≤ b) (h4 : b ≤ 1000000) : rng 0 b = some ((List.range b.toNat).map fun (k : Nat) => PyData.int (k : Int)) := by
  rw [rng_of (by omega) (by omega) h3 h4]
  simp
/-- a, a + 1, .. b - 1 -/
def ivs (a b : Int) : List Int := (List.range (b - a).toNat).map fun (k : Nat) => a + (k : Int)
theorem mem_ivs {a b x : Int} : x ∈ ivs a b ↔ a ≤ x ∧ x < b := by
  unfold ivs
  rw [List.mem_map]
  constructor
  · rintro ⟨k, hk, rfl⟩
    have := List.mem_range.mp hk
    omega
  · rintro ⟨h1, h2⟩
    exact ⟨(x - a).toNat, List.mem_range.mpr (by omega), by omega⟩
theorem ivs_length (a b : Int) : (ivs a b).length = (b - a).toNat := by simp [ivs]
theorem rngI {a b : Int} (h1 : -1000000 ≤ a) (h2 : a ≤ 1000000) (h3 : -1000000 ≤ b) (h4 : b ≤ 1000000) : rng a b = some ((ivs a b).map PyData.int) := by
  rw [rng_of h1 h2 h3 h4]
  simp [ivs]
theorem atI_of {α : Type} {xs : List α} {i : Int} (h0 : 0 ≤ i) (h1 : i < xs.length) : L2.atI xs i = xs[i.toNat]? := by
  unfold L2.atI L2.ixN
  rw [if_pos h0, if_pos h1]
  rfl
theorem index_T {xs : List Int} {i : Int} (h0 : 0 ≤ i) (h1 : i < xs.length) : L2.atI (xs.map PyData.int) i = some (.int (nth xs i)) := by
  have hl : i.toNat < xs.length := by omega
  rw [atI_of h0 (by simpa using h1), List.getElem?_map, List.getElem?_eq_getElem hl]
  simp [nth, List.getD, List.getElem?_eq_getElem hl]
theorem index_M {α : Type} {enc : α → PyData} {xs : List α} {i : Int} {d : α} (h0 : 0 ≤ i) (h1 : i < xs.length) : L2.atI (xs.map enc) i = some (enc (xs.getD i.toNat d)) := by
  have hl : i.toNat < xs.length := by omega
  rw [atI_of h0 (by simpa using h1), List.getElem?_map, List.getElem?_eq_getElem hl]
  simp [List.getD, List.getElem?_eq_getElem hl]
theorem nth_mem {xs : List Int} {i : Int} (h0 : 0 ≤ i) (h1 : i < xs.length) : nth xs i ∈ xs := by
  have hl : i.toNat < xs.length := by omega
  simp [nth, List.getD, List.getElem?_eq_getElem hl]

/-! ### comprehensions and loops -/
theorem lcF_map {α : Type} {enc : α → PyData} {f : PyData → Option (Option PyData)} {g : α → Option PyData} : ∀ {xs : List α}, (∀ x ∈ xs, f (enc x) = some (g x)) → lcF f (xs.map enc) = some (xs.filterMap g)
  | [], _ => rfl
  | x :: xs, h => by
    have ih := lcF_map (enc := enc) (f := f) (g := g) (xs := xs) fun y hy => h y (List.mem_cons_of_mem _ hy)
    rw [List.map_cons, List.filterMap_cons]
    unfold lcF
    rw [h x List.mem_cons_self]
    cases g x with
    | none => simpa using ih
    | some y => simp [ih]
/-- no test -/
theorem lcF_all {α β : Type} {enc : α → PyData} {enc' : β → PyData} {f : PyData → Option (Option PyData)} {g : α → β} {xs : List α} (h : ∀ x ∈ xs, f (enc x) = some (some (enc' (g x)))) : lcF f (xs.map enc) = some ((xs.map g).map enc') := by
  rw [lcF_map (g := fun x => some (enc' (g x))) h, List.filterMap_eq_map', List.map_map]
  rfl
/-- with a test -/
theorem lcF_if {α β : Type} {enc : α → PyData} {enc' : β → PyData} {f : PyData → Option (Option PyData)} {p : α → Bool} {g : α → β} {xs : List α} (h : ∀ x ∈ xs, f (enc x) = some (if p x = true then some (enc' (g x)) else none)) : lcF f (xs.map enc) = some (((xs.filter p).map g).map enc') := by
  rw [lcF_map (g := fun x => if p x = true then some (enc' (g x)) else none) h]
  clear h
  congr 1
  induction xs with
  | nil => rfl
  | cons x xs ih =>
    rw [List.filterMap_cons, List.filter_cons]
    cases p x <;> simp [ih]
theorem genF_all {α : Type} {enc : α → PyData} {f : PyData → Option (Option Bool)} {p : α → Bool} : ∀ {xs : List α}, (∀ x ∈ xs, f (enc x) = some (some (p x))) → genF true f (xs.map enc) = some (xs.all p)
  | [], _ => rfl
  | x :: xs, h => by
    have ih := genF_all (enc := enc) (f := f) (p := p) (xs := xs) fun y hy => h y (List.mem_cons_of_mem _ hy)
    rw [List.map_cons, List.all_cons]
    unfold genF
    rw [h x List.mem_cons_self]
    cases p x <;> simp [ih]
theorem genF_any {α : Type} {enc : α → PyData} {f : PyData → Option (Option Bool)} {p : α → Bool} : ∀ {xs : List α}, (∀ x ∈ xs, f (enc x) = some (some (p x))) → genF false f (xs.map enc) = some (xs.any p)
  | [], _ => rfl
  | x :: xs, h => by
    have ih := genF_any (enc := enc) (f := f) (p := p) (xs := xs) fun y hy => h y (List.mem_cons_of_mem _ hy)
    rw [List.map_cons, List.any_cons]
    unfold genF
    rw [h x List.mem_cons_self]
    cases p x <;> simp [ih]
@[simp] theorem bools_map {α : Type} {p : α → Bool} : ∀ (xs : List α), bools? (xs.map fun x => PyData.bool (p x)) = some (xs.map p)
  | [] => rfl
  | x :: xs => by simp [bools_map xs]
@[simp] theorem bools_comp {α : Type} {p : α → Bool} (xs : List α) : bools? (xs.map (PyData.bool ∘ p)) = some (xs.map p) := bools_map xs
@[simp] theorem ite_some' {α : Type} (c : Prop) [Decidable c] (a b : α) : (if c then some a else some b) = some (if c then a else b) := by split <;> rfl
@[simp] theorem bools_of : ∀ (bs : List Bool), bools? (bs.map PyData.bool) = some bs
  | [] => rfl
  | x :: xs => by simp [bools_of xs]
@[simp] theorem ints_map {α : Type} {p : α → Int} : ∀ (xs : List α), ints? (xs.map fun x => PyData.int (p x)) = some (xs.map p)
  | [] => rfl
  | x :: xs => by simp [ints_map xs]
@[simp] theorem ints_comp {α : Type} {p : α → Int} (xs : List α) : ints? (xs.map (PyData.int ∘ p)) = some (xs.map p) := ints_map xs
@[simp] theorem ints_of : ∀ (bs : List Int), ints? (bs.map PyData.int) = some bs
  | [] => rfl
  | x :: xs => by simp [ints_of xs]
/-- a loop that only changes the state -/
theorem forF_inv {α : Type} {enc : α → PyData} {f : PyData → Rho → Option Res} (I : Nat → Rho → Prop) : ∀ {xs : List α} (k : Nat) (ρ : Rho), I k ρ → (∀ i x ρ, xs[i]? = some x → I (k + i) ρ → ∃ ρ', f (enc x) ρ = some (.nx ρ') ∧ I (k + i + 1) ρ') → ∃ ρ', forF f (xs.map enc) ρ = some (.nx ρ') ∧ I (k + xs.length) ρ'
  | [], k, ρ, h0, _ => ⟨ρ, rfl, h0⟩
  | x :: xs, k, ρ, h0, h => by
    obtain ⟨ρ1, h1, h2⟩ := h 0 x ρ rfl h0
    obtain ⟨ρ2, h3, h4⟩ := forF_inv I (xs := xs) (k + 1) ρ1 h2 fun i y ρ hy hI => by
      have e : k + 1 + i = k + (i + 1) := by omega
      rw [e] at hI ⊢
      exact h (i + 1) y ρ (by simpa using hy) hI
    refine ⟨ρ2, ?_, ?_⟩
    · rw [List.map_cons]
      unfold forF
      rw [h1]
      simpa using h3
    · have e : k + (x :: xs).length = k + 1 + xs.length := by simp; omega
      rw [e]; exact h4
/-- .. for each of the things, whatever came ahead -/
theorem forF_each {α : Type} {enc : α → PyData} {f : PyData → Rho → Option Res} (I : Rho → Prop) {xs : List α} {ρ : Rho} (h0 : I ρ) (h : ∀ x ∈ xs, ∀ ρ, I ρ → ∃ ρ', f (enc x) ρ = some (.nx ρ') ∧ I ρ') : ∃ ρ', forF f (xs.map enc) ρ = some (.nx ρ') ∧ I ρ' := by
  obtain ⟨ρ', h1, h2⟩ := forF_inv (enc := enc) (f := f) (fun _ => I) (xs := xs) 0 ρ h0 fun i x ρ hx hI => h x (List.mem_of_getElem? hx) ρ hI
  exact ⟨ρ', h1, h2⟩
/-- a fold -/
theorem forF_fold {α S : Type} {enc : α → PyData} {f : PyData → Rho → Option Res} (R : S → Rho) (step : S → α → S) : ∀ {xs : List α} (s : S), (∀ x ∈ xs, ∀ s, f (enc x) (R s) = some (.nx (R (step s x)))) → forF f (xs.map enc) (R s) = some (.nx (R (xs.foldl step s)))
  | [], s, _ => rfl
  | x :: xs, s, h => by
    have ih := forF_fold R step (xs := xs) (step s x) fun y hy s => h y (List.mem_cons_of_mem _ hy) s
    rw [List.map_cons]
    unfold forF
    rw [h x List.mem_cons_self]
    simpa using ih
/-- the meaning of a def, one call deeper -/
theorem den_run {W : Nat} {D : List CD} {n f : Nat} {d : CD} {ds : List PyData} (h : D[f]? = some d) (hl : ds.length = d.ps.length) : den W D (n + 1) f ds = runD (den W D n) W d.N.length d.body ds := by
  show (match D[f]? with | some d => if ds.length = d.ps.length then runD (den W D n) W d.N.length d.body ds else none | none => none) = _
  rw [h]
  exact if_pos hl


/-! ### equality of encodings -/
theorem eqvAll_map {α : Type} [DecidableEq α] {f : α → PyData} (h : ∀ a b, PyData.eqv (f a) (f b) = decide (a = b)) : ∀ xs ys : List α, PyData.eqvAll (xs.map f) (ys.map f) = decide (xs = ys)
  | [], [] => by simp [PyData.eqvAll]
  | [], _ :: _ => by simp [PyData.eqvAll]
  | _ :: _, [] => by simp [PyData.eqvAll]
  | x :: xs, y :: ys => by
    rw [List.map_cons, List.map_cons, PyData.eqvAll, h x y, eqvAll_map h xs ys]
    simp only [List.cons.injEq]
    by_cases h1 : x = y <;> by_cases h2 : xs = ys <;> simp [h1, h2]
@[simp] theorem eqv_int (a b : Int) : PyData.eqv (.int a) (.int b) = decide (a = b) := by
  rw [PyData.eqv]
  rfl
@[simp] theorem eqv_bool (a b : Bool) : PyData.eqv (.bool a) (.bool b) = decide (a = b) := by
  rw [PyData.eqv]
  cases a <;> cases b <;> rfl
@[simp] theorem eqv_str (a b : Str) : PyData.eqv (.str a) (.str b) = decide (a = b) := by
  rw [PyData.eqv]
  rfl
@[simp] theorem eqv_T (xs ys : List Int) : PyData.eqv (eT xs) (eT ys) = decide (xs = ys) := by
  rw [PyData.eqv, eqvAll_map eqv_int]
@[simp] theorem eqv_L (xs ys : List Int) : PyData.eqv (eL xs) (eL ys) = decide (xs = ys) := by
  rw [PyData.eqv, eqvAll_map eqv_int]
@[simp] theorem eqv_TT (xs ys : List (List Int)) : PyData.eqv (.tuple (xs.map eT)) (.tuple (ys.map eT)) = decide (xs = ys) := by
  rw [PyData.eqv, eqvAll_map eqv_T]
@[simp] theorem any_mem {α : Type} [DecidableEq α] (x : α) (ys : List α) : (ys.any fun y => decide (y = x)) = decide (x ∈ ys) := by
  induction ys with
  | nil => simp
  | cons y ys ih =>
    rw [List.any_cons, ih]
    by_cases h : y = x
    · simp [h]
    · have h' : ¬ x = y := fun e => h e.symm
      simp [h, h']
@[simp] theorem pk_ints (k : Nat) (xs : List Int) : (xs.map PyData.int).all (pk k) = true := by
  rw [List.all_eq_true]
  intro d hd
  obtain ⟨x, _, rfl⟩ := List.mem_map.mp hd
  cases k <;> rfl
@[simp] theorem pk_tups (k : Nat) (xs : List (List Int)) : (xs.map eT).all (pk (k + 1)) = true := by
  rw [List.all_eq_true]
  intro d hd
  obtain ⟨x, _, rfl⟩ := List.mem_map.mp hd
  simp
theorem map_all {α : Type} {p q : α → Bool} {xs : List α} (h : ∀ x ∈ xs, p x = q x) : xs.all p = xs.all q := by
  induction xs with
  | nil => rfl
  | cons x xs ih => rw [List.all_cons, List.all_cons, h x List.mem_cons_self, ih fun y hy => h y (List.mem_cons_of_mem _ hy)]


theorem map_filter_id {α : Type} (xs : List α) : xs.map (fun x => x) = xs := List.map_id' xs
theorem cut_map {α β : Type} (f : α → β) (xs : List α) (lo hi : Option Int) : cut (xs.map f) lo hi = (cut xs lo hi).map f := by
  unfold cut
  rw [List.length_map, List.map_take, List.map_drop]
theorem cut_length {α : Type} (xs : List α) (lo hi : Option Int) : (cut xs lo hi).length ≤ xs.length := by
  unfold cut
  rw [List.length_take, List.length_drop]
  omega
/-- of a list, the numbers with a property -/
theorem lc_ints {f : PyData → Option (Option PyData)} {p : Int → Bool} {xs : List Int} (h : ∀ x ∈ xs, f (.int x) = some (if p x = true then some (.int x) else none)) : lcF f (xs.map .int) = some ((xs.filter p).map .int) := by
  rw [lcF_if (enc' := PyData.int) (p := p) (g := fun x => x) h, List.map_id']
theorem lc_bools {f : PyData → Option (Option PyData)} {p : Int → Bool} {xs : List Int} (h : ∀ x ∈ xs, f (.int x) = some (some (.bool (p x)))) : lcF f (xs.map .int) = some ((xs.map p).map .bool) := lcF_all h
theorem gen_ints {f : PyData → Option (Option Bool)} {p : Int → Bool} {xs : List Int} (h : ∀ x ∈ xs, f (.int x) = some (some (p x))) : genF true f (xs.map .int) = some (xs.all p) := genF_all h

/-! ### statements in a row -/
section
variable {Φ : Fns} {n k : Nat} {ρ ρ' : Rho} {r : Sms} {x : Option Res} {d : PyData}
theorem runD_of {body : Sms} {ds : List PyData} (h : exSs Φ n body (startR k ds) = some (.rt d)) : runD Φ n k body ds = some d := by
  unfold runD
  rw [h]
theorem st_asg {t : Tg} {e : Ex} (he : ev Φ e ρ false = some d) (hb : bindT t d ρ = some ρ') (hr : exSs Φ n r ρ' = x) : exSs Φ n (.cons (.asg t e) r) ρ = x := by
  simp [he, hb, hr]
theorem st_own {i : Nat} {e : Ex} (he : ev Φ e ρ false = some d) (hm : isMut d = true) (hi : i < ρ.length) (hr : exSs Φ n r (ρ.set i (.ow d)) = x) : exSs Φ n (.cons (.own i e) r) ρ = x := by
  simp only [exSs, exS, he, Option.bind_some, hm, hi, and_self, if_true, hr]
theorem st_not {c : Ex} {a : Sms} (hc : tst Φ c ρ = some false) (hr : exSs Φ n r ρ = x) : exSs Φ n (.cons (.ife c a .nil) r) ρ = x := by
  simp only [exSs, exS, hc, Option.bind_some, Bool.false_eq_true, if_false, hr]
theorem st_for {α : Type} {enc : α → PyData} {xs : List α} {t : Tg} {i : Ce.It} {b : Sms} (I : Rho → Prop) (hi : itms Φ i ρ false = some (xs.map enc)) (h0 : I ρ) (h : ∀ x ∈ xs, ∀ ρ, I ρ → ∃ ρ1 ρ2, bindT t (enc x) ρ = some ρ1 ∧ exSs Φ n b ρ1 = some (.nx ρ2) ∧ I ρ2)
    (hr : ∀ ρ', I ρ' → exSs Φ n r ρ' = x) : exSs Φ n (.cons (.for t i b) r) ρ = x := by
  obtain ⟨ρ', h1, h2⟩ := forF_each (enc := enc) (f := fun d ρ' => (bindT t d ρ').bind (exSs Φ n b)) I (xs := xs) h0 fun x hx ρ hI => by
    obtain ⟨ρ1, ρ2, q1, q2, q3⟩ := h x hx ρ hI
    exact ⟨ρ2, by rw [q1]; exact q2, q3⟩
  simp only [exSs, exS, hi, Option.bind_some, h1]
  exact hr ρ' h2
theorem st_forN {α : Type} {enc : α → PyData} {xs : List α} {t : Tg} {i : Ce.It} {b : Sms} (I : Nat → Rho → Prop) (hi : itms Φ i ρ false = some (xs.map enc)) (h0 : I 0 ρ) (h : ∀ j x ρ, xs[j]? = some x → I j ρ → ∃ ρ1 ρ2, bindT t (enc x) ρ = some ρ1 ∧ exSs Φ n b ρ1 = some (.nx ρ2) ∧ I (j + 1) ρ2)
    (hr : ∀ ρ', I xs.length ρ' → exSs Φ n r ρ' = x) : exSs Φ n (.cons (.for t i b) r) ρ = x := by
  obtain ⟨ρ', h1, h2⟩ := forF_inv (enc := enc) (f := fun d ρ' => (bindT t d ρ').bind (exSs Φ n b)) I (xs := xs) 0 ρ h0 fun j x ρ hx hI => by
    rw [Nat.zero_add] at hI ⊢
    obtain ⟨ρ1, ρ2, q1, q2, q3⟩ := h j x ρ hx hI
    exact ⟨ρ2, by rw [q1]; exact q2, q3⟩
  rw [Nat.zero_add] at h2
  simp only [exSs, exS, hi, Option.bind_some, h1]
  exact hr ρ' h2
theorem ex_forN {α : Type} {enc : α → PyData} {xs : List α} {t : Tg} {i : Ce.It} {b : Sms} (I : Nat → Rho → Prop) (hi : itms Φ i ρ false = some (xs.map enc)) (h0 : I 0 ρ) (h : ∀ j x ρ, xs[j]? = some x → I j ρ → ∃ ρ1 ρ2, bindT t (enc x) ρ = some ρ1 ∧ exSs Φ n b ρ1 = some (.nx ρ2) ∧ I (j + 1) ρ2) :
    ∃ ρ', I xs.length ρ' ∧ ∀ x, exSs Φ n r ρ' = x → exSs Φ n (.cons (.for t i b) r) ρ = x := by
  obtain ⟨ρ', h1, h2⟩ := forF_inv (enc := enc) (f := fun d ρ' => (bindT t d ρ').bind (exSs Φ n b)) I (xs := xs) 0 ρ h0 fun j x ρ hx hI => by
    rw [Nat.zero_add] at hI ⊢
    obtain ⟨ρ1, ρ2, q1, q2, q3⟩ := h j x ρ hx hI
    exact ⟨ρ2, by rw [q1]; exact q2, q3⟩
  rw [Nat.zero_add] at h2
  refine ⟨ρ', h2, fun x hx => ?_⟩
  simp only [exSs, exS, hi, Option.bind_some, h1]
  exact hx
theorem st_ret {e : Ex} (he : ev Φ e ρ false = some d) : exSs Φ n (.cons (.ret e) r) ρ = some (.rt d) := by
  simp [he]
end

/-! ### shared defs -/
variable {Φ : Fns} {W : Nat}
/-- items[at] < items[at + 1] for all at -/
def rising (xs : List Int) : Bool := (ivs 0 (xs.length - 1)).all fun k => decide (nth xs k < nth xs (k + 1))
def bAsc : Sms :=
(.cons (.ret (.gen true (.cmp .lt (.sub (.var 0) (.var 1)) (.sub (.var 0) (.bin .add (.var 1) (.int 1)))) (.nm 1) (.rng1 (.bin .sub (.b1 .len (.var 0)) (.int 1))) .no))
.nil)
theorem asc_run {xs : List Int} (hx : xs.length ≤ 100000) : runD Φ W 2 bAsc [eT xs] = some (.bool (rising xs)) := by
  simp [bAsc]
  rw [rngI (by omega) (by omega) (by omega) (by omega)]
  simp
  rw [gen_ints (p := fun k => decide (nth xs k < nth xs (k + 1)))]
  · simp [rising]
  · intro k hk
    have hk' := mem_ivs.mp hk
    simp
    rw [index_T (by omega) (by omega), index_T (by omega) (by omega)]
    simp
/-- .. the law's own -/
def bRising : Sms :=
(.cons (.ret (.bi .all (.lc (.cmp .lt (.sub (.var 0) (.var 1)) (.sub (.var 0) (.bin .add (.var 1) (.int 1)))) (.nm 1) (.rng1 (.bin .sub (.b1 .len (.var 0)) (.int 1))) .no)))
.nil)
theorem rising_run {xs : List Int} (hx : xs.length ≤ 100000) : runD Φ W 2 bRising [eT xs] = some (.bool (rising xs)) := by
  simp [bRising]
  rw [rngI (by omega) (by omega) (by omega) (by omega)]
  simp
  rw [gd_pos (lim_ok (by rw [ivs_length]; omega)), lc_bools (p := fun k => decide (nth xs k < nth xs (k + 1)))]
  · simp [rising, Function.comp_def]
  · intro k hk
    have hk' := mem_ivs.mp hk
    simp
    rw [index_T (by omega) (by omega), index_T (by omega) (by omega)]
    simp
def isSet (xs : List Int) : Bool := rising xs && xs.all fun x => decide (0 ≤ x)
def bIsSet (j : Nat) : Sms :=
(.cons (.ret (.and (.call j (.cons (.var 0) .nil)) (.gen true (.cmp .ge (.var 1) (.int 0)) (.nm 1) (.ex (.var 0)) .no)))
.nil)
theorem isSet_run {j : Nat} {xs : List Int} (h : Φ j [eT xs] = some (.bool (rising xs))) : runD Φ W 2 (bIsSet j) [eT xs] = some (.bool (isSet xs)) := by
  simp [bIsSet, h]
  cases hr : rising xs with
  | false => simp [isSet, hr]
  | true =>
    simp
    rw [gen_ints (p := fun x => decide (0 ≤ x))]
    · simp [isSet, hr]
    · intro x hx; simp
def isSetB (n : Int) (xs : List Int) : Bool := isSet xs && xs.all fun x => decide (x < n)
def bIsSetB (j : Nat) : Sms :=
(.cons (.ret (.and (.call j (.cons (.var 1) .nil)) (.gen true (.cmp .lt (.var 2) (.var 0)) (.nm 2) (.ex (.var 1)) .no)))
.nil)
theorem isSetB_run {j : Nat} {n : Int} {xs : List Int} (h : Φ j [eT xs] = some (.bool (isSet xs))) : runD Φ W 3 (bIsSetB j) [.int n, eT xs] = some (.bool (isSetB n xs)) := by
  simp [bIsSetB, h]
  cases hr : isSet xs with
  | false => simp [isSetB, hr]
  | true =>
    simp
    rw [gen_ints (p := fun x => decide (x < n))]
    · simp [isSetB, hr]
    · intro x hx; simp
/-- each of one is in other -/
def within (one other : List Int) : Bool := one.all fun x => decide (x ∈ other)
def bWithin : Sms :=
(.cons (.ret (.gen true (.cmp .isin (.var 2) (.var 1)) (.nm 2) (.ex (.var 0)) .no))
.nil)
theorem within_run {xs ys : List Int} : runD Φ W 3 bWithin [eT xs, eT ys] = some (.bool (within xs ys)) := by
  simp [bWithin]
  rw [gen_ints (p := fun x => decide (x ∈ ys))]
  · simp [within]
  · intro x hx
    simp [List.any_map, Function.comp_def]
def bLawIn : Sms :=
(.cons (.ret (.bi .all (.lc (.cmp .isin (.var 2) (.var 1)) (.nm 2) (.ex (.var 0)) .no)))
.nil)
theorem lawIn_run {xs ys : List Int} (hx : xs.length ≤ 100000) : runD Φ W 3 bLawIn [eT xs, eT ys] = some (.bool (within xs ys)) := by
  simp [bLawIn]
  rw [gd_pos (lim_ok (by omega)), lc_bools (p := fun x => decide (x ∈ ys))]
  · simp [within, Function.comp_def]
  · intro x hx
    simp [List.any_map, Function.comp_def]
/-! the law's draws -/
def bCell : Sms :=
(.cons (.ife (.cmp .lt (.var 1) (.b1 .len (.var 0)))
(.cons (.ret (.sub (.var 0) (.var 1)))
.nil)
.nil)
(.cons (.ret (.bin .add (.bin .mul (.int 5) (.var 1)) (.int 3)))
.nil))
theorem cell_run {ns : List Int} {k : Int} (hl : ns.length ≤ 100) (h0 : 0 ≤ k) (h1 : k ≤ 100) : ∃ z : Int, runD Φ W 2 bCell [eL ns, .int k] = some (.int z) := by
  by_cases h : k < ns.length
  · refine ⟨nth ns k, ?_⟩
    simp [bCell, h]
    rw [index_T h0 h]
    simp
  · refine ⟨5 * k + 3, ?_⟩
    have h2 : (decide (k < (ns.length : Int))) = false := decide_eq_false h
    simp [bCell, h2]
def bDraws : Sms :=
(.cons (.asg (.nm 2) (.b1 .abs (.b1 .int (.var 0))))
(.cons (.asg (.nm 3) (.cmp .ge (.var 2) (.bin .pow (.int 10) (.int 18))))
(.cons (.asg (.nm 4) (.var 2))
(.cons (.own 5 (.lst .nil))
(.cons (.for (.nm 6) (.rng1 (.var 1))
(.cons (.ife (.and (.var 3) (.cmp .gt (.var 2) (.int 0)))
(.cons (.app 5 (.bin .mod (.b1 .int (.var 2)) (.int 5040)))
(.cons (.asg (.nm 2) (.bin .fdiv (.var 2) (.int 5040)))
.nil))
(.cons (.asg (.nm 7) (.bin .mod (.b1 .int (.bin .add (.bin .add (.bin .mul (.var 4) (.int 48271)) (.bin .mul (.bin .add (.var 6) (.int 1)) (.int 69621))) (.int 11))) (.int 2147483647)))
(.cons (.asg (.nm 7) (.bin .mod (.b1 .int (.bin .add (.bin .mul (.var 7) (.var 7)) (.bin .mul (.int 40692) (.bin .add (.var 6) (.int 3))))) (.int 2147483399)))
(.cons (.app 5 (.bin .mod (.b1 .int (.bin .fdiv (.var 7) (.int 64))) (.int 5040)))
.nil))))
.nil))
(.cons (.frz [5] (.ret (.var 5)))
.nil))))))
/-- numbers from 0 to 5039 -/
def Drawn (ds : List Int) : Prop := ∀ d ∈ ds, 0 ≤ d ∧ d < 5040
theorem drawn_add {ds : List Int} {z : Int} (h : Drawn ds) : Drawn (ds ++ [z % 5040]) := by
  intro d hd
  rcases List.mem_append.mp hd with h1 | h1
  · exact h d h1
  · rw [List.mem_singleton.mp h1]
    exact ⟨Int.emod_nonneg _ (by decide), Int.emod_lt_of_pos _ (by decide)⟩
theorem draws_run {z c : Int} (h0 : 0 ≤ c) (h1 : c ≤ 1000) : ∃ ds : List Int, runD Φ W 8 bDraws [.int z, .int c] = some (eL ds) ∧ (ds.length : Int) = c ∧ Drawn ds := by
  have key : ∃ ds : List Int, exSs Φ W bDraws (startR 8 [.int z, .int c]) = some (.rt (eL ds)) ∧ (ds.length : Int) = c ∧ Drawn ds := by
    unfold bDraws
    generalize ha : (if z < 0 then -z else z) = a
    generalize hb : decide ((10 : Int) ^ 18 ≤ a) = b
    have loop := ex_forN (Φ := Φ) (n := W) (r := (.cons (.frz [5] (.ret (.var 5))) .nil)) (ρ := [.fz (.int z), .fz (.int c), .fz (.int a), .fz (.bool b), .fz (.int a), .ow (.list []), .un, .un]) (enc := PyData.int) (xs := ivs 0 c) (t := .nm 6) (i := .rng1 (.var 1))
      (b := (.cons (.ife (.and (.var 3) (.cmp .gt (.var 2) (.int 0)))
(.cons (.app 5 (.bin .mod (.b1 .int (.var 2)) (.int 5040)))
(.cons (.asg (.nm 2) (.bin .fdiv (.var 2) (.int 5040)))
.nil))
(.cons (.asg (.nm 7) (.bin .mod (.b1 .int (.bin .add (.bin .add (.bin .mul (.var 4) (.int 48271)) (.bin .mul (.bin .add (.var 6) (.int 1)) (.int 69621))) (.int 11))) (.int 2147483647)))
(.cons (.asg (.nm 7) (.bin .mod (.b1 .int (.bin .add (.bin .mul (.var 7) (.var 7)) (.bin .mul (.int 40692) (.bin .add (.var 6) (.int 3))))) (.int 2147483399)))
(.cons (.app 5 (.bin .mod (.b1 .int (.bin .fdiv (.var 7) (.int 64))) (.int 5040)))
.nil))))
.nil))
      (fun j ρ => ∃ rest ds u v, ρ = [.fz (.int z), .fz (.int c), .fz (.int rest), .fz (.bool b), .fz (.int a), .ow (eL ds), u, v] ∧ ds.length = j ∧ Drawn ds)
      (by simp; rw [rngI (by omega) (by omega) (by omega) (by omega)])
      ⟨a, [], .un, .un, rfl, rfl, fun d hd => absurd hd (by simp)⟩
      (by
        rintro j x ρ hx ⟨rest, ds, u, v, rfl, hl, hd⟩
        have hx1 := mem_ivs.mp (List.mem_of_getElem? hx)
        have hj : j < 1000 := by
          have := (List.getElem?_eq_some_iff.mp hx).1
          rw [ivs_length] at this
          omega
        have hll : ds.length < LIM := by unfold LIM; omega
        refine ⟨[.fz (.int z), .fz (.int c), .fz (.int rest), .fz (.bool b), .fz (.int a), .ow (eL ds), .fz (.int x), v], ?_⟩
        by_cases hc : b = true ∧ 0 < rest
        · obtain ⟨rfl, hr⟩ := hc
          refine ⟨[.fz (.int z), .fz (.int c), .fz (.int (rest / 5040)), .fz (.bool true), .fz (.int a), .ow (eL (ds ++ [rest % 5040])), .fz (.int x), v], by simp, ?_, ⟨_, _, _, _, rfl, by simp [hl], drawn_add hd⟩⟩
          simp [hr, hll]
        · have tf : tst Φ (.and (.var 3) (.cmp .gt (.var 2) (.int 0))) [.fz (.int z), .fz (.int c), .fz (.int rest), .fz (.bool b), .fz (.int a), .ow (eL ds), .fz (.int x), v] = some false := by
            cases b with
            | false => simp
            | true =>
              have hr : ¬ 0 < rest := fun h => hc ⟨rfl, h⟩
              simp [hr]
          generalize hm1 : (a * 48271 + (x + 1) * 69621 + 11) % 2147483647 = y
          have hy0 : 0 ≤ y := by rw [← hm1]; exact Int.emod_nonneg _ (by decide)
          have hy1 : y < 2147483647 := by rw [← hm1]; exact Int.emod_lt_of_pos _ (by decide)
          have m4 : -18446744073709551616 < y ∧ y < 18446744073709551616 := by omega
          generalize hm2 : (y * y + 40692 * (x + 3)) % 2147483399 = w
          refine ⟨[.fz (.int z), .fz (.int c), .fz (.int rest), .fz (.bool b), .fz (.int a), .ow (eL (ds ++ [w / 64 % 5040])), .fz (.int x), .fz (.int w)], by simp, ?_, ⟨_, _, _, _, rfl, by simp [hl], drawn_add hd⟩⟩
          rw [exSs, exS, tf]
          simp only [Option.bind_some, Bool.false_eq_true, if_false]
          simp [hm1, hm2, m4, hll])
    obtain ⟨ρ', ⟨rest, ds, u, v, rfl, hl, hd⟩, hrun⟩ := loop
    refine ⟨ds, ?_, ?_, hd⟩
    · have := hrun (some (.rt (eL ds))) (by simp)
      refine st_asg (d := .int a) (ρ' := [.fz (.int z), .fz (.int c), .fz (.int a), .un, .un, .un, .un, .un]) (by simp [ha]) (by simp) ?_
      refine st_asg (d := .bool b) (ρ' := [.fz (.int z), .fz (.int c), .fz (.int a), .fz (.bool b), .un, .un, .un, .un]) (by simp [← hb]) (by simp) ?_
      refine st_asg (d := .int a) (ρ' := [.fz (.int z), .fz (.int c), .fz (.int a), .fz (.bool b), .fz (.int a), .un, .un, .un]) (by simp) (by simp) ?_
      refine st_own (d := .list []) (by simp) rfl (by simp) ?_
      exact this
    · rw [hl, ivs_length]; omega
  obtain ⟨ds, k1, k2, k3⟩ := key
  exact ⟨ds, runD_of k1, k2, k3⟩
end Pu

set_option maxHeartbeats 4000000
/-! Plain laws: more shared defs. -/
namespace Pu
open PySem Ce Cs
variable {Φ : Fns} {W : Nat}

/-! _law_is -/
def bIsInt : Sms :=
(.cons (.ret (.and (.isi .int (.var 0)) (.not (.isi .bool (.var 0)))))
.nil)
theorem isInt_run {i : Int} : runD Φ W 1 bIsInt [.int i] = some (.bool true) := by simp [bIsInt]
def bLawIs (j k : Nat) : Sms :=
(.cons (.ife (.isn (.var 1))
(.cons (.ret (.isn (.var 0)))
.nil)
.nil)
(.cons (.ife (.isi .bool (.var 1))
(.cons (.ret (.and (.isi .bool (.var 0)) (.cmp .eq (.var 0) (.var 1))))
.nil)
.nil)
(.cons (.ife (.isi .int (.var 1))
(.cons (.ret (.and (.call j (.cons (.var 0) .nil)) (.cmp .eq (.var 0) (.var 1))))
.nil)
.nil)
(.cons (.ife (.isi .str (.var 1))
(.cons (.ret (.and (.isi .str (.var 0)) (.cmp .eq (.var 0) (.var 1))))
.nil)
.nil)
(.cons (.ife (.or (.not (.isi .tuple (.var 0))) (.cmp .ne (.b1 .len (.var 0)) (.b1 .len (.var 1))))
(.cons (.ret (.bool false))
.nil)
.nil)
(.cons (.ret (.bi .all (.lc (.call k (.cons (.sub (.var 0) (.var 2)) (.cons (.sub (.var 1) (.var 2)) .nil))) (.nm 2) (.rng1 (.b1 .len (.var 1))) .no)))
.nil))))))
/-- plain data, k deep -/
def pl : Nat → PyData → Bool
  | _, .none => true
  | _, .bool _ => true
  | _, .int _ => true
  | _, .str s => PyData.strOk s
  | k + 1, .tuple xs => decide (xs.length ≤ 100000) && xs.all (pl k)
  | _, _ => false
theorem all_map_true {α : Type} {xs : List α} {p : α → Bool} (h : ∀ x ∈ xs, p x = true) : (xs.map p).all id = true := by
  rw [List.all_eq_true]
  intro b hb
  obtain ⟨x, hx, rfl⟩ := List.mem_map.mp hb
  exact h x hx
theorem lawIs_run {j k : Nat} {d : PyData} {m : Nat} (hp : pl m d = true) (hj : ∀ i : Int, Φ j [.int i] = some (.bool true)) (hk : ∀ xs, d = .tuple xs → ∀ x ∈ xs, Φ k [x, x] = some (.bool true)) : runD Φ W 3 (bLawIs j k) [d, d] = some (.bool true) := by
  cases d with
  | none => simp [bLawIs]
  | bool b => simp [bLawIs]
  | int i => simp [bLawIs, hj]
  | str s =>
    have hs : PyData.strOk s = true := by
      cases m <;> simpa [pl] using hp
    simp [bLawIs, hs]
  | list xs => cases m <;> simp [pl] at hp
  | dict xs => cases m <;> simp [pl] at hp
  | tuple xs =>
    have hl : xs.length ≤ 100000 := by
      cases m with
      | zero => simp [pl] at hp
      | succ m =>
        simp only [pl, Bool.and_eq_true, decide_eq_true_eq] at hp
        exact hp.1
    simp [bLawIs]
    rw [rngI (by omega) (by omega) (by omega) (by omega)]
    simp
    rw [gd_pos (lim_ok (by rw [ivs_length]; omega)), lc_bools (p := fun _ => true)]
    · simp
    · intro x hx
      have hx' := mem_ivs.mp hx
      have hx2 : x.toNat < xs.length := by omega
      have e : L2.atI xs x = some xs[x.toNat] := by
        rw [atI_of (by omega) (by omega)]
        exact List.getElem?_eq_getElem hx2
      simp [e]
      rw [hk xs rfl _ (List.getElem_mem hx2)]
/-- d is d: pl m d, called m + 2 deep -/
def IsAt (D : List CD) (W : Nat) (k : Nat) : Prop := ∀ (m : Nat) (d : PyData), pl m d = true → ∀ n, m + 2 ≤ n → den W D n k [d, d] = some (.bool true)
theorem isAt_of {D : List CD} {W j k : Nat} {dj dk : CD} (h1 : D[j]? = some dj) (h2 : D[k]? = some dk) (e1 : dj.ps.length = 1) (e2 : dk.ps.length = 2) (b1 : dj.body = bIsInt) (b2 : dk.body = bLawIs j k) (n1 : dj.N.length = 1) (n2 : dk.N.length = 3) : IsAt D W k := by
  intro m
  induction m with
  | zero =>
    intro d hd n hn
    obtain ⟨n, rfl⟩ : ∃ i, n = i + 2 := ⟨n - 2, by omega⟩
    rw [den_run (n := n + 1) h2 (by rw [e2]; rfl), b2, n2]
    refine lawIs_run hd (fun i => ?_) (fun xs e x hx => ?_)
    · rw [den_run h1 (by rw [e1]; rfl), b1, n1]; exact isInt_run
    · subst e; simp [pl] at hd
  | succ m ih =>
    intro d hd n hn
    obtain ⟨n, rfl⟩ : ∃ i, n = i + 2 := ⟨n - 2, by omega⟩
    rw [den_run (n := n + 1) h2 (by rw [e2]; rfl), b2, n2]
    refine lawIs_run hd (fun i => ?_) (fun xs e x hx => ?_)
    · rw [den_run h1 (by rw [e1]; rfl), b1, n1]; exact isInt_run
    · subst e
      simp only [pl, Bool.and_eq_true, decide_eq_true_eq, List.all_eq_true] at hd
      exact ih x (hd.2 x hx) (n + 1) (by omega)
theorem pl_ints {k : Nat} {xs : List Int} (h : xs.length ≤ 100000) : pl (k + 1) (eT xs) = true := by
  simp only [pl, Bool.and_eq_true, decide_eq_true_eq, List.all_eq_true]
  refine ⟨by simpa using h, fun x hx => ?_⟩
  obtain ⟨y, _, rfl⟩ := List.mem_map.mp hx
  cases k <;> rfl

/-! _law_set -/
def lawSet (z n : Int) : List Int := (ivs 0 n).filter fun k => decide (z / nth [1, 2, 4, 8, 16, 32, 64] k % 2 = 1)
def bLawSet : Sms :=
(.cons (.ret (.bi .tuple (.lc (.var 2) (.nm 2) (.rng1 (.var 1)) (.yes (.cmp .eq (.bin .mod (.bin .fdiv (.b1 .int (.var 0)) (.sub (.tup (.cons (.int 1) (.cons (.int 2) (.cons (.int 4) (.cons (.int 8) (.cons (.int 16) (.cons (.int 32) (.cons (.int 64) .nil)))))))) (.var 2))) (.int 2)) (.int 1))))))
.nil)
theorem lit7 : (7 : Nat) ≤ LIM := by unfold LIM; omega
theorem lawSet_run {z n : Int} (h0 : 0 ≤ n) (h : n ≤ 7) : runD Φ W 3 bLawSet [.int z, .int n] = some (eT (lawSet z n)) := by
  simp [bLawSet]
  rw [rngI (by omega) (by omega) (by omega) (by omega)]
  simp
  rw [gd_pos (lim_ok (by rw [ivs_length]; omega)), lc_ints (p := fun k => decide (z / nth [1, 2, 4, 8, 16, 32, 64] k % 2 = 1))]
  · simp [lawSet]
  · intro x hx
    have hx' := mem_ivs.mp hx
    have : x = 0 ∨ x = 1 ∨ x = 2 ∨ x = 3 ∨ x = 4 ∨ x = 5 ∨ x = 6 := by omega
    rcases this with rfl | rfl | rfl | rfl | rfl | rfl | rfl <;> simp [nth, L2.atI, L2.ixN, LIM]
theorem mem_lawSet {z n x : Int} (h : x ∈ lawSet z n) : 0 ≤ x ∧ x < n := mem_ivs.mp (List.mem_filter.mp h).1
theorem lawSet_length {z n : Int} (h : n ≤ 7) : (lawSet z n).length ≤ 7 := by
  have := List.length_filter_le (fun k => decide (z / nth [1, 2, 4, 8, 16, 32, 64] k % 2 = 1)) (ivs 0 n)
  rw [ivs_length] at this
  unfold lawSet
  omega

/-! sets of a size: _law_sets, all_sets -/
/-- all sets of things below n, as the loop makes them -/
def subs (n : Int) : List (List Int) := (ivs 0 n).foldl (fun s a => s ++ s.map fun x => x ++ [a]) [[]]
theorem ivs_succ (n : Nat) : ivs 0 ((n : Int) + 1) = ivs 0 n ++ [(n : Int)] := by
  unfold ivs
  have e : ((n : Int) + 1 - 0).toNat = n + 1 := by omega
  have e2 : ((n : Int) - 0).toNat = n := by omega
  rw [e, e2, List.range_succ, List.map_append]
  simp
theorem ivs_zero : ivs 0 0 = [] := rfl
theorem subs_succ (n : Nat) : subs ((n : Int) + 1) = subs n ++ (subs n).map fun x => x ++ [(n : Int)] := by
  unfold subs
  rw [ivs_succ, List.foldl_append]
  rfl
theorem subs_length (n : Nat) : (subs n).length = 2 ^ n := by
  induction n with
  | zero => rfl
  | succ n ih =>
    have e : ((n + 1 : Nat) : Int) = (n : Int) + 1 := by omega
    rw [e, subs_succ, List.length_append, List.length_map, ih, Nat.pow_succ]
    omega
/-- rising, each at once -/
def Asc (xs : List Int) : Prop := xs.Pairwise (· < ·)
theorem subs_mem (n : Nat) : ∀ xs, xs ∈ subs n ↔ Asc xs ∧ ∀ x ∈ xs, 0 ≤ x ∧ x < n := by
  induction n with
  | zero =>
    intro xs
    constructor
    · intro h
      have : xs = [] := by simpa [subs, ivs_zero] using h
      subst this
      exact ⟨List.Pairwise.nil, fun x hx => absurd hx (by simp)⟩
    · rintro ⟨h1, h2⟩
      cases xs with
      | nil => simp [subs, ivs_zero]
      | cons x xs =>
        have := h2 x List.mem_cons_self
        simp at this
        omega
  | succ n ih =>
    intro xs
    have e : ((n + 1 : Nat) : Int) = (n : Int) + 1 := by omega
    rw [e, subs_succ, List.mem_append, ih]
    constructor
    · rintro (⟨h1, h2⟩ | h)
      · exact ⟨h1, fun x hx => by have := h2 x hx; omega⟩
      · obtain ⟨ys, hy, rfl⟩ := List.mem_map.mp h
        obtain ⟨h1, h2⟩ := (ih ys).mp hy
        refine ⟨?_, fun x hx => ?_⟩
        · refine List.pairwise_append.mpr ⟨h1, List.pairwise_singleton _ _, fun a ha b hb => ?_⟩
          rw [List.mem_singleton.mp hb]
          exact (h2 a ha).2
        · rcases List.mem_append.mp hx with h | h
          · have := h2 x h; omega
          · rw [List.mem_singleton.mp h]; omega
    · rintro ⟨h1, h2⟩
      by_cases hn : (n : Int) ∈ xs
      · right
        -- the last thing is n
        rcases List.eq_nil_or_concat xs with rfl | ⟨ys, z, rfl⟩
        · cases hn
        · rw [List.concat_eq_append] at h1 h2 hn ⊢
          have h1 : (ys ++ [z]).Pairwise (· < ·) := h1
          have hz : z = n := by
            have hzb := (h2 z (by simp)).2
            rw [List.pairwise_append] at h1
            rcases List.mem_append.mp hn with h | h
            · have := h1.2.2 _ h z (by simp)
              omega
            · exact (List.mem_singleton.mp h).symm
          subst hz
          rw [List.mem_map]
          refine ⟨ys, (ih ys).mpr ⟨(List.pairwise_append.mp h1).1, fun x hx => ?_⟩, rfl⟩
          have := (List.pairwise_append.mp h1).2.2 x hx n (by simp)
          have := h2 x (by simp [hx])
          omega
      · left
        refine ⟨h1, fun x hx => ?_⟩
        have := h2 x hx
        have : x ≠ n := fun e => hn (e ▸ hx)
        omega
end Pu

set_option maxHeartbeats 4000000
/-! Plain laws: sorted sets, bent rows. -/
namespace Pu
open PySem Ce Cs
variable {Φ : Fns} {W : Nat}

theorem sortable_of {α : Type} {key : α → PyData} {xs : List α} (h1 : ∀ a b, PySem.W.alike (key a) (key b) = true) (h2 : ∀ a, ∃ xs, key a = .tuple xs) (h3 : ∀ a, (key a).depth ≤ 64) : sortable (xs.map key) = true := by
  simp only [sortable, Bool.and_eq_true, Bool.or_eq_true, List.all_eq_true, decide_eq_true_eq, List.mem_map, forall_exists_index, and_imp, forall_apply_eq_imp_iff₂]
  refine ⟨⟨fun a _ b _ => h1 a b, .inl fun a _ => ?_⟩, fun a _ => h3 a⟩
  obtain ⟨xs, e⟩ := h2 a
  rw [e]
theorem sortd_map {α : Type} (key : α → PyData) (xs : List α) : sortd (xs.map key) = (xs.mergeSort fun a b => PySem.W.dataLe false id (key a) (key b)).map key := by
  unfold sortd
  exact (List.map_mergeSort (f := key) (r := fun a b => PySem.W.dataLe false id (key a) (key b)) (s := PySem.W.dataLe false id) fun a _ b _ => rfl).symm
def keyOf (x : List Int) : PyData := .tuple [.int x.length, eT x]
theorem key_alike (a b : List Int) : PySem.W.alike (keyOf a) (keyOf b) = true := by
  simp [keyOf, PySem.W.alike, PySem.W.alikeAll, PySem.W.alike_ints]
theorem pk_key (x : List Int) : pk 16 (keyOf x) = true := by simp [keyOf]
theorem depth_pk {k : Nat} {d : PyData} (h : pk k d = true) (hk : k ≤ 64) : d.depth ≤ 64 := Nat.le_trans (pk_ok k d h).2 hk
/-- all sets of things below n: the smaller ones first, then in order -/
def sets (n : Int) : List (List Int) := (subs n).mergeSort fun a b => PySem.W.dataLe false id (keyOf a) (keyOf b)
theorem sets_mem {n : Nat} {xs : List Int} : xs ∈ sets n ↔ Asc xs ∧ ∀ x ∈ xs, 0 ≤ x ∧ x < n := by
  unfold sets
  rw [(List.mergeSort_perm _ _).mem_iff]
  exact subs_mem n xs
theorem sets_length (n : Nat) : (sets n).length = 2 ^ n := by
  unfold sets
  rw [List.length_mergeSort]
  exact subs_length n
theorem asc_length {n : Nat} {xs : List Int} (h : Asc xs) (hb : ∀ x ∈ xs, 0 ≤ x ∧ x < n) : xs.length ≤ n := by
  induction n generalizing xs with
  | zero =>
    cases xs with
    | nil => exact Nat.le_refl _
    | cons x xs => have := hb x List.mem_cons_self; omega
  | succ n ih =>
    rcases List.eq_nil_or_concat xs with rfl | ⟨ys, z, rfl⟩
    · exact Nat.zero_le _
    · rw [List.concat_eq_append] at h hb ⊢
      have h : (ys ++ [z]).Pairwise (· < ·) := h
      rw [List.length_append, List.length_singleton]
      have hz := hb z (by simp)
      have := ih (xs := ys) (List.pairwise_append.mp h).1 fun x hx => by
        have h1 := (List.pairwise_append.mp h).2.2 x hx z (by simp)
        have h2 := hb x (by simp [hx])
        omega
      omega
def bLawSets : Sms :=
(.cons (.asg (.nm 1) (.lst (.cons (.tup .nil) .nil)))
(.cons (.for (.nm 2) (.rng1 (.var 0))
(.cons (.asg (.nm 1) (.bin .add (.var 1) (.lc (.bin .add (.var 3) (.tup (.cons (.var 2) .nil))) (.nm 3) (.ex (.var 1)) .no)))
.nil))
(.cons (.ret (.lc (.var 3) (.tp (.cons (.nm 4) (.cons (.nm 3) .nil))) (.ex (.bi .sorted (.lc (.tup (.cons (.b1 .len (.var 3)) (.cons (.var 3) .nil))) (.nm 3) (.ex (.var 1)) .no))) .no))
.nil)))
theorem ivs_get {n : Nat} {j : Nat} {x : Int} (h : (ivs 0 n)[j]? = some x) : x = j ∧ j < n := by
  unfold ivs at h
  rw [List.getElem?_map] at h
  by_cases hj : j < n
  · rw [List.getElem?_range (by omega)] at h
    simp at h
    exact ⟨h.symm, hj⟩
  · rw [List.getElem?_eq_none (by simp; omega)] at h
    cases h
/-- the loop over the things of all_sets, _law_sets -/
theorem sets_loop {n : Nat} {e : Ex} (hn : n ≤ 12) (s t u v : Sl) :
    ∃ x, ∀ res, exSs Φ W (.cons (.ret e) .nil) [.fz (.int n), .fz (.list ((subs n).map eT)), x, u, v] = res →
      exSs Φ W (.cons (.asg (.nm 1) (.lst (.cons (.tup .nil) .nil))) (.cons (.for (.nm 2) (.rng1 (.var 0))
        (.cons (.asg (.nm 1) (.bin .add (.var 1) (.lc (.bin .add (.var 3) (.tup (.cons (.var 2) .nil))) (.nm 3) (.ex (.var 1)) .no))) .nil)) (.cons (.ret e) .nil))) [.fz (.int n), s, t, u, v] = res := by
  have loop := ex_forN (Φ := Φ) (n := W) (r := (.cons (.ret e) .nil)) (ρ := [.fz (.int n), .fz (.list [.tuple []]), t, u, v]) (enc := PyData.int) (xs := ivs 0 n) (t := .nm 2) (i := .rng1 (.var 0))
    (b := (.cons (.asg (.nm 1) (.bin .add (.var 1) (.lc (.bin .add (.var 3) (.tup (.cons (.var 2) .nil))) (.nm 3) (.ex (.var 1)) .no))) .nil))
    (fun j ρ => ∃ x, ρ = [.fz (.int n), .fz (.list ((subs j).map eT)), x, u, v])
    (by simp; rw [rngI (by omega) (by omega) (by omega) (by omega)])
    ⟨t, rfl⟩
    (by
      rintro j x ρ hx ⟨y, rfl⟩
      obtain ⟨rfl, hj⟩ := ivs_get hx
      have h2 : 2 ^ j ≤ 2 ^ 12 := Nat.pow_le_pow_right (by omega) (by omega)
      have hl : (subs j).length ≤ 4096 := by rw [subs_length]; omega
      refine ⟨[.fz (.int n), .fz (.list ((subs j).map eT)), .fz (.int j), u, v], [.fz (.int n), .fz (.list ((subs ((j : Int) + 1)).map eT)), .fz (.int j), u, v], by simp, ?_, ⟨.fz (.int j), by simp⟩⟩
      have key : lcF (fun d => (some [Sl.fz (.int n), .fz (.list ((subs j).map eT)), .fz (.int j), .fz d, v]).bind fun ρ1 => (tsto Φ .no ρ1).bind fun c => if c = true then (ev Φ (.bin .add (.var 3) (.tup (.cons (.var 2) .nil))) ρ1 false).map some else some none) ((subs j).map eT) = some (((subs j).map fun x => x ++ [(j : Int)]).map eT) := by
        refine lcF_all (enc := eT) (enc' := eT) (g := fun x => x ++ [(j : Int)]) fun x hx => ?_
        have hb := (subs_mem j x).mp hx
        have := asc_length hb.1 hb.2
        simp
        rw [gd_pos (lim_ok (by omega))]
        simp
        rw [gd_pos (lim_ok (by omega))]
        simp
      simp
      rw [gd_pos (lim_ok (by omega))]
      simp at key
      rw [key]
      simp
      rw [gd_pos (lim_ok (by omega))]
      simp [subs_succ])
  obtain ⟨ρ', ⟨x, rfl⟩, h⟩ := loop
  refine ⟨x, fun res hr => ?_⟩
  have hlen : (ivs 0 (n : Int)).length = n := by rw [ivs_length]; omega
  rw [hlen] at h
  refine st_asg (d := .list [.tuple []]) (ρ' := [.fz (.int n), .fz (.list [.tuple []]), t, u, v]) ?_ (by simp) (h res hr)
  simp [LIM]
theorem lawSets_run {n : Nat} (hn : n ≤ 12) : runD Φ W 5 bLawSets [.int n] = some (.list ((sets n).map eT)) := by
  refine runD_of ?_
  unfold bLawSets
  obtain ⟨x, hx⟩ := sets_loop (Φ := Φ) (W := W) (n := n) (e := (.lc (.var 3) (.tp (.cons (.nm 4) (.cons (.nm 3) .nil))) (.ex (.bi .sorted (.lc (.tup (.cons (.b1 .len (.var 3)) (.cons (.var 3) .nil))) (.nm 3) (.ex (.var 1)) .no))) .no)) hn .un .un .un .un
  refine hx _ ?_
  have h2 : 2 ^ n ≤ 2 ^ 12 := Nat.pow_le_pow_right (by omega) hn
  have hl : (subs n).length ≤ 4096 := by rw [subs_length]; omega
  have key : lcF (fun d => (some [Sl.fz (.int n), .fz (.list ((subs n).map eT)), x, .fz d, .un]).bind fun ρ1 => (tsto Φ .no ρ1).bind fun c => if c = true then (ev Φ (.tup (.cons (.b1 .len (.var 3)) (.cons (.var 3) .nil))) ρ1 false).map some else some none) ((subs n).map eT) = some ((subs n).map keyOf) := by
    rw [lcF_all (enc := eT) (enc' := keyOf) (g := fun x => x)]
    · simp
    · intro y hy
      simp [keyOf, LIM]
  have srt : sortd ((subs n).map keyOf) = (sets n).map keyOf := sortd_map keyOf (subs n)
  have sl : (sets n).length = 2 ^ n := sets_length n
  refine st_ret ?_
  simp at key
  simp
  rw [gd_pos (lim_ok (by omega)), key]
  simp
  rw [gd_pos ⟨sortable_of key_alike (fun a => ⟨_, rfl⟩) (fun a => depth_pk (pk_key a) (by omega)), lim_ok (by omega)⟩, srt]
  simp
  rw [gd_pos (lim_ok (by omega))]
  rw [lcF_all (enc := keyOf) (enc' := eT) (g := fun x => x)]
  · simp
  · intro y hy
    simp [keyOf]
end Pu

set_option maxHeartbeats 4000000
/-! Plain laws: bent rows. -/
namespace Pu
open PySem Ce Cs
variable {Φ : Fns} {W : Nat}
def bBent : Sms :=
(.cons (.asg (.nm 3) (.bin .mod (.b1 .int (.sub (.var 1) (.int 0))) (.int 6)))
(.cons (.asg (.nm 4) (.bin .mod (.b1 .int (.sub (.var 1) (.int 1))) (.bin .add (.b1 .len (.var 0)) (.int 1))))
(.cons (.asg (.nm 5) (.sub (.tup (.cons (.bin .sub (.bin .mod (.b1 .int (.sub (.var 1) (.int 2))) (.bin .add (.var 2) (.int 3))) (.int 1)) (.cons (.bin .pow (.int 10) (.int 20)) (.cons (.bin .sub (.int 0) (.int 1)) .nil)))) (.bin .fdiv (.bin .mod (.bin .fdiv (.b1 .int (.sub (.var 1) (.int 2))) (.int 60)) (.int 14)) (.int 6))))
(.cons (.ife (.cmp .eq (.var 3) (.int 0))
(.cons (.ret (.bin .add (.sl (.var 0) .no (.yes (.var 4))) (.sl (.var 0) (.yes (.bin .add (.var 4) (.int 1))) .no)))
.nil)
.nil)
(.cons (.ife (.cmp .eq (.var 3) (.int 1))
(.cons (.ret (.bin .add (.bin .add (.sl (.var 0) .no (.yes (.var 4))) (.tup (.cons (.var 5) .nil))) (.sl (.var 0) (.yes (.var 4)) .no)))
.nil)
.nil)
(.cons (.ife (.cmp .lt (.var 3) (.int 4))
(.cons (.ret (.bin .add (.bin .add (.sl (.var 0) .no (.yes (.var 4))) (.tup (.cons (.var 5) .nil))) (.sl (.var 0) (.yes (.bin .add (.var 4) (.int 1))) .no)))
.nil)
.nil)
(.cons (.ret (.ife (.cmp .eq (.var 3) (.int 4)) (.rev (.var 0)) (.bin .add (.sl (.var 0) .no (.yes (.var 4))) (.sl (.var 0) (.yes (.b2 .max (.int 0) (.bin .sub (.var 4) (.int 1)))) .no))))
.nil)))))))
theorem cut_lo {α : Type} (xs : List α) (k : Int) (h0 : 0 ≤ k) (h1 : k ≤ xs.length) : (cut xs none (some k)).length = k.toNat := by
  unfold cut HT.sIx
  simp only [List.length_take, List.length_drop]
  rw [if_neg (by omega)]
  omega
theorem cut_hi {α : Type} (xs : List α) (k : Int) (h0 : 0 ≤ k) : (cut xs (some k) none).length ≤ xs.length - k.toNat := by
  unfold cut HT.sIx
  simp only [List.length_take, List.length_drop]
  rw [if_neg (by omega)]
  omega
theorem at3 (a b c : PyData) {i : Int} (h0 : 0 ≤ i) (h1 : i < 3) : ∃ d, L2.atI [a, b, c] i = some d ∧ (d = a ∨ d = b ∨ d = c) := by
  have : i = 0 ∨ i = 1 ∨ i = 2 := by omega
  rcases this with rfl | rfl | rfl
  · exact ⟨a, rfl, .inl rfl⟩
  · exact ⟨b, rfl, .inr (.inl rfl)⟩
  · exact ⟨c, rfl, .inr (.inr rfl)⟩
/-- a row with a change: a row of numbers, by one longer at most (but one doubled part) -/
theorem bent_run {xs : List Int} {a b c most : Int} (hx : xs.length ≤ 1000) (hc : 0 ≤ c ∧ c < 5040) (hm : 0 ≤ most) :
    ∃ ys : List Int, runD Φ W 6 bBent [eT xs, eL [a, b, c], .int most] = some (eT ys) ∧ ys.length ≤ xs.length + 1 := by
  have h3 : 0 ≤ c / 60 % 14 / 6 ∧ c / 60 % 14 / 6 < 3 := by omega
  obtain ⟨odd, ho⟩ : ∃ odd : Int, L2.atI [PyData.int (c % (most + 3) - 1), .int (10 ^ 20), .int (0 - 1)] (c / 60 % 14 / 6) = some (.int odd) := by
    obtain ⟨d, e, h⟩ := at3 (PyData.int (c % (most + 3) - 1)) (.int (10 ^ 20)) (.int (0 - 1)) h3.1 h3.2
    rcases h with rfl | rfl | rfl
    · exact ⟨_, e⟩
    · exact ⟨_, e⟩
    · exact ⟨_, e⟩
  generalize hat : b % ((xs.length : Int) + 1) = at_
  have h40 : 0 ≤ at_ := by rw [← hat]; exact Int.emod_nonneg _ (by omega)
  have h41 : at_ < (xs.length : Int) + 1 := by rw [← hat]; exact Int.emod_lt_of_pos _ (by omega)
  have c1 := cut_lo xs at_ h40 (by omega)
  have c2 := cut_hi xs at_ h40
  have c3 := cut_hi xs (at_ + 1) (by omega)
  have c4 := cut_length xs (some (max 0 (at_ - 1))) none
  have c5 := cut_length xs none (some at_)
  have go : ∀ res, exSs Φ W (.cons (.ife (.cmp .eq (.var 3) (.int 0))
(.cons (.ret (.bin .add (.sl (.var 0) .no (.yes (.var 4))) (.sl (.var 0) (.yes (.bin .add (.var 4) (.int 1))) .no)))
.nil)
.nil)
(.cons (.ife (.cmp .eq (.var 3) (.int 1))
(.cons (.ret (.bin .add (.bin .add (.sl (.var 0) .no (.yes (.var 4))) (.tup (.cons (.var 5) .nil))) (.sl (.var 0) (.yes (.var 4)) .no)))
.nil)
.nil)
(.cons (.ife (.cmp .lt (.var 3) (.int 4))
(.cons (.ret (.bin .add (.bin .add (.sl (.var 0) .no (.yes (.var 4))) (.tup (.cons (.var 5) .nil))) (.sl (.var 0) (.yes (.bin .add (.var 4) (.int 1))) .no)))
.nil)
.nil)
(.cons (.ret (.ife (.cmp .eq (.var 3) (.int 4)) (.rev (.var 0)) (.bin .add (.sl (.var 0) .no (.yes (.var 4))) (.sl (.var 0) (.yes (.b2 .max (.int 0) (.bin .sub (.var 4) (.int 1)))) .no))))
.nil)))) [.fz (eT xs), .fz (eL [a, b, c]), .fz (.int most), .fz (.int (a % 6)), .fz (.int at_), .fz (.int odd)] = res → exSs Φ W bBent (startR 6 [eT xs, eL [a, b, c], .int most]) = res := fun res h => by
    unfold bBent
    refine st_asg (d := .int (a % 6)) (ρ' := [.fz (eT xs), .fz (eL [a, b, c]), .fz (.int most), .fz (.int (a % 6)), .un, .un]) (by simp [L2.atI, L2.ixN]) (by simp) ?_
    refine st_asg (d := .int at_) (ρ' := [.fz (eT xs), .fz (eL [a, b, c]), .fz (.int most), .fz (.int (a % 6)), .fz (.int at_), .un]) ?_ (by simp) ?_
    · have : (0 : Int) < xs.length + 1 := by omega
      simp [L2.atI, L2.ixN, hat, this]
    refine st_asg (d := .int odd) (ρ' := [.fz (eT xs), .fz (eL [a, b, c]), .fz (.int most), .fz (.int (a % 6)), .fz (.int at_), .fz (.int odd)]) ?_ (by simp) h
    have e3 : 0 < most + 3 := by omega
    simp at ho
    simp [L2.atI, L2.ixN, e3] at ho ⊢
    simp (disch := omega) only [gd_lim]
    simpa [L2.atI, L2.ixN] using ho
  by_cases w0 : a % 6 = 0
  · refine ⟨cut xs none (some at_) ++ cut xs (some (at_ + 1)) none, runD_of (go _ ?_), by rw [List.length_append]; omega⟩
    simp [w0, cut_map]
    repeat (simp (disch := omega) only [gd_lim]; simp)
  · by_cases w1 : a % 6 = 1
    · refine ⟨cut xs none (some at_) ++ [odd] ++ cut xs (some at_) none, runD_of (go _ ?_), by rw [List.length_append, List.length_append, List.length_singleton]; omega⟩
      simp [w1, cut_map]
      repeat (simp (disch := omega) only [gd_lim]; simp)
    · by_cases w2 : a % 6 < 4
      · refine ⟨cut xs none (some at_) ++ [odd] ++ cut xs (some (at_ + 1)) none, runD_of (go _ ?_), by rw [List.length_append, List.length_append, List.length_singleton]; omega⟩
        simp [w0, w1, w2, cut_map]
        repeat (simp (disch := omega) only [gd_lim]; simp)
      · by_cases w3 : a % 6 = 4
        · refine ⟨xs.reverse, runD_of (go _ ?_), by simp⟩
          simp [w3]
        · have c6 := cut_length xs (some (if at_ - 1 > 0 then at_ - 1 else 0)) none
          have c7 := cut_hi xs (if at_ - 1 > 0 then at_ - 1 else 0) (by split <;> omega)
          refine ⟨cut xs none (some at_) ++ cut xs (some (if at_ - 1 > 0 then at_ - 1 else 0)) none, runD_of (go _ ?_), ?_⟩
          · simp [w0, w1, w2, w3, cut_map] at c6 ⊢
            repeat (simp (disch := omega) only [gd_lim]; simp)
          · rw [List.length_append]
            split at c7 <;> split <;> omega
end Pu

set_option maxHeartbeats 4000000
/-! Plain laws: a body's end by what is wanted of it. -/
namespace Pu
open PySem Ce Cs
/-- the body ends, as Q wants it -/
def Wp (Φ : Fns) (n : Nat) (b : Sms) (ρ : Rho) (Q : Res → Prop) : Prop := ∃ r, exSs Φ n b ρ = some r ∧ Q r
section
variable {Φ : Fns} {n : Nat} {ρ ρ1 : Rho} {r a b : Sms} {Q : Res → Prop} {d : PyData}
theorem wp_run {k : Nat} {body : Sms} {ds : List PyData} (h : Wp Φ n body (startR k ds) fun r => r = .rt d) : runD Φ n k body ds = some d := by
  obtain ⟨r, h1, rfl⟩ := h
  exact runD_of h1
theorem wp_run' {k : Nat} {body : Sms} {ds : List PyData} {P : PyData → Prop} (h : Wp Φ n body (startR k ds) fun r => ∃ d, r = .rt d ∧ P d) : ∃ d, runD Φ n k body ds = some d ∧ P d := by
  obtain ⟨r, h1, d, rfl, h2⟩ := h
  exact ⟨d, runD_of h1, h2⟩
theorem wp_of (h : exSs Φ n b ρ = some (.rt d)) (q : Q (.rt d)) : Wp Φ n b ρ Q := ⟨_, h, q⟩
theorem wp_nil (h : Q (.nx ρ)) : Wp Φ n .nil ρ Q := ⟨_, rfl, h⟩
theorem wp_mono {Q' : Res → Prop} (h : Wp Φ n b ρ Q') (k : ∀ r, Q' r → Q r) : Wp Φ n b ρ Q := by
  obtain ⟨x, h1, h2⟩ := h
  exact ⟨x, h1, k x h2⟩
theorem wp_step {s : Sm} (h : exS Φ n s ρ = some (.nx ρ1)) (k : Wp Φ n r ρ1 Q) : Wp Φ n (.cons s r) ρ Q := by
  obtain ⟨x, h1, h2⟩ := k
  exact ⟨x, by simp only [exSs, h, Option.bind_some]; exact h1, h2⟩
theorem wp_set {i : Nat} {e : Ex} (he : ev Φ e ρ false = some d) (hi : i < ρ.length) (k : Wp Φ n r (ρ.set i (.fz d)) Q) : Wp Φ n (.cons (.asg (.nm i) e) r) ρ Q :=
  wp_step (by simp [he, hi]) k
theorem wp_asg {t : Tg} {e : Ex} (he : ev Φ e ρ false = some d) (hb : bindT t d ρ = some ρ1) (k : Wp Φ n r ρ1 Q) : Wp Φ n (.cons (.asg t e) r) ρ Q :=
  wp_step (by simp [he, hb]) k
theorem wp_own {i : Nat} {e : Ex} (he : ev Φ e ρ false = some d) (hm : isMut d = true) (hi : i < ρ.length) (k : Wp Φ n r (ρ.set i (.ow d)) Q) : Wp Φ n (.cons (.own i e) r) ρ Q :=
  wp_step (by simp only [exS, he, Option.bind_some, hm, hi, and_self, if_true]) k
theorem wp_app {i : Nat} {e : Ex} {ds : List PyData} (he : ev Φ e ρ false = some d) (hx : ρ[i]? = some (.ow (.list ds))) (hl : ds.length < 1000000) (k : Wp Φ n r (ρ.set i (.ow (.list (ds ++ [d])))) Q) : Wp Φ n (.cons (.app i e) r) ρ Q :=
  wp_step (by simp only [exS, he, Option.bind_some, hx]; exact gd_llim hl) k
theorem wp_ret {e : Ex} (he : ev Φ e ρ false = some d) (q : Q (.rt d)) : Wp Φ n (.cons (.ret e) r) ρ Q := ⟨.rt d, by simp [he], q⟩
theorem wp_ifF {c : Ex} (hc : tst Φ c ρ = some false) (k : Wp Φ n r ρ Q) : Wp Φ n (.cons (.ife c a .nil) r) ρ Q :=
  wp_step (by simp only [exS, hc, Option.bind_some, Bool.false_eq_true, if_false, exSs]) k
theorem wp_if {c : Ex} {t : Bool} (hc : tst Φ c ρ = some t) (h1 : t = true → Wp Φ n a ρ fun x => match x with | .nx ρ' => Wp Φ n r ρ' Q | x => Q x) (h2 : t = false → Wp Φ n b ρ fun x => match x with | .nx ρ' => Wp Φ n r ρ' Q | x => Q x) : Wp Φ n (.cons (.ife c a b) r) ρ Q := by
  have fin : ∀ {z : Sms}, (Wp Φ n z ρ fun x => match x with | .nx ρ' => Wp Φ n r ρ' Q | x => Q x) → exS Φ n (.ife c a b) ρ = exSs Φ n z ρ → Wp Φ n (.cons (.ife c a b) r) ρ Q := fun {z} hz e => by
    obtain ⟨x, q1, q2⟩ := hz
    cases x with
    | nx ρ' => exact wp_step (by rw [e, q1]) q2
    | rt d => exact ⟨.rt d, by simp only [exSs, e, q1, Option.bind_some], q2⟩
    | ct ρ' => exact ⟨.ct ρ', by simp only [exSs, e, q1, Option.bind_some], q2⟩
    | bk ρ' => exact ⟨.bk ρ', by simp only [exSs, e, q1, Option.bind_some], q2⟩
  cases t with
  | true => exact fin (h1 rfl) (by simp only [exS, hc, Option.bind_some, if_true])
  | false => exact fin (h2 rfl) (by simp only [exS, hc, Option.bind_some, Bool.false_eq_true, if_false])
/-- a loop, its invariant by the number of turns; a turn may end the whole by x with Q x -/
theorem wp_forN {α : Type} {enc : α → PyData} {xs : List α} {t : Tg} {i : Ce.It} (I : Nat → Rho → Prop) (hi : itms Φ i ρ false = some (xs.map enc)) (h0 : I 0 ρ)
    (h : ∀ j x ρ, xs[j]? = some x → I j ρ → ∃ ρ1, bindT t (enc x) ρ = some ρ1 ∧ Wp Φ n b ρ1 fun z => match z with | .nx ρ2 => I (j + 1) ρ2 | .ct ρ2 => I (j + 1) ρ2 | .rt d => Q (.rt d) | .bk ρ2 => Wp Φ n r ρ2 Q)
    (k : ∀ ρ', I xs.length ρ' → Wp Φ n r ρ' Q) : Wp Φ n (.cons (.for t i b) r) ρ Q := by
  have main : ∀ (l : List α) (j : Nat) (ρ : Rho), (∀ m x, l[m]? = some x → xs[j + m]? = some x) → j + l.length = xs.length → I j ρ → ∃ z, forF (fun d ρ' => (bindT t d ρ').bind (exSs Φ n b)) (l.map enc) ρ = some z ∧ match z with | .nx ρ2 => Wp Φ n r ρ2 Q | z => Q z := by
    intro l
    induction l with
    | nil =>
      intro j ρ _ hl hI
      simp at hl
      subst hl
      exact ⟨.nx ρ, rfl, k ρ hI⟩
    | cons x l ih =>
      intro j ρ hm hl hI
      obtain ⟨ρ1, q1, z, q2, q3⟩ := h j x ρ (by simpa using hm 0 x rfl) hI
      have e : forF (fun d ρ' => (bindT t d ρ').bind (exSs Φ n b)) ((x :: l).map enc) ρ = (some z).bind fun r => match r with
        | .nx ρ' => forF (fun d ρ' => (bindT t d ρ').bind (exSs Φ n b)) (l.map enc) ρ'
        | .ct ρ' => forF (fun d ρ' => (bindT t d ρ').bind (exSs Φ n b)) (l.map enc) ρ'
        | .bk ρ' => some (.nx ρ')
        | .rt d => some (.rt d) := by
        rw [List.map_cons, forF, q1, Option.bind_some, q2] <;> (cases z <;> rfl)
      rw [e]
      have hm' : ∀ m y, l[m]? = some y → xs[j + 1 + m]? = some y := fun m y hy => by
        have := hm (m + 1) y (by simpa using hy)
        rw [show j + 1 + m = j + (m + 1) by omega]
        exact this
      have hl' : j + 1 + l.length = xs.length := by rw [List.length_cons] at hl; omega
      cases z with
      | nx ρ2 => exact ih (j + 1) ρ2 hm' hl' q3
      | ct ρ2 => exact ih (j + 1) ρ2 hm' hl' q3
      | bk ρ2 => exact ⟨.nx ρ2, rfl, q3⟩
      | rt d => exact ⟨.rt d, rfl, q3⟩
  obtain ⟨z, q1, q2⟩ := main xs 0 ρ (fun m x hx => by rw [Nat.zero_add]; exact hx) (Nat.zero_add _) h0
  have e : exS Φ n (.for t i b) ρ = some z := by simp only [exS, hi, Option.bind_some, q1]
  cases z with
  | nx ρ2 => exact wp_step e q2
  | rt d => exact ⟨.rt d, by simp only [exSs, e, Option.bind_some], q2⟩
  | ct ρ2 => exact ⟨.ct ρ2, by simp only [exSs, e, Option.bind_some], q2⟩
  | bk ρ2 => exact ⟨.bk ρ2, by simp only [exSs, e, Option.bind_some], q2⟩
/-- .. whatever came ahead -/
theorem wp_for {α : Type} {enc : α → PyData} {xs : List α} {t : Tg} {i : Ce.It} (I : Rho → Prop) (hi : itms Φ i ρ false = some (xs.map enc)) (h0 : I ρ)
    (h : ∀ x ∈ xs, ∀ ρ, I ρ → ∃ ρ1, bindT t (enc x) ρ = some ρ1 ∧ Wp Φ n b ρ1 fun z => match z with | .nx ρ2 => I ρ2 | .ct ρ2 => I ρ2 | .rt d => Q (.rt d) | .bk ρ2 => Wp Φ n r ρ2 Q)
    (k : ∀ ρ', I ρ' → Wp Φ n r ρ' Q) : Wp Φ n (.cons (.for t i b) r) ρ Q :=
  wp_forN (enc := enc) (xs := xs) (fun _ => I) hi h0 (fun j x ρ hx hI => h x (List.mem_of_getElem? hx) ρ hI) k
/-- over numbers -/
theorem wp_forI {xs : List Int} {j0 : Nat} {i : Ce.It} (I : Rho → Prop) (hi : itms Φ i ρ false = some (xs.map .int)) (h0 : I ρ) (hl : ∀ ρ, I ρ → j0 < ρ.length)
    (h : ∀ x ∈ xs, ∀ ρ, I ρ → Wp Φ n b (ρ.set j0 (.fz (.int x))) fun z => match z with | .nx ρ2 => I ρ2 | .ct ρ2 => I ρ2 | .rt d => Q (.rt d) | .bk ρ2 => Wp Φ n r ρ2 Q)
    (k : ∀ ρ', I ρ' → Wp Φ n r ρ' Q) : Wp Φ n (.cons (.for (.nm j0) i b) r) ρ Q :=
  wp_for (enc := PyData.int) (xs := xs) I hi h0 (fun x hx ρ hI => ⟨_, by simp [hl ρ hI], h x hx ρ hI⟩) k
theorem wp_forT {xs : List (List Int)} {j0 : Nat} {i : Ce.It} (I : Rho → Prop) (hi : itms Φ i ρ false = some (xs.map eT)) (h0 : I ρ) (hl : ∀ ρ, I ρ → j0 < ρ.length)
    (h : ∀ x ∈ xs, ∀ ρ, I ρ → Wp Φ n b (ρ.set j0 (.fz (eT x))) fun z => match z with | .nx ρ2 => I ρ2 | .ct ρ2 => I ρ2 | .rt d => Q (.rt d) | .bk ρ2 => Wp Φ n r ρ2 Q)
    (k : ∀ ρ', I ρ' → Wp Φ n r ρ' Q) : Wp Φ n (.cons (.for (.nm j0) i b) r) ρ Q :=
  wp_for (enc := eT) (xs := xs) I hi h0 (fun x hx ρ hI => ⟨_, by simp [hl ρ hI], h x hx ρ hI⟩) k
end
end Pu

set_option maxHeartbeats 4000000
/-! More rules for bodies; lists without repeats. -/
namespace Pu
open PySem Ce Cs
variable {Φ : Fns} {n : Nat} {ρ : Rho} {Q : Res → Prop}
theorem wp_frz {is : List Nat} {s : Sm} {r : Sms} (h : Wp Φ n (.cons s r) (frzR ρ is) Q) : Wp Φ n (.cons (.frz is s) r) ρ Q := by
  obtain ⟨z, hz, q⟩ := h
  refine ⟨z, ?_, q⟩
  rw [exSs_e1] at hz ⊢
  rw [exS_e8]
  exact hz
/-- a statement, then the rest, from what it leaves -/
theorem wp_mid {s : Sm} {r : Sms} (M : Rho → Prop) (h : Wp Φ n (.cons s .nil) ρ fun z => ∃ ρ', z = .nx ρ' ∧ M ρ') (k : ∀ ρ', M ρ' → Wp Φ n r ρ' Q) : Wp Φ n (.cons s r) ρ Q := by
  obtain ⟨z, hz, ρ', rfl, hM⟩ := h
  obtain ⟨y, hy, q⟩ := k ρ' hM
  refine ⟨y, ?_, q⟩
  rw [exSs_e1] at hz ⊢
  cases hs : exS Φ n s ρ with
  | none => rw [hs] at hz; cases hz
  | some x =>
    rw [hs] at hz
    cases x with
    | nx ρ2 =>
      simp only [Option.bind_some, exSs_e0] at hz
      cases hz
      simpa using hy
    | rt d => cases hz
    | ct d => cases hz
    | bk d => cases hz
theorem index_any {α : Type} {f : α → PyData} {xs : List α} {i : Int} (h0 : 0 ≤ i) (h1 : i < xs.length) : ∃ x ∈ xs, L2.atI (xs.map f) i = some (f x) := by
  have hl : i.toNat < xs.length := by omega
  refine ⟨xs[i.toNat], List.getElem_mem hl, ?_⟩
  rw [index_M (d := xs[i.toNat]) h0 h1]
  simp [List.getD, List.getElem?_eq_getElem hl]
@[simp] theorem atI_0 {α : Type} (a : α) (l : List α) : L2.atI (a :: l) 0 = some a := by
  rw [atI_of (Int.le_refl 0) (by simp)]
  rfl
@[simp] theorem atI_1 {α : Type} (a b : α) (l : List α) : L2.atI (a :: b :: l) 1 = some b := by
  rw [atI_of (by omega) (by simp only [List.length_cons]; omega)]
  rfl
@[simp] theorem atI_2 {α : Type} (a b c : α) (l : List α) : L2.atI (a :: b :: c :: l) 2 = some c := by
  rw [atI_of (by omega) (by simp only [List.length_cons]; omega)]
  rfl
@[simp] theorem atI_3 {α : Type} (a b c d : α) (l : List α) : L2.atI (a :: b :: c :: d :: l) 3 = some d := by
  rw [atI_of (by omega) (by simp only [List.length_cons]; omega)]
  rfl
theorem index_last {xs : List Int} (h : 0 < xs.length) : L2.atI (xs.map PyData.int) (-1) = some (.int (nth xs (xs.length - 1 : Nat))) := by
  unfold L2.atI L2.ixN
  rw [if_neg (by omega), if_pos (by simp; omega)]
  have e : ((-1 : Int) + ((xs.map PyData.int).length : Int)).toNat = xs.length - 1 := by simp; omega
  rw [e]
  have hl : xs.length - 1 < xs.length := by omega
  simp [nth, List.getD, List.getElem?_eq_getElem hl]
theorem cut_take {α : Type} {xs : List α} {i : Nat} (h : i ≤ xs.length) : cut xs none (some (i : Int)) = xs.take i := by
  unfold cut
  rw [HT.sIx_none, HT.sIx_nat, List.drop_zero, Nat.sub_zero, Nat.min_eq_left h]
theorem enumd_ints (xs : List Int) : enumd (xs.map PyData.int) = (ivs 0 xs.length).map fun i => .tuple [.int i, .int (nth xs i)] := by
  refine List.ext_getElem ?_ fun i h1 h2 => ?_
  · simp [enumd, ivs_length]
  · have hi : i < xs.length := by simpa [enumd] using h1
    simp [enumd, ivs, nth, List.getD, List.getElem?_eq_getElem hi]
theorem setd_ints {xs : List Int} (h : xs.length < 64) : setd? (xs.map PyData.int) = some ((setI xs).map .int) := by
  unfold setd?
  rw [gd_pos (by simpa using h), ints_of]
theorem setI_length_le (xs : List Int) : (setI xs).length ≤ xs.length := by
  unfold setI
  rw [List.length_mergeSort]
  exact Cs.nub_len xs
theorem setI_nodup {xs : List Int} (h : xs.Nodup) : (setI xs).length = xs.length := by
  unfold setI
  rw [List.length_mergeSort]
  exact (Cs.perm_of (Cs.nodup_nub xs) h fun x => Cs.mem_nub).length_eq
theorem ivs_get' {n : Nat} {j : Nat} {x : Int} (h : (ivs 0 n)[j]? = some x) : x = j ∧ j < n := ivs_get h
theorem filter_one {α : Type} {xs : List α} {p : α → Bool} {x : α} (nd : xs.Nodup) (hx : x ∈ xs) (hp : p x = true) (u : ∀ y ∈ xs, p y = true → y = x) : xs.filter p = [x] := by
  have h : (xs.filter p).Perm [x] := by
    refine (List.perm_ext_iff_of_nodup (nd.filter _) (by simp)).mpr fun y => ?_
    rw [List.mem_filter, List.mem_singleton]
    exact ⟨fun h => u y h.1 h.2, fun e => e ▸ ⟨hx, hp⟩⟩
  exact List.perm_singleton.mp h
theorem asc_ext {xs ys : List Int} (hx : Asc xs) (hy : Asc ys) (h : ∀ z, z ∈ xs ↔ z ∈ ys) : xs = ys := by
  rw [← Cs.setI_of (ns := ys) hx h]
  exact Cs.setI_of hy fun _ => Iff.rfl
theorem mem_setI {ns : List Int} {x : Int} : x ∈ setI ns ↔ x ∈ ns := by
  unfold setI
  rw [List.mem_mergeSort, Cs.mem_nub]
end Pu

set_option maxHeartbeats 4000000
/-! Tables of marks, in plain Lean; small helpers of every law. -/
noncomputable section
namespace LawX
open PySem Ce Cs Pu
abbrev Ws : Nat := 100000
def nthR (rows : List (List Int)) (i : Int) : List Int := rows.getD i.toNat []
abbrev eR (rows : List (List Int)) : PyData := .tuple (rows.map eT)
theorem index_R {rows : List (List Int)} {i : Int} (h0 : 0 ≤ i) (h1 : i < rows.length) : L2.atI (rows.map eT) i = some (eT (nthR rows i)) := index_M h0 h1
theorem nthR_mem {rows : List (List Int)} {i : Int} (h0 : 0 ≤ i) (h1 : i < rows.length) : nthR rows i ∈ rows := by
  have hl : i.toNat < rows.length := by omega
  simp [nthR, List.getD, List.getElem?_eq_getElem hl]
theorem dd {k n : Nat} (h : k + 1 ≤ n) : ∃ m, n = m + 1 ∧ k ≤ m := ⟨n - 1, by omega, by omega⟩
def Short (rows : List (List Int)) : Prop := rows.length ≤ 1000 ∧ ∀ r ∈ rows, r.length ≤ 1000

def isTable (m : Int) (rows : List (List Int)) : Bool := decide (0 ≤ m) && rows.all fun r => isSetB m r
def common (m : Int) (rows : List (List Int)) (things : List Int) : List Int := (ivs 0 m).filter fun k => things.all fun t => decide (k ∈ nthR rows t)
def In (n : Int) (xs : List Int) : Prop := ∀ x ∈ xs, 0 ≤ x ∧ x < n
theorem enumd_map (rows : List (List Int)) : enumd (rows.map eT) = (ivs 0 rows.length).map fun i => .tuple [.int i, eT (nthR rows i)] := by
  refine List.ext_getElem ?_ fun i h1 h2 => ?_
  · simp [enumd, ivs_length]
  · have hi : i < rows.length := by simpa [enumd] using h1
    simp [enumd, ivs, nthR, List.getD, List.getElem?_eq_getElem hi]
def bearers (rows : List (List Int)) (marks : List Int) : List Int := (ivs 0 rows.length).filter fun t => within marks (nthR rows t)
theorem bearers_in (rows : List (List Int)) (marks : List Int) : In rows.length (bearers rows marks) := fun x hx => mem_ivs.mp (List.mem_filter.mp hx).1
theorem common_in (m : Int) (rows : List (List Int)) (things : List Int) : In m (common m rows things) := fun x hx => mem_ivs.mp (List.mem_filter.mp hx).1
def closure (m : Int) (rows : List (List Int)) (marks : List Int) : List Int := common m rows (bearers rows marks)
/-! ### plain -/
theorem tst_nc {Φ : Fns} {ρ : Rho} {f : Nat} {es : Exs} {ds : List PyData} (h1 : evs Φ es ρ = some ds) (h2 : Φ f ds = some (.bool true)) : tst Φ (.not (.call f es)) ρ = some false := by
  simp [h1, h2]
theorem all_and {α : Type} (p q : α → Bool) (r : List α) : (r.all fun x => p x && q x) = (r.all p && r.all q) := by
  induction r with
  | nil => rfl
  | cons x r ih =>
    simp only [List.all_cons, ih]
    cases p x <;> cases q x <;> simp
theorem nth_get {xs : List Int} {i : Nat} (h : i < xs.length) : nth xs i = xs[i] := by
  simp [nth, List.getD, List.getElem?_eq_getElem h]
theorem rising_asc {xs : List Int} (h : Asc xs) : rising xs = true := by
  unfold rising
  rw [List.all_eq_true]
  intro k hk
  have hk' := mem_ivs.mp hk
  rw [decide_eq_true_eq]
  obtain ⟨i, rfl⟩ : ∃ i : Nat, k = i := ⟨k.toNat, by omega⟩
  have h1 : i < xs.length := by omega
  have h2 : i + 1 < xs.length := by omega
  have e : ((i : Int) + 1) = ((i + 1 : Nat) : Int) := by omega
  rw [e, nth_get h1, nth_get h2]
  exact List.pairwise_iff_getElem.mp h i (i + 1) h1 h2 (by omega)
theorem ivs_asc (n : Int) : Asc (ivs 0 n) := by
  unfold ivs Asc
  rw [List.pairwise_map]
  refine List.Pairwise.imp ?_ (List.pairwise_lt_range)
  intro a b h
  omega
theorem lawSet_asc (z n : Int) : Asc (lawSet z n) := List.Pairwise.filter _ (ivs_asc n)
theorem isSetB_of {n : Int} {xs : List Int} (h : Asc xs) (hb : In n xs) : isSetB n xs = true := by
  unfold isSetB isSet
  rw [rising_asc h]
  simp only [Bool.true_and, Bool.and_eq_true, List.all_eq_true, decide_eq_true_eq]
  exact ⟨fun x hx => (hb x hx).1, fun x hx => (hb x hx).2⟩
theorem within_iff {xs ys : List Int} : within xs ys = true ↔ ∀ x ∈ xs, x ∈ ys := by
  simp [within]
theorem mem_common {m : Int} {rows : List (List Int)} {things : List Int} {x : Int} : x ∈ common m rows things ↔ (0 ≤ x ∧ x < m) ∧ ∀ t ∈ things, x ∈ nthR rows t := by
  simp [common, mem_ivs]
theorem mem_bearers {rows : List (List Int)} {marks : List Int} {t : Int} : t ∈ bearers rows marks ↔ (0 ≤ t ∧ t < rows.length) ∧ ∀ x ∈ marks, x ∈ nthR rows t := by
  simp [bearers, mem_ivs, within_iff]
/-- the closure has the marks -/
theorem closure_has {m : Int} {rows : List (List Int)} {marks : List Int} (h : In m marks) : within marks (closure m rows marks) = true := by
  rw [within_iff]
  intro x hx
  exact mem_common.mpr ⟨h x hx, fun t ht => (mem_bearers.mp ht).2 x hx⟩
theorem bearers_closure {m : Int} {rows : List (List Int)} {marks : List Int} (h : In m marks) : bearers rows (closure m rows marks) = bearers rows marks := by
  unfold bearers
  refine List.filter_congr fun t ht => ?_
  have hb := mem_ivs.mp ht
  rw [Bool.eq_iff_iff, within_iff, within_iff]
  constructor
  · intro q x hx
    exact q x (within_iff.mp (closure_has h) x hx)
  · intro q x hx
    exact (mem_common.mp hx).2 t (mem_bearers.mpr ⟨hb, q⟩)
/-- .. and is closed -/
theorem closure_twice {m : Int} {rows : List (List Int)} {marks : List Int} (h : In m marks) : closure m rows (closure m rows marks) = closure m rows marks := by
  show common m rows (bearers rows (closure m rows marks)) = _
  rw [bearers_closure h]
  rfl
theorem bearers_anti {rows : List (List Int)} {fewer marks : List Int} (h : within fewer marks = true) : within (bearers rows marks) (bearers rows fewer) = true := by
  rw [within_iff] at h ⊢
  intro t ht
  obtain ⟨h1, h2⟩ := mem_bearers.mp ht
  exact mem_bearers.mpr ⟨h1, fun x hx => h2 x (h x hx)⟩
theorem cut_mem {α : Type} {xs : List α} {lo hi : Option Int} {x : α} (h : x ∈ cut xs lo hi) : x ∈ xs := List.mem_of_mem_drop (List.mem_of_mem_take h)
theorem cut3 {xs : List Int} {a : Int} (h0 : 0 ≤ a) (h1 : a + 3 ≤ xs.length) : cut xs (some a) (some (a + 3)) = [nth xs a, nth xs (a + 1), nth xs (a + 2)] := by
  obtain ⟨i, rfl⟩ : ∃ i : Nat, a = i := ⟨a.toNat, by omega⟩
  have e1 : HT.sIx xs.length 0 (some (i : Int)) = i := by rw [HT.sIx_nat]; omega
  have e2 : HT.sIx xs.length xs.length (some ((i : Int) + 3)) = i + 3 := by
    have : ((i : Int) + 3) = ((i + 3 : Nat) : Int) := by omega
    rw [this, HT.sIx_nat]; omega
  unfold cut
  rw [e1, e2, show i + 3 - i = 3 by omega]
  have l1 : i < xs.length := by omega
  have l2 : i + 1 < xs.length := by omega
  have l3 : i + 2 < xs.length := by omega
  have f1 : ((i : Int) + 1) = ((i + 1 : Nat) : Int) := by omega
  have f2 : ((i : Int) + 2) = ((i + 2 : Nat) : Int) := by omega
  rw [f1, f2, nth_get l1, nth_get l2, nth_get l3]
  rw [List.drop_eq_getElem_cons l1, List.take_succ_cons, List.drop_eq_getElem_cons l2, List.take_succ_cons, List.drop_eq_getElem_cons l3, List.take_succ_cons, List.take_zero]
theorem in_length {n : Nat} {xs : List Int} (h : xs ∈ sets n) : xs.length ≤ n ∧ In n xs := by
  obtain ⟨h1, h2⟩ := sets_mem.mp h
  exact ⟨asc_length h1 h2, h2⟩
theorem filter_le {p : Int → Bool} {n : Int} {k : Nat} (h : n ≤ k) : ((ivs 0 n).filter p).length ≤ k := by
  have := List.length_filter_le p (ivs 0 n)
  rw [ivs_length] at this
  omega

theorem nth_drawn {ds : List Int} (h : Drawn ds) {i : Int} (h0 : 0 ≤ i) (h1 : i < ds.length) : 0 ≤ nth ds i ∧ nth ds i < 5040 := h _ (nth_mem h0 h1)
theorem pick6 (a b c d e f : Int) {i : Int} (h0 : 0 ≤ i) (h1 : i < 6) : L2.atI [PyData.int a, .int b, .int c, .int d, .int e, .int f] i = some (.int (nth [a, b, c, d, e, f] i)) := index_T (xs := [a, b, c, d, e, f]) h0 (by simpa using h1)
theorem in6 {a b c d e f : Int} {i : Int} {P : Int → Prop} (h : P a ∧ P b ∧ P c ∧ P d ∧ P e ∧ P f) (h0 : 0 ≤ i) (h1 : i < 6) : P (nth [a, b, c, d, e, f] i) := by
  obtain ⟨ha, hb, hc, hd, he, hf⟩ := h
  have : i = 0 ∨ i = 1 ∨ i = 2 ∨ i = 3 ∨ i = 4 ∨ i = 5 := by omega
  rcases this with rfl | rfl | rfl | rfl | rfl | rfl <;> assumption
end LawX

set_option maxHeartbeats 4000000
/-! Typed functions beside the core language: rules that step through both. -/
noncomputable section
namespace Sh
open PySem Ce Cs Pu

/-! ### types -/
abbrev tI : Int → PyData := PyData.int
abbrev tB : Bool → PyData := PyData.bool
/-- strings as rows of signs -/
abbrev Ch := Fin 1114112
abbrev Tx := List Ch
def toS (s : Tx) : Str := ⟨(s.map Fin.val).toArray⟩
abbrev tS : Tx → PyData := fun s => .str (toS s)
theorem toS_inj {s t : Tx} : toS s = toS t ↔ s = t := by
  refine ⟨fun h => ?_, fun h => by rw [h]⟩
  have h1 := congrArg (fun z => z.cps.toList) h
  simp only [toS] at h1
  have : ∀ a b : Tx, a.map Fin.val = b.map Fin.val → a = b := by
    intro a
    induction a with
    | nil => intro b e; cases b with
      | nil => rfl
      | cons => cases e
    | cons x a ih => intro b e; cases b with
      | nil => cases e
      | cons y b =>
        rw [List.map_cons, List.map_cons] at e
        injection e with e1 e2
        rw [ih b e2, Fin.ext e1]
  exact this s t h1
theorem toS_app (s t : Tx) : toS s ++ toS t = toS (s ++ t) := by
  show Str.append (toS s) (toS t) = _
  unfold Str.append toS
  simp
theorem toS_len (s : Tx) : (toS s).length = s.length := by
  unfold toS Str.length
  simp
theorem toS_list (s : Tx) : (toS s).cps.toList = s.map Fin.val := by
  unfold toS; simp
theorem toS_ok (s : Tx) : PyData.strOk (toS s) = true := by
  unfold PyData.strOk toS
  rw [List.all_toArray]
  rw [List.all_eq_true]
  intro x hx
  obtain ⟨c, _, rfl⟩ := List.mem_map.mp hx
  exact decide_eq_true c.isLt
abbrev tN : Unit → PyData := fun _ => PyData.none
abbrev tT {α : Type} (e : α → PyData) : List α → PyData := fun xs => .tuple (xs.map e)
abbrev tL {α : Type} (e : α → PyData) : List α → PyData := fun xs => .list (xs.map e)
@[reducible] def tO {α : Type} (e : α → PyData) : Option α → PyData
  | none => .none
  | some a => e a
abbrev tP2 {α β : Type} (e1 : α → PyData) (e2 : β → PyData) : α × β → PyData := fun p => .tuple [e1 p.1, e2 p.2]
abbrev tP3 {α β γ : Type} (e1 : α → PyData) (e2 : β → PyData) (e3 : γ → PyData) : α × β × γ → PyData := fun p => .tuple [e1 p.1, e2 p.2.1, e3 p.2.2]
abbrev tP4 {α β γ δ : Type} (e1 : α → PyData) (e2 : β → PyData) (e3 : γ → PyData) (e4 : δ → PyData) : α × β × γ × δ → PyData := fun p => .tuple [e1 p.1, e2 p.2.1, e3 p.2.2.1, e4 p.2.2.2]
abbrev tP5 {α β γ δ ε : Type} (e1 : α → PyData) (e2 : β → PyData) (e3 : γ → PyData) (e4 : δ → PyData) (e5 : ε → PyData) : α × β × γ × δ × ε → PyData := fun p => .tuple [e1 p.1, e2 p.2.1, e3 p.2.2.1, e4 p.2.2.2.1, e5 p.2.2.2.2]

/-! ### plain operations -/
def letv {α : Sort u} {β : Sort v} (v : α) (k : α → β) : β := k v
/-- xs[i] -/
def gi {α : Type} [Inhabited α] (xs : List α) (i : Int) : α := if 0 ≤ i then xs.getD i.toNat default else xs.getD (xs.length + i).toNat default
def gOk {α : Type} (xs : List α) (i : Int) : Prop := -(xs.length : Int) ≤ i ∧ i < xs.length
def rOk (a b : Int) : Prop := -1000000 ≤ a ∧ a ≤ 1000000 ∧ -1000000 ≤ b ∧ b ≤ 1000000
/-- enumerate -/
def enm {α : Type} (xs : List α) : List (Int × α) := xs.mapIdx fun i x => ((i : Int), x)
/-- the value of an optional that is there -/
def ov {α : Type} [Inhabited α] (x : Option α) : α := x.getD default
instance {α β : Type} [LT α] [LT β] : LT (α × β) := ⟨Prod.lexLt⟩
instance {α β : Type} [LT α] [LT β] [DecidableEq α] [DecidableLT α] [DecidableLT β] : DecidableLT (α × β) := fun a b => inferInstanceAs (Decidable (a.1 < b.1 ∨ (a.1 = b.1 ∧ a.2 < b.2)))
/-- sorted -/
def srt {α : Type} [LT α] [DecidableLT α] (xs : List α) : List α := xs.mergeSort fun a b => !decide (b < a)
inductive Ctl (S β : Type) where
  | nx (s : S) | bk (s : S) | rt (b : β)
def forL {α S β : Type} (step : S → α → Ctl S β) : List α → S → Ctl S β
  | [], s => .nx s
  | x :: xs, s => match step s x with
    | .nx s' => forL step xs s'
    | .bk s' => .bk s'
    | .rt b => .rt b
def goL {S β γ : Type} (c : Ctl S β) (kr : β → γ) (k : S → γ) : γ := match c with
  | .nx s => k s
  | .bk s => k s
  | .rt b => kr b
def goP {S β : Type} (c : Ctl S β) (k : S → Prop) : Prop := match c with
  | .nx s => k s
  | .bk s => k s
  | .rt _ => True
def okF {α S : Type} (step : S → α → S) (ok : S → α → Prop) : List α → S → Prop
  | [], _ => True
  | x :: xs, s => ok s x ∧ okF step ok xs (step s x)
def okL {α S β : Type} (step : S → α → Ctl S β) (ok : S → α → Prop) : List α → S → Prop
  | [], _ => True
  | x :: xs, s => ok s x ∧ match step s x with
    | .nx s' => okL step ok xs s'
    | _ => True
def whL {S β : Type} (c : S → Bool) (f : S → Ctl S β) : Nat → S → Ctl S β
  | 0, s => .nx s
  | n + 1, s => if c s = true then match f s with
      | .nx s' => whL c f n s'
      | .bk s' => .bk s'
      | .rt b => .rt b
    else .nx s
def okW {S β : Type} (c : S → Bool) (f : S → Ctl S β) (okc ok : S → Prop) : Nat → S → Prop
  | 0, _ => False
  | n + 1, s => okc s ∧ (c s = true → ok s ∧ match f s with
      | .nx s' => okW c f okc ok n s'
      | _ => True)

/-! ### slots that tell less -/
def Le (ρ ρ' : Rho) : Prop := ρ'.length = ρ.length ∧ ∀ (i : Nat) (s : Sl), ρ[i]? = some s → s = Sl.un ∨ ρ'[i]? = some s
theorem Le.refl (ρ : Rho) : Le ρ ρ := ⟨rfl, fun _ _ h => .inr h⟩
theorem Le.trans {a b c : Rho} (h : Le a b) (k : Le b c) : Le a c := ⟨k.1.trans h.1, fun i s e => by
  rcases h.2 i s e with z | z
  · exact .inl z
  · exact k.2 i s z⟩
theorem Le.nil : Le [] [] := Le.refl _
theorem Le.same {s : Sl} {a b : Rho} (h : Le a b) : Le (s :: a) (s :: b) := ⟨by simp [h.1], fun i t e => by
  cases i with
  | zero => exact .inr (by simpa using e)
  | succ i => exact h.2 i t (by simpa using e)⟩
theorem Le.un {s : Sl} {a b : Rho} (h : Le a b) : Le (.un :: a) (s :: b) := ⟨by simp [h.1], fun i t e => by
  cases i with
  | zero => left; simpa using e.symm
  | succ i => exact h.2 i t (by simpa using e)⟩
theorem Le.set {a b : Rho} (h : Le a b) (i : Nat) (s : Sl) : Le (a.set i s) (b.set i s) := ⟨by simp [h.1], fun j t e => by
  by_cases hij : i = j
  · subst hij
    by_cases hl : i < a.length
    · rw [List.getElem?_set_self hl] at e
      right
      rw [List.getElem?_set_self (by rw [h.1]; exact hl)]
      exact e
    · rw [List.getElem?_eq_none (by simpa using hl)] at e; cases e
  · rw [List.getElem?_set_ne hij] at e ⊢
    exact h.2 j t e⟩
theorem Le.wipe {a b : Rho} (h : Le a b) : ∀ vs, Le (wipeR a vs) (wipeR b vs)
  | [] => h
  | v :: vs => (Le.wipe h vs).set v .un
theorem Le.frz : ∀ (is : List Nat) {a b : Rho}, Le a b → Le (frzR a is) (frzR b is)
  | [], _, _, h => h
  | i :: is, a, b, h => by
    unfold frzR
    apply Le.frz is
    cases e : a[i]? with
    | none =>
      have : b[i]? = none := by
        rw [List.getElem?_eq_none_iff] at e ⊢
        rw [h.1]; exact e
      rw [this]; exact h
    | some s =>
      rcases h.2 i s e with z | z
      · subst z
        show Le a _
        split
        · rename_i d hd
          refine ⟨by simp [h.1], fun j t q => ?_⟩
          by_cases hij : i = j
          · subst hij; rw [e] at q; cases q; exact .inl rfl
          · rw [List.getElem?_set_ne hij]; exact h.2 j t q
        · exact h
      · rw [z]
        cases s with
        | ow d => exact h.set i _
        | un => exact h
        | fz d => exact h
mutual
theorem bindT_le : ∀ (t : Tg) (d : PyData) {a b a1 : Rho}, Le a b → bindT t d a = some a1 → ∃ b1, bindT t d b = some b1 ∧ Le a1 b1
  | .nm i, d, a, b, a1, h, e => by
    rw [bindT] at e ⊢
    split at e
    · rename_i hi
      cases e
      rw [if_pos (show i < List.length b from by rw [h.1]; exact hi)]
      exact ⟨_, rfl, h.set i _⟩
    · cases e
  | .tp ts, d, a, b, a1, h, e => by
    cases d with
    | tuple ds => rw [bindT] at e ⊢; exact bindTs_le ts ds h e
    | _ => simp [bindT] at e
theorem bindTs_le : ∀ (t : Tgs) (d : List PyData) {a b a1 : Rho}, Le a b → bindTs t d a = some a1 → ∃ b1, bindTs t d b = some b1 ∧ Le a1 b1
  | .nil, d, a, b, a1, h, e => by
    cases d with
    | nil => rw [bindTs] at e ⊢; cases e; exact ⟨_, rfl, h⟩
    | cons => simp [bindTs] at e
  | .cons t ts, d, a, b, a1, h, e => by
    cases d with
    | nil => simp [bindTs] at e
    | cons d ds =>
      rw [bindTs, Option.bind_eq_some_iff] at e
      obtain ⟨a2, e1, e2⟩ := e
      obtain ⟨b2, k1, k2⟩ := bindT_le t d h e1
      obtain ⟨b3, k3, k4⟩ := bindTs_le ts ds k2 e2
      exact ⟨b3, by rw [bindTs, k1]; exact k3, k4⟩
end

/-! ### expressions -/
def EV (Φ : Fns) (ρ : Rho) (bor : Bool) (e : Ex) (d : PyData) : Prop := ∀ ρ', Le ρ ρ' → ev Φ e ρ' bor = some d
def EVs (Φ : Fns) (ρ : Rho) (es : Exs) (ds : List PyData) : Prop := ∀ ρ', Le ρ ρ' → evs Φ es ρ' = some ds
def EVo (Φ : Fns) (ρ : Rho) (e : Exo) (i : Option Int) : Prop := ∀ ρ', Le ρ ρ' → evo Φ e ρ' = some i
def IT (Φ : Fns) (ρ : Rho) (bor : Bool) (i : Ce.It) (ds : List PyData) : Prop := ∀ ρ', Le ρ ρ' → itms Φ i ρ' bor = some ds
def TS (Φ : Fns) (ρ : Rho) (e : Ex) (b : Bool) : Prop := ∀ ρ', Le ρ ρ' → tst Φ e ρ' = some b
section
variable {Φ : Fns} {ρ : Rho} {bor : Bool} {a b c : Ex} {dx dy dz d : PyData} {t t' : Bool}
theorem TS.of (h : EV Φ ρ true a d) (ht : truthy d = some t) : TS Φ ρ a t := fun ρ' l => by unfold tst; rw [h ρ' l]; exact ht
theorem TS.bl (h : EV Φ ρ true a (.bool t)) : TS Φ ρ a t := TS.of h rfl
theorem EV.var {i : Nat} (h : ρ[i]? = some (.fz d)) : EV Φ ρ bor (.var i) d := fun ρ' l => by
  rcases l.2 i _ h with z | z
  · cases z
  · rw [ev_e0, z]
theorem EV.vow {i : Nat} (h : ρ[i]? = some (.ow d)) : EV Φ ρ true (.var i) d := fun ρ' l => by
  rcases l.2 i _ h with z | z
  · cases z
  · rw [ev_e0, z]; rfl
theorem EV.int {n : Int} : EV Φ ρ bor (.int n) (.int n) := fun _ _ => by rw [ev_e1]
theorem EV.str {n : Str} {t : Tx} (h : toS t = n) : EV Φ ρ bor (.str n) (tS t) := fun _ _ => by rw [ev_e2]; subst h; rfl
theorem EV.bool {n : Bool} : EV Φ ρ bor (.bool n) (.bool n) := fun _ _ => by rw [ev_e3]
theorem EV.non : EV Φ ρ bor .non .none := fun _ _ => by rw [ev_e4]
theorem EVs.nil : EVs Φ ρ .nil [] := fun _ _ => by rw [evs_e0]
theorem EVs.cons {es : Exs} {ds : List PyData} (h : EV Φ ρ false a d) (hs : EVs Φ ρ es ds) : EVs Φ ρ (.cons a es) (d :: ds) := fun ρ' l => by rw [evs_e1, h ρ' l, hs ρ' l]; rfl
theorem EV.tup {es : Exs} {ds : List PyData} (h : EVs Φ ρ es ds) (hl : ds.length ≤ LIM) : EV Φ ρ bor (.tup es) (.tuple ds) := fun ρ' l => by rw [ev_e5, h ρ' l]; exact gd_pos hl
theorem EV.lst {es : Exs} {ds : List PyData} (h : EVs Φ ρ es ds) (hl : ds.length ≤ LIM) : EV Φ ρ bor (.lst es) (.list ds) := fun ρ' l => by rw [ev_e6, h ρ' l]; exact gd_pos hl
theorem EV.bin {op : Bop} (h1 : EV Φ ρ true a dx) (h2 : EV Φ ρ true b dy) (hc : binop op dx dy = some d) : EV Φ ρ bor (.bin op a b) d := fun ρ' l => by rw [ev_e7, h1 ρ' l, h2 ρ' l]; exact hc
theorem EV.add {x y : Int} (h1 : EV Φ ρ true a (.int x)) (h2 : EV Φ ρ true b (.int y)) : EV Φ ρ bor (.bin .add a b) (.int (x + y)) := EV.bin h1 h2 (by simp)
theorem EV.sub {x y : Int} (h1 : EV Φ ρ true a (.int x)) (h2 : EV Φ ρ true b (.int y)) : EV Φ ρ bor (.bin .sub a b) (.int (x - y)) := EV.bin h1 h2 (by simp)
def mOk (x y : Int) : Prop := (-(2 ^ 64) < x ∧ x < 2 ^ 64) ∨ (-(2 ^ 64) < y ∧ y < 2 ^ 64)
theorem EV.mul {x y : Int} (h1 : EV Φ ρ true a (.int x)) (h2 : EV Φ ρ true b (.int y)) (ok : mOk x y) : EV Φ ρ bor (.bin .mul a b) (.int (x * y)) := EV.bin h1 h2 (by simp only [binop]; exact gd_pos ok)
theorem mOk.l {x y : Int} (h : x.natAbs < 1000000000) : mOk x y := .inl (by omega)
theorem mOk.r {x y : Int} (h : y.natAbs < 1000000000) : mOk x y := .inr (by omega)
theorem EV.mod {x y : Int} (h1 : EV Φ ρ true a (.int x)) (h2 : EV Φ ρ true b (.int y)) (ok : 0 < y) : EV Φ ρ bor (.bin .mod a b) (.int (x % y)) := EV.bin h1 h2 (by simp [gd_pos ok])
theorem EV.fdiv {x y : Int} (h1 : EV Φ ρ true a (.int x)) (h2 : EV Φ ρ true b (.int y)) (ok : 0 < y ∧ y < 1073741824) : EV Φ ρ bor (.bin .fdiv a b) (.int (x / y)) := EV.bin h1 h2 (by simp only [binop]; exact gd_pos ok)
theorem EV.pow {x y : Int} (h1 : EV Φ ρ true a (.int x)) (h2 : EV Φ ρ true b (.int y)) (ok : 0 ≤ y ∧ y ≤ 1000000 ∧ x.natAbs < 2 ^ 64) : EV Φ ρ bor (.bin .pow a b) (.int (x ^ y.toNat)) := EV.bin h1 h2 (by simp only [binop]; exact gd_pos ok)
theorem EV.shl {x y : Int} (h1 : EV Φ ρ true a (.int x)) (h2 : EV Φ ρ true b (.int y)) (ok : 0 ≤ y ∧ y ≤ 1000000 ∧ x.natAbs < 2 ^ 64) : EV Φ ρ bor (.bin .shl a b) (.int (x * 2 ^ y.toNat)) := EV.bin h1 h2 (by simp only [binop]; exact gd_pos ok)
theorem EV.catT {α : Type} {e : α → PyData} {xs ys : List α} (h1 : EV Φ ρ true a (tT e xs)) (h2 : EV Φ ρ true b (tT e ys)) (ok : xs.length + ys.length ≤ LIM) : EV Φ ρ bor (.bin .add a b) (tT e (xs ++ ys)) := EV.bin h1 h2 (by simp [gd_pos ok])
theorem EV.catL {α : Type} {e : α → PyData} {xs ys : List α} (h1 : EV Φ ρ true a (tL e xs)) (h2 : EV Φ ρ true b (tL e ys)) (ok : xs.length + ys.length ≤ LIM) : EV Φ ρ bor (.bin .add a b) (tL e (xs ++ ys)) := EV.bin h1 h2 (by simp [gd_pos ok])
theorem EV.neg {x : Int} (h : EV Φ ρ true a (.int x)) : EV Φ ρ bor (.neg a) (.int (-x)) := fun ρ' l => by rw [ev_e8, h ρ' l]; rfl
theorem EV.not (h : TS Φ ρ a t) : EV Φ ρ bor (.not a) (.bool (!t)) := fun ρ' l => by
  have := h ρ' l
  unfold tst at this
  rw [Option.bind_eq_some_iff] at this
  obtain ⟨x, h1, h2⟩ := this
  rw [ev_e9, h1]
  show (truthy x).map _ = _
  rw [h2]; rfl
theorem EV.and (h1 : EV Φ ρ true a (.bool t)) (h2 : t = true → EV Φ ρ bor b (.bool t')) : EV Φ ρ bor (.and a b) (.bool (t && t')) := fun ρ' l => by
  rw [ev_e10, h1 ρ' l]
  cases t with
  | false => rfl
  | true => exact h2 rfl ρ' l
theorem EV.or (h1 : EV Φ ρ true a (.bool t)) (h2 : t = false → EV Φ ρ bor b (.bool t')) : EV Φ ρ bor (.or a b) (.bool (t || t')) := fun ρ' l => by
  rw [ev_e11, h1 ρ' l]
  cases t with
  | true => rfl
  | false => exact h2 rfl ρ' l
theorem EV.cmp {op : Cop} (h1 : EV Φ ρ true a dx) (h2 : EV Φ ρ true b dy) (hc : cmpop op dx dy = some t) : EV Φ ρ bor (.cmp op a b) (.bool t) := fun ρ' l => by
  rw [ev_e12, h1 ρ' l, h2 ρ' l]
  show (cmpop op dx dy).map _ = _
  rw [hc]; rfl
theorem EV.ch2 {op op' : Cop} (h1 : EV Φ ρ true a dx) (h2 : EV Φ ρ true b dy) (c1 : cmpop op dx dy = some t) (h3 : t = true → EV Φ ρ true c dz) (c2 : cmpop op' dy dz = some t') : EV Φ ρ bor (.ch2 op op' a b c) (.bool (t && t')) := fun ρ' l => by
  rw [ev_e13, h1 ρ' l, h2 ρ' l]
  show (cmpop op dx dy).bind _ = _
  rw [c1]
  cases t with
  | false => rfl
  | true =>
    have e3 := h3 rfl ρ' l
    simp only [Option.bind_some, if_true, e3, c2, Option.map_some, Bool.true_and]
theorem EV.isn (h : EV Φ ρ true a d) (hc : isN d = t) : EV Φ ρ bor (.isn a) (.bool t) := fun ρ' l => by rw [ev_e14, h ρ' l, ← hc]; rfl
theorem EV.nisn (h : EV Φ ρ true a d) (hc : (!isN d) = t) : EV Φ ρ bor (.nisn a) (.bool t) := fun ρ' l => by rw [ev_e15, h ρ' l, ← hc]; rfl
theorem EV.ife {α : Type} {e : α → PyData} {x y : α} (hc : TS Φ ρ c t) (h1 : t = true → EV Φ ρ bor a (e x)) (h2 : t = false → EV Φ ρ bor b (e y)) : EV Φ ρ bor (.ife c a b) (e (if t = true then x else y)) := fun ρ' l => by
  have := hc ρ' l
  unfold tst at this
  rw [Option.bind_eq_some_iff] at this
  obtain ⟨z, k1, k2⟩ := this
  rw [ev_e16, k1]
  show (truthy z).bind _ = _
  rw [k2]
  cases t with
  | true => exact h1 rfl ρ' l
  | false => exact h2 rfl ρ' l
theorem EV.ix (h1 : EV Φ ρ true a dx) (h2 : EV Φ ρ true b dy) (hc : index dx dy = some d) : EV Φ ρ bor (.sub a b) d := fun ρ' l => by rw [ev_e17, h1 ρ' l, h2 ρ' l]; exact hc
theorem atI_gi {α : Type} [Inhabited α] {e : α → PyData} {xs : List α} {k : Int} (ok : gOk xs k) : L2.atI (xs.map e) k = some (e (gi xs k)) := by
  obtain ⟨h1, h2⟩ := ok
  unfold L2.atI L2.ixN gi
  rw [List.length_map]
  by_cases h : 0 ≤ k
  · rw [if_pos h, if_pos h2, if_pos h]
    have hl : k.toNat < xs.length := by omega
    simp [List.getD, List.getElem?_eq_getElem hl]
  · rw [if_neg h, if_pos h1, if_neg h]
    have hl : (k + xs.length).toNat < xs.length := by omega
    have e2 : (xs.length + k).toNat = (k + xs.length).toNat := by rw [Int.add_comm]
    rw [e2]
    simp [List.getD, List.getElem?_eq_getElem hl]
theorem EV.giT {α : Type} [Inhabited α] {e : α → PyData} {xs : List α} {k : Int} (h1 : EV Φ ρ true a (tT e xs)) (h2 : EV Φ ρ true b (.int k)) (ok : gOk xs k) : EV Φ ρ bor (.sub a b) (e (gi xs k)) := EV.ix h1 h2 (atI_gi ok)
theorem EV.giL {α : Type} [Inhabited α] {e : α → PyData} {xs : List α} {k : Int} (h1 : EV Φ ρ true a (tL e xs)) (h2 : EV Φ ρ true b (.int k)) (ok : gOk xs k) : EV Φ ρ bor (.sub a b) (e (gi xs k)) := EV.ix h1 h2 (atI_gi ok)
theorem EVo.no : EVo Φ ρ .no none := fun _ _ => by rw [evo_e0]
theorem EVo.yes {i : Int} (h : EV Φ ρ true a (.int i)) : EVo Φ ρ (.yes a) (some i) := fun ρ' l => by rw [evo_e1, h ρ' l]; rfl
theorem EV.slT {α : Type} {e : α → PyData} {xs : List α} {lo hi : Exo} {l h : Option Int} (h1 : EV Φ ρ true a (tT e xs)) (h2 : EVo Φ ρ lo l) (h3 : EVo Φ ρ hi h) : EV Φ ρ bor (.sl a lo hi) (tT e (cut xs l h)) := fun ρ' q => by
  rw [ev_e18, h1 ρ' q, h2 ρ' q, h3 ρ' q]
  show some (PyData.tuple _) = _
  rw [cut_map]
theorem EV.slL {α : Type} {e : α → PyData} {xs : List α} {lo hi : Exo} {l h : Option Int} (h1 : EV Φ ρ true a (tL e xs)) (h2 : EVo Φ ρ lo l) (h3 : EVo Φ ρ hi h) : EV Φ ρ bor (.sl a lo hi) (tL e (cut xs l h)) := fun ρ' q => by
  rw [ev_e18, h1 ρ' q, h2 ρ' q, h3 ρ' q]
  show some (PyData.list _) = _
  rw [cut_map]
theorem EV.revT {α : Type} {e : α → PyData} {xs : List α} (h : EV Φ ρ true a (tT e xs)) : EV Φ ρ bor (.rev a) (tT e xs.reverse) := fun ρ' q => by
  rw [ev_e19, h ρ' q]
  show some (PyData.tuple _) = some (PyData.tuple _)
  rw [List.map_reverse]
theorem EV.revL {α : Type} {e : α → PyData} {xs : List α} (h : EV Φ ρ true a (tL e xs)) : EV Φ ρ bor (.rev a) (tL e xs.reverse) := fun ρ' q => by
  rw [ev_e19, h ρ' q]
  show some (PyData.list _) = some (PyData.list _)
  rw [List.map_reverse]
theorem EV.call {f : Nat} {es : Exs} {ds : List PyData} (h : EVs Φ ρ es ds) (hf : Φ f ds = some d) : EV Φ ρ bor (.call f es) d := fun ρ' q => by rw [ev_e20, h ρ' q]; exact hf
theorem EV.b1 {o : B1} (h : EV Φ ρ true a dx) (hc : b1op o dx = some d) : EV Φ ρ bor (.b1 o a) d := fun ρ' q => by rw [ev_e21, h ρ' q]; exact hc
theorem EV.lenT {α : Type} {e : α → PyData} {xs : List α} (h : EV Φ ρ true a (tT e xs)) : EV Φ ρ bor (.b1 .len a) (.int xs.length) := EV.b1 h (by simp)
theorem EV.lenL {α : Type} {e : α → PyData} {xs : List α} (h : EV Φ ρ true a (tL e xs)) : EV Φ ρ bor (.b1 .len a) (.int xs.length) := EV.b1 h (by simp)
theorem EV.abs {x : Int} (h : EV Φ ρ true a (.int x)) : EV Φ ρ bor (.b1 .abs a) (.int (x.natAbs : Int)) := EV.b1 h (by simp; split <;> omega)
theorem EV.toInt {x : Int} (h : EV Φ ρ true a (.int x)) : EV Φ ρ bor (.b1 .int a) (.int x) := EV.b1 h (by simp)
theorem EV.bi {o : Bi} (h : EV Φ ρ true a dx) (hc : biop o dx = some d) : EV Φ ρ bor (.bi o a) d := fun ρ' q => by rw [ev_e22, h ρ' q]; exact hc
theorem EV.tupL {α : Type} {e : α → PyData} {xs : List α} (h : EV Φ ρ true a (tL e xs)) : EV Φ ρ bor (.bi .tuple a) (tT e xs) := EV.bi h (by simp)
theorem EV.tupT {α : Type} {e : α → PyData} {xs : List α} (h : EV Φ ρ true a (tT e xs)) : EV Φ ρ bor (.bi .tuple a) (tT e xs) := EV.bi h (by simp)
theorem EV.lstL {α : Type} {e : α → PyData} {xs : List α} (h : EV Φ ρ true a (tL e xs)) : EV Φ ρ bor (.bi .list a) (tL e xs) := EV.bi h (by simp)
theorem EV.lstT {α : Type} {e : α → PyData} {xs : List α} (h : EV Φ ρ true a (tT e xs)) : EV Φ ρ bor (.bi .list a) (tL e xs) := EV.bi h (by simp)
theorem EV.sumL {xs : List Int} (h : EV Φ ρ true a (tL tI xs)) : EV Φ ρ bor (.bi .sum a) (.int xs.sum) := EV.bi h (by simp)
theorem EV.sumT {xs : List Int} (h : EV Φ ρ true a (tT tI xs)) : EV Φ ρ bor (.bi .sum a) (.int xs.sum) := EV.bi h (by simp)
/-- the first of the greatest -/
def mx1 {α : Type} [Inhabited α] [LT α] [DecidableLT α] : List α → α
  | [] => default
  | x :: r => r.foldl (fun a y => if a < y then y else a) x
/-- the first of the least -/
def mn1 {α : Type} [Inhabited α] [LT α] [DecidableLT α] : List α → α
  | [] => default
  | x :: r => r.foldl (fun a y => if y < a then y else a) x
theorem EV.all1 {xs : List Bool} (h : EV Φ ρ true a (tL tB xs)) : EV Φ ρ bor (.bi .all a) (.bool (xs.all id)) := EV.bi h (by simp)
theorem EV.any1 {xs : List Bool} (h : EV Φ ρ true a (tL tB xs)) : EV Φ ρ bor (.bi .any a) (.bool (xs.any id)) := EV.bi h (by simp)
theorem EV.convL {i : Ce.It} {ds : List PyData} (h : IT Φ ρ true i ds) : EV Φ ρ bor (.conv true i) (.list ds) := fun ρ' q => by rw [ev_e23, h ρ' q]; rfl
theorem EV.convT {i : Ce.It} {ds : List PyData} (h : IT Φ ρ true i ds) : EV Φ ρ bor (.conv false i) (.tuple ds) := fun ρ' q => by rw [ev_e23, h ρ' q]; rfl
theorem EV.max2 {x y : Int} (h1 : EV Φ ρ true a (.int x)) (h2 : EV Φ ρ true b (.int y)) : EV Φ ρ bor (.b2 .max a b) (.int (max x y)) := fun ρ' q => by
  rw [ev_e24, h1 ρ' q, h2 ρ' q]
  simp
  split <;> omega
theorem EV.min2 {x y : Int} (h1 : EV Φ ρ true a (.int x)) (h2 : EV Φ ρ true b (.int y)) : EV Φ ρ bor (.b2 .min a b) (.int (min x y)) := fun ρ' q => by
  rw [ev_e24, h1 ρ' q, h2 ρ' q]
  simp
  split <;> omega
theorem EV.isi {T : Tyn} (h : EV Φ ρ true a d) (hc : isTy T d = some t) : EV Φ ρ bor (.isi T a) (.bool t) := fun ρ' q => by
  rw [ev_e25, h ρ' q]
  show (isTy T d).map _ = _
  rw [hc]; rfl
/-! comprehensions -/
theorem IT.exT {α : Type} {e : α → PyData} {xs : List α} (h : EV Φ ρ bor a (tT e xs)) : IT Φ ρ bor (.ex a) (xs.map e) := fun ρ' q => by rw [itms_e0, h ρ' q]; rfl
theorem IT.exL {α : Type} {e : α → PyData} {xs : List α} (h : EV Φ ρ bor a (tL e xs)) : IT Φ ρ bor (.ex a) (xs.map e) := fun ρ' q => by rw [itms_e0, h ρ' q]; rfl
theorem IT.rng1 {n : Int} (h : EV Φ ρ true a (.int n)) (ok : rOk 0 n) : IT Φ ρ bor (.rng1 a) ((ivs 0 n).map tI) := fun ρ' q => by
  rw [itms_e1, h ρ' q]
  exact rngI ok.1 ok.2.1 ok.2.2.1 ok.2.2.2
theorem IT.rng2 {m n : Int} (h : EV Φ ρ true a (.int m)) (h2 : EV Φ ρ true b (.int n)) (ok : rOk m n) : IT Φ ρ bor (.rng2 a b) ((ivs m n).map tI) := fun ρ' q => by
  rw [itms_e2, h ρ' q, h2 ρ' q]
  exact rngI ok.1 ok.2.1 ok.2.2.1 ok.2.2.2
theorem enumd_enm {α : Type} {e : α → PyData} (xs : List α) : enumd (xs.map e) = (enm xs).map (tP2 tI e) := by
  unfold enumd enm
  apply List.ext_getElem?
  intro i
  simp only [List.getElem?_mapIdx, List.getElem?_map]
  cases xs[i]? <;> rfl
theorem IT.enumT {α : Type} {e : α → PyData} {xs : List α} (h : EV Φ ρ bor a (tT e xs)) : IT Φ ρ bor (.enum a) ((enm xs).map (tP2 tI e)) := fun ρ' q => by
  rw [itms_e3, h ρ' q, ← enumd_enm]; rfl
theorem IT.enumL {α : Type} {e : α → PyData} {xs : List α} (h : EV Φ ρ bor a (tL e xs)) : IT Φ ρ bor (.enum a) ((enm xs).map (tP2 tI e)) := fun ρ' q => by
  rw [itms_e3, h ρ' q, ← enumd_enm]; rfl
theorem EV.lc {α β : Type} {ea : α → PyData} {eb : β → PyData} {xs : List α} {g : α → β} {tg : Tg} {i : Ce.It} (R : α → Rho) (hi : IT Φ ρ true i (xs.map ea)) (hl : xs.length ≤ LIM) (hb : ∀ x, bindT tg (ea x) (wipeR ρ (slots tg)) = some (R x)) (he : ∀ x ∈ xs, EV Φ (R x) false a (eb (g x))) :
    EV Φ ρ bor (.lc a tg i .no) (tL eb (xs.map g)) := fun ρ' q => by
  rw [ev_e26, hi ρ' q]
  show gd _ _ = _
  rw [gd_pos (by simpa using hl), lcF_all (enc := ea) (enc' := eb) (g := g)]
  · rfl
  · intro x hx
    obtain ⟨b1, k1, k2⟩ := bindT_le tg _ (q.wipe (slots tg)) (hb x)
    rw [k1]
    have e3 := he x hx b1 k2
    simp only [Option.bind_some, tsto_e0, if_true, e3, Option.map_some]
theorem EV.lcI {α β : Type} {ea : α → PyData} {eb : β → PyData} {xs : List α} {p : α → Bool} {g : α → β} {tg : Tg} {i : Ce.It} (R : α → Rho) (hi : IT Φ ρ true i (xs.map ea)) (hl : xs.length ≤ LIM) (hb : ∀ x, bindT tg (ea x) (wipeR ρ (slots tg)) = some (R x)) (hc : ∀ x ∈ xs, TS Φ (R x) c (p x)) (he : ∀ x ∈ xs, p x = true → EV Φ (R x) false a (eb (g x))) :
    EV Φ ρ bor (.lc a tg i (.yes c)) (tL eb ((xs.filter p).map g)) := fun ρ' q => by
  rw [ev_e26, hi ρ' q]
  show gd _ _ = _
  rw [gd_pos (by simpa using hl), lcF_if (enc := ea) (enc' := eb) (p := p) (g := g)]
  · rfl
  · intro x hx
    obtain ⟨b1, k1, k2⟩ := bindT_le tg _ (q.wipe (slots tg)) (hb x)
    rw [k1]
    have := hc x hx b1 k2
    unfold tst at this
    simp only [Option.bind_some, tsto_e1, this]
    by_cases hp : p x = true
    · have e3 := he x hx hp b1 k2
      simp only [hp, if_true, e3, Option.bind_some, Option.map_some]
    · simp only [hp, if_false, Bool.false_eq_true]
theorem EV.lcF {α : Type} {ea : α → PyData} {xs : List α} {p : α → Bool} {tg : Tg} {i : Ce.It} (R : α → Rho) (hi : IT Φ ρ true i (xs.map ea)) (hl : xs.length ≤ LIM) (hb : ∀ x, bindT tg (ea x) (wipeR ρ (slots tg)) = some (R x)) (hc : ∀ x ∈ xs, TS Φ (R x) c (p x)) (he : ∀ x ∈ xs, p x = true → EV Φ (R x) false a (ea x)) :
    EV Φ ρ bor (.lc a tg i (.yes c)) (tL ea (xs.filter p)) := by
  have := EV.lcI (bor := bor) (g := fun x => x) R hi hl hb hc he
  rw [List.map_id'] at this
  exact this
theorem genF_pair {α : Type} {enc : α → PyData} {f : PyData → Option (Option Bool)} {p q : α → Bool} (b0 : Bool) : ∀ {xs : List α}, (∀ x ∈ xs, f (enc x) = some (if p x = true then some (q x) else none)) → genF b0 f (xs.map enc) = some (if b0 = true then (xs.filter p).all q else (xs.filter p).any q)
  | [], _ => by cases b0 <;> rfl
  | x :: xs, h => by
    have ih := genF_pair (enc := enc) (f := f) (p := p) (q := q) b0 (xs := xs) fun y hy => h y (List.mem_cons_of_mem _ hy)
    rw [List.map_cons]
    unfold genF
    rw [h x List.mem_cons_self, List.filter_cons]
    by_cases hp : p x = true
    · rw [if_pos hp, if_pos hp]
      show (if q x = b0 then _ else _) = _
      cases b0 <;> cases hq : q x <;> simp [ih, hq]
    · rw [if_neg hp, if_neg hp]
      exact ih
theorem genF_all0 {α : Type} {enc : α → PyData} {f : PyData → Option (Option Bool)} {q : α → Bool} (b0 : Bool) {xs : List α} (h : ∀ x ∈ xs, f (enc x) = some (some (q x))) : genF b0 f (xs.map enc) = some (if b0 = true then xs.all q else xs.any q) := by
  have := genF_pair (enc := enc) (f := f) (p := fun _ => true) (q := q) b0 (xs := xs) fun x hx => by rw [h x hx]; rfl
  rw [List.filter_eq_self.mpr (fun _ _ => rfl)] at this
  exact this
theorem EV.gen {α : Type} {b0 : Bool} {ea : α → PyData} {xs : List α} {g : α → Bool} {tg : Tg} {i : Ce.It} (R : α → Rho) (hi : IT Φ ρ true i (xs.map ea)) (hb : ∀ x, bindT tg (ea x) (wipeR ρ (slots tg)) = some (R x)) (he : ∀ x ∈ xs, EV Φ (R x) true a (.bool (g x))) :
    EV Φ ρ bor (.gen b0 a tg i .no) (.bool (if b0 = true then xs.all g else xs.any g)) := fun ρ' q => by
  rw [ev_e27, hi ρ' q]
  show (genF b0 _ _).map _ = _
  rw [genF_all0 (enc := ea) (q := g)]
  · rfl
  · intro x hx
    obtain ⟨b1, k1, k2⟩ := bindT_le tg _ (q.wipe (slots tg)) (hb x)
    rw [k1]
    have e3 := he x hx b1 k2
    simp only [Option.bind_some, tsto_e0, if_true, e3, Option.map_some]
theorem EV.genI {α : Type} {b0 : Bool} {ea : α → PyData} {xs : List α} {p g : α → Bool} {tg : Tg} {i : Ce.It} (R : α → Rho) (hi : IT Φ ρ true i (xs.map ea)) (hb : ∀ x, bindT tg (ea x) (wipeR ρ (slots tg)) = some (R x)) (hc : ∀ x ∈ xs, TS Φ (R x) c (p x)) (he : ∀ x ∈ xs, p x = true → EV Φ (R x) true a (.bool (g x))) :
    EV Φ ρ bor (.gen b0 a tg i (.yes c)) (.bool (if b0 = true then (xs.filter p).all g else (xs.filter p).any g)) := fun ρ' q => by
  rw [ev_e27, hi ρ' q]
  show (genF b0 _ _).map _ = _
  rw [genF_pair (enc := ea) (p := p) (q := g)]
  · rfl
  · intro x hx
    obtain ⟨b1, k1, k2⟩ := bindT_le tg _ (q.wipe (slots tg)) (hb x)
    rw [k1]
    have := hc x hx b1 k2
    unfold tst at this
    simp only [Option.bind_some, tsto_e1, this]
    by_cases hp : p x = true
    · have e3 := he x hx hp b1 k2
      simp only [hp, if_true, e3, Option.bind_some, Option.map_some]
    · simp only [hp, if_false, Bool.false_eq_true]
theorem EV.all {α : Type} {ea : α → PyData} {xs : List α} {g : α → Bool} {tg : Tg} {i : Ce.It} (R : α → Rho) (hi : IT Φ ρ true i (xs.map ea)) (hb : ∀ x, bindT tg (ea x) (wipeR ρ (slots tg)) = some (R x)) (he : ∀ x ∈ xs, EV Φ (R x) true a (.bool (g x))) : EV Φ ρ bor (.gen true a tg i .no) (.bool (xs.all g)) := EV.gen R hi hb he
theorem EV.any {α : Type} {ea : α → PyData} {xs : List α} {g : α → Bool} {tg : Tg} {i : Ce.It} (R : α → Rho) (hi : IT Φ ρ true i (xs.map ea)) (hb : ∀ x, bindT tg (ea x) (wipeR ρ (slots tg)) = some (R x)) (he : ∀ x ∈ xs, EV Φ (R x) true a (.bool (g x))) : EV Φ ρ bor (.gen false a tg i .no) (.bool (xs.any g)) := EV.gen R hi hb he
theorem EV.allI {α : Type} {ea : α → PyData} {xs : List α} {p g : α → Bool} {tg : Tg} {i : Ce.It} (R : α → Rho) (hi : IT Φ ρ true i (xs.map ea)) (hb : ∀ x, bindT tg (ea x) (wipeR ρ (slots tg)) = some (R x)) (hc : ∀ x ∈ xs, TS Φ (R x) c (p x)) (he : ∀ x ∈ xs, p x = true → EV Φ (R x) true a (.bool (g x))) : EV Φ ρ bor (.gen true a tg i (.yes c)) (.bool ((xs.filter p).all g)) := EV.genI R hi hb hc he
theorem EV.anyI {α : Type} {ea : α → PyData} {xs : List α} {p g : α → Bool} {tg : Tg} {i : Ce.It} (R : α → Rho) (hi : IT Φ ρ true i (xs.map ea)) (hb : ∀ x, bindT tg (ea x) (wipeR ρ (slots tg)) = some (R x)) (hc : ∀ x ∈ xs, TS Φ (R x) c (p x)) (he : ∀ x ∈ xs, p x = true → EV Φ (R x) true a (.bool (g x))) : EV Φ ρ bor (.gen false a tg i (.yes c)) (.bool ((xs.filter p).any g)) := EV.genI R hi hb hc he
/-! sets -/
theorem EV.lenSetI {xs : List Int} (h : EV Φ ρ true a d) (hs : seq? d = some (xs.map tI)) (ok : xs.length < 64) : EV Φ ρ bor (.st true a) (.int (setI xs).length) := fun ρ' q => by
  rw [ev_e28, h ρ' q]
  show (seq? d).bind _ = _
  rw [hs]
  show (setd? _).map _ = _
  rw [setd_ints ok]
  simp
theorem EV.sortSetI {xs : List Int} (h : EV Φ ρ true a d) (hs : seq? d = some (xs.map tI)) (ok : xs.length < 64) : EV Φ ρ bor (.st false a) (tL tI (setI xs)) := fun ρ' q => by
  rw [ev_e28, h ρ' q]
  show (seq? d).bind _ = _
  rw [hs]
  show (setd? _).map _ = _
  rw [setd_ints ok]
  simp
end

/-! ### statements -/
def runK (Φ : Fns) (n : Nat) : List Sms → Rho → Option Res
  | [], ρ => some (.nx ρ)
  | b :: K, ρ => (exSs Φ n b ρ).bind fun x => match x with
    | .nx ρ' => runK Φ n K ρ'
    | y => some y
def SK (Φ : Fns) (n : Nat) (K : List Sms) (ρ : Rho) (P : Res → Prop) : Prop := ∀ ρ', Le ρ ρ' → ∃ r, runK Φ n K ρ' = some r ∧ P r
/-- the end of a def -/
def RT {γ : Type} (e : γ → PyData) (c : γ) : Res → Prop := fun r => r = .rt (e c)
/-- the end of a block that falls through -/
def NX {S : Type} (R : S → Rho) (s : S) : Res → Prop := fun r => match r with
  | .nx ρ' => Le (R s) ρ'
  | _ => False
/-- .. of a loop's body -/
def NC {S : Type} (R : S → Rho) (s : S) : Res → Prop := fun r => match r with
  | .nx ρ' => Le (R s) ρ'
  | .ct ρ' => Le (R s) ρ'
  | _ => False
def LP {S β : Type} (R : S → Rho) (e : β → PyData) (c : Ctl S β) : Res → Prop := fun r => match c, r with
  | .nx s, .nx ρ' => Le (R s) ρ'
  | .nx s, .ct ρ' => Le (R s) ρ'
  | .bk s, .bk ρ' => Le (R s) ρ'
  | .rt b, .rt d => d = e b
  | _, _ => False
section
variable {Φ : Fns} {n : Nat} {ρ ρ1 : Rho} {P : Res → Prop} {K : List Sms} {r sa sb : Sms} {e c : Ex} {d : PyData} {t : Bool}
theorem SK.run {k : Nat} {body : Sms} {ds : List PyData} {γ : Type} {en : γ → PyData} {x : γ} (hs : startR k ds = ρ) (h : SK Φ n [body] ρ (RT en x)) : runD Φ n k body ds = some (en x) := by
  obtain ⟨r, h1, h2⟩ := h ρ (Le.refl _)
  cases h2
  unfold runD
  rw [hs]
  simp only [runK] at h1
  cases q : exSs Φ n body ρ with
  | none => rw [q] at h1; cases h1
  | some z => rw [q] at h1; cases z <;> first | (cases h1; rfl) | (cases h1)
theorem SK.nil (h : ∀ ρ', Le ρ ρ' → P (.nx ρ')) : SK Φ n [] ρ P := fun ρ' l => ⟨_, rfl, h ρ' l⟩
theorem SK.done (h : SK Φ n K ρ P) : SK Φ n (.nil :: K) ρ P := fun ρ' l => by
  obtain ⟨r, h1, h2⟩ := h ρ' l
  exact ⟨r, by rw [runK, exSs_e0]; exact h1, h2⟩
theorem SK.mono (l : Le ρ1 ρ) (h : SK Φ n K ρ1 P) : SK Φ n K ρ P := fun ρ' l' => h ρ' (l.trans l')
theorem SK.post {P' : Res → Prop} (h : SK Φ n K ρ P') (k : ∀ r, P' r → P r) : SK Φ n K ρ P := fun ρ' l' => by
  obtain ⟨r, h1, h2⟩ := h ρ' l'
  exact ⟨r, h1, k r h2⟩
theorem runK_nx {s : Sm} {ρ' ρ2 : Rho} (h : exS Φ n s ρ' = some (.nx ρ2)) : runK Φ n (.cons s r :: K) ρ' = runK Φ n (r :: K) ρ2 := by
  rw [runK, exSs_e1, h]
  rfl
theorem runK_out {s : Sm} {ρ' : Rho} {x : Res} (h : exS Φ n s ρ' = some x) (hx : ∀ z, x ≠ .nx z) : runK Φ n (.cons s r :: K) ρ' = some x := by
  rw [runK, exSs_e1, h]
  cases x <;> first | rfl | exact absurd rfl (hx _)
theorem SK.step {s : Sm} (h : ∀ ρ', Le ρ ρ' → ∃ ρ2, exS Φ n s ρ' = some (.nx ρ2) ∧ Le ρ1 ρ2) (k : SK Φ n (r :: K) ρ1 P) : SK Φ n (.cons s r :: K) ρ P := fun ρ' l => by
  obtain ⟨ρ2, h1, h2⟩ := h ρ' l
  rw [runK_nx h1]
  exact k ρ2 h2
theorem SK.ret (h : EV Φ ρ false e d) (p : P (.rt d)) : SK Φ n (.cons (.ret e) r :: K) ρ P := fun ρ' l => by
  refine ⟨.rt d, runK_out ?_ (fun z => by simp), p⟩
  rw [exS_e2, h ρ' l]; rfl
theorem SK.asg {tg : Tg} (h : EV Φ ρ false e d) (hb : bindT tg d ρ = some ρ1) (k : SK Φ n (r :: K) ρ1 P) : SK Φ n (.cons (.asg tg e) r :: K) ρ P := SK.step (fun ρ' l => by
  obtain ⟨b1, k1, k2⟩ := bindT_le tg d l hb
  exact ⟨b1, by rw [exS_e0, h ρ' l]; show (bindT tg d ρ').map _ = _; rw [k1]; rfl, k2⟩) k
theorem SK.own {i : Nat} (h : EV Φ ρ false e d) (hm : isMut d = true) (hi : i < ρ.length) (hb : ρ.set i (.ow d) = ρ1) (k : SK Φ n (r :: K) ρ1 P) : SK Φ n (.cons (.own i e) r :: K) ρ P := SK.step (fun ρ' l => by
  refine ⟨ρ'.set i (.ow d), ?_, hb ▸ l.set i _⟩
  rw [exS_e1, h ρ' l]
  show (if _ then _ else _) = _
  rw [if_pos ⟨hm, show i < List.length ρ' from by rw [l.1]; exact hi⟩]) k
theorem SK.app {i : Nat} {ds : List PyData} (h : EV Φ ρ false e d) (hx : ρ[i]? = some (.ow (.list ds))) (hl : ds.length < LIM) (hb : ρ.set i (.ow (.list (ds ++ [d]))) = ρ1) (k : SK Φ n (r :: K) ρ1 P) : SK Φ n (.cons (.app i e) r :: K) ρ P := SK.step (fun ρ' l => by
  refine ⟨ρ'.set i (.ow (.list (ds ++ [d]))), ?_, hb ▸ l.set i _⟩
  rcases l.2 i _ hx with z | z
  · cases z
  · rw [exS_e6, h ρ' l]
    simp only [Option.bind_some, z]
    exact gd_pos hl) k
theorem SK.aug {i : Nat} {b : Bool} {x y : Int} (h : EV Φ ρ true e (.int y)) (hx : ρ[i]? = some (.fz (.int x))) (hb : ρ.set i (.fz (.int (if b = true then x + y else x - y))) = ρ1) (k : SK Φ n (r :: K) ρ1 P) : SK Φ n (.cons (.aug i b e) r :: K) ρ P := SK.step (fun ρ' l => by
  refine ⟨ρ'.set i (.fz (.int (if b = true then x + y else x - y))), ?_, hb ▸ l.set i _⟩
  rcases l.2 i _ hx with z | z
  · cases z
  · rw [exS_e7, h ρ' l]
    simp only [Option.bind_some, z]) k
theorem SK.frz {is : List Nat} {s : Sm} (hf : frzR ρ is = ρ1) (k : SK Φ n (.cons s r :: K) ρ1 P) : SK Φ n (.cons (.frz is s) r :: K) ρ P := fun ρ' l => by
  obtain ⟨x, h1, h2⟩ := k (frzR ρ' is) (hf ▸ l.frz is)
  refine ⟨x, ?_, h2⟩
  rw [← h1, runK, runK, exSs_e1, exSs_e1, exS_e8]
theorem SK.pass (k : SK Φ n (r :: K) ρ P) : SK Φ n (.cons .pass r :: K) ρ P := SK.step (fun ρ' l => ⟨ρ', by rw [exS_e11], l⟩) k
theorem SK.cont (h : ∀ ρ', Le ρ ρ' → P (.ct ρ')) : SK Φ n (.cons .cont r :: K) ρ P := fun ρ' l => ⟨_, runK_out (by rw [exS_e9]) (fun z => by simp), h ρ' l⟩
theorem SK.brk (h : ∀ ρ', Le ρ ρ' → P (.bk ρ')) : SK Φ n (.cons .brk r :: K) ρ P := fun ρ' l => ⟨_, runK_out (by rw [exS_e10]) (fun z => by simp), h ρ' l⟩
theorem SK.ife (hc : TS Φ ρ c t) (h1 : t = true → SK Φ n (sa :: r :: K) ρ P) (h2 : t = false → SK Φ n (sb :: r :: K) ρ P) : SK Φ n (.cons (.ife c sa sb) r :: K) ρ P := fun ρ' l => by
  have e0 := hc ρ' l
  have key : ∀ s : Sms, exS Φ n (.ife c sa sb) ρ' = exSs Φ n s ρ' → runK Φ n (.cons (.ife c sa sb) r :: K) ρ' = runK Φ n (s :: r :: K) ρ' := fun s hs => by
    simp only [runK, exSs_e1, hs]
    cases exSs Φ n s ρ' with
    | none => rfl
    | some z => cases z <;> rfl
  cases t with
  | true =>
    rw [key sa (by rw [exS_e3, e0]; rfl)]
    exact h1 rfl ρ' l
  | false =>
    rw [key sb (by rw [exS_e3, e0]; rfl)]
    exact h2 rfl ρ' l
/-! typed -/
theorem SK.asgL {α γ : Type} {en : α → PyData} {v : α} {k : α → γ} {okk : α → Prop} {Post : γ → Res → Prop} {tg : Tg} (R : α → Rho) (he : EV Φ ρ false e (en v)) (hb : ∀ x, bindT tg (en x) ρ = some (R x)) (ho : letv v okk) (hk : ∀ x, okk x → SK Φ n (r :: K) (R x) (Post (k x))) : SK Φ n (.cons (.asg tg e) r :: K) ρ (Post (letv v k)) :=
  SK.asg he (hb v) (hk v ho)
theorem SK.ownL {α γ : Type} {en : α → PyData} {v : α} {k : α → γ} {okk : α → Prop} {Post : γ → Res → Prop} {i : Nat} (R : α → Rho) (he : EV Φ ρ false e (en v)) (hm : isMut (en v) = true) (hi : i < ρ.length) (hb : ∀ x, ρ.set i (.ow (en x)) = R x) (ho : letv v okk) (hk : ∀ x, okk x → SK Φ n (r :: K) (R x) (Post (k x))) : SK Φ n (.cons (.own i e) r :: K) ρ (Post (letv v k)) :=
  SK.own he hm hi (hb v) (hk v ho)
theorem SK.appL {α γ : Type} {en : α → PyData} {xs : List α} {x : α} {k : List α → γ} {okk : List α → Prop} {Post : γ → Res → Prop} {i : Nat} (R : List α → Rho) (he : EV Φ ρ false e (en x)) (hx : ρ[i]? = some (.ow (tL en xs))) (hl : xs.length < LIM) (hb : ∀ x, ρ.set i (.ow (tL en x)) = R x) (ho : letv (xs ++ [x]) okk) (hk : ∀ x, okk x → SK Φ n (r :: K) (R x) (Post (k x))) : SK Φ n (.cons (.app i e) r :: K) ρ (Post (letv (xs ++ [x]) k)) :=
  SK.app he hx (by simpa using hl) (by have := hb (xs ++ [x]); simpa only [tL, List.map_append, List.map_cons, List.map_nil] using this) (hk _ ho)
theorem SK.addL {γ : Type} {x y : Int} {k : Int → γ} {okk : Int → Prop} {Post : γ → Res → Prop} {i : Nat} (R : Int → Rho) (h : EV Φ ρ true e (.int y)) (hx : ρ[i]? = some (.fz (.int x))) (hb : ∀ x : Int, ρ.set i (.fz (.int x)) = R x) (ho : letv (x + y) okk) (hk : ∀ x, okk x → SK Φ n (r :: K) (R x) (Post (k x))) : SK Φ n (.cons (.aug i true e) r :: K) ρ (Post (letv (x + y) k)) :=
  SK.aug h hx (by simpa using hb (x + y)) (hk _ ho)
theorem SK.subL {γ : Type} {x y : Int} {k : Int → γ} {okk : Int → Prop} {Post : γ → Res → Prop} {i : Nat} (R : Int → Rho) (h : EV Φ ρ true e (.int y)) (hx : ρ[i]? = some (.fz (.int x))) (hb : ∀ x : Int, ρ.set i (.fz (.int x)) = R x) (ho : letv (x - y) okk) (hk : ∀ x, okk x → SK Φ n (r :: K) (R x) (Post (k x))) : SK Φ n (.cons (.aug i false e) r :: K) ρ (Post (letv (x - y) k)) :=
  SK.aug h hx (by simpa using hb (x - y)) (hk _ ho)
theorem SK.iteL {γ : Type} {A B : γ} {oa ob : Prop} {Post : γ → Res → Prop} (hc : TS Φ ρ c t) (ho : if t = true then oa else ob) (h1 : t = true → oa → SK Φ n (sa :: r :: K) ρ (Post A)) (h2 : t = false → ob → SK Φ n (sb :: r :: K) ρ (Post B)) : SK Φ n (.cons (.ife c sa sb) r :: K) ρ (Post (if t = true then A else B)) := by
  refine SK.ife hc (fun q => ?_) (fun q => ?_)
  · rw [if_pos q] at ho ⊢; exact h1 q ho
  · have q' : ¬ t = true := by rw [q]; decide
    rw [if_neg q'] at ho ⊢; exact h2 q ho
theorem SK.join {S γ : Type} {va vb : S} {k : S → γ} {oa ob : Prop} {okk : S → Prop} {Post : γ → Res → Prop} (R : S → Rho) (hc : TS Φ ρ c t) (ho : if t = true then oa else ob) (h1 : t = true → oa → SK Φ n [sa] ρ (NX R va)) (h2 : t = false → ob → SK Φ n [sb] ρ (NX R vb)) (hl : letv (if t = true then va else vb) okk) (hk : ∀ s, okk s → SK Φ n (r :: K) (R s) (Post (k s))) :
    SK Φ n (.cons (.ife c sa sb) r :: K) ρ (Post (letv (if t = true then va else vb) k)) := by
  have h0 : ∀ ρ', Le ρ ρ' → ∃ ρ2, exS Φ n (.ife c sa sb) ρ' = some (.nx ρ2) ∧ Le (R (if t = true then va else vb)) ρ2 := fun ρ' l => by
    have e0 := hc ρ' l
    have key : ∀ (s : Sms) (v : S), SK Φ n [s] ρ (NX R v) → ∃ ρ2, exSs Φ n s ρ' = some (.nx ρ2) ∧ Le (R v) ρ2 := fun s v hs => by
      obtain ⟨x, q1, q2⟩ := hs ρ' l
      rw [runK] at q1
      cases q : exSs Φ n s ρ' with
      | none => rw [q] at q1; cases q1
      | some z =>
        rw [q] at q1
        cases z with
        | nx ρ2 => cases q1; exact ⟨_, rfl, q2⟩
        | _ => cases q1; exact q2.elim
    cases t with
    | true =>
      obtain ⟨ρ2, k1, k2⟩ := key sa va (h1 rfl ho)
      exact ⟨ρ2, by rw [exS_e3, e0]; exact k1, k2⟩
    | false =>
      obtain ⟨ρ2, k1, k2⟩ := key sb vb (h2 rfl ho)
      exact ⟨ρ2, by rw [exS_e3, e0]; exact k1, k2⟩
  exact SK.step h0 (hk _ hl)
theorem runK1 {body : Sms} {ρ' : Rho} {x : Res} (h : runK Φ n [body] ρ' = some x) : exSs Φ n body ρ' = some x := by
  rw [runK] at h
  cases q : exSs Φ n body ρ' with
  | none => rw [q] at h; cases h
  | some z =>
    rw [q] at h
    cases z <;> (cases h; rfl)
theorem fold_run {α S : Type} {ea : α → PyData} {R : S → Rho} {R1 : S → α → Rho} {step : S → α → S} {ok : S → α → Prop} {tg : Tg} {body : Sms} (hb : ∀ s x, bindT tg (ea x) (R s) = some (R1 s x)) : ∀ (xs : List α) (s : S) (ρ' : Rho), (∀ s x, x ∈ xs → ok s x → SK Φ n [body] (R1 s x) (NC R (step s x))) → okF step ok xs s → Le (R s) ρ' → ∃ ρ2, forF (fun d ρ' => (bindT tg d ρ').bind (exSs Φ n body)) (xs.map ea) ρ' = some (.nx ρ2) ∧ Le (R (xs.foldl step s)) ρ2
  | [], s, ρ', _, _, l => ⟨ρ', rfl, l⟩
  | x :: xs, s, ρ', hs, ho, l => by
    obtain ⟨b1, k1, k2⟩ := bindT_le tg _ l (hb s x)
    obtain ⟨z, q1, q2⟩ := hs s x List.mem_cons_self ho.1 b1 k2
    have q3 := runK1 q1
    have ih := fun ρ2 (l2 : Le (R (step s x)) ρ2) => fold_run hb xs (step s x) ρ2 (fun s y hy => hs s y (List.mem_cons_of_mem _ hy)) ho.2 l2
    rw [List.map_cons, forF]
    simp only [k1, Option.bind_some, q3]
    cases z with
    | nx ρ2 => exact ih ρ2 q2
    | ct ρ2 => exact ih ρ2 q2
    | _ => exact q2.elim
theorem SK.fold {α S γ : Type} {ea : α → PyData} {xs : List α} {s0 : S} {step : S → α → S} {ok : S → α → Prop} {k : S → γ} {okk : S → Prop} {Post : γ → Res → Prop} {tg : Tg} {i : Ce.It} {body : Sms} (R : S → Rho) (R1 : S → α → Rho) (hi : IT Φ ρ false i (xs.map ea)) (h0 : Le (R s0) ρ) (hb : ∀ s x, bindT tg (ea x) (R s) = some (R1 s x)) (ho : okF step ok xs s0)
    (hs : ∀ s x, x ∈ xs → ok s x → SK Φ n [body] (R1 s x) (NC R (step s x))) (hl : letv (xs.foldl step s0) okk) (hk : ∀ s, okk s → SK Φ n (r :: K) (R s) (Post (k s))) : SK Φ n (.cons (.for tg i body) r :: K) ρ (Post (letv (xs.foldl step s0) k)) :=
  SK.step (ρ1 := R (xs.foldl step s0)) (fun ρ' l => by
    obtain ⟨ρ2, k1, k2⟩ := fold_run hb xs s0 ρ' hs ho (h0.trans l)
    exact ⟨ρ2, by rw [exS_e4, hi ρ' l]; exact k1, k2⟩) (hk _ hl)
theorem forL_run {α S β : Type} {ea : α → PyData} {eb : β → PyData} {R : S → Rho} {R1 : S → α → Rho} {step : S → α → Ctl S β} {ok : S → α → Prop} {tg : Tg} {body : Sms} (hb : ∀ s x, bindT tg (ea x) (R s) = some (R1 s x)) : ∀ (xs : List α) (s : S) (ρ' : Rho), (∀ s x, x ∈ xs → ok s x → SK Φ n [body] (R1 s x) (LP R eb (step s x))) → okL step ok xs s → Le (R s) ρ' → ∃ z, forF (fun d ρ' => (bindT tg d ρ').bind (exSs Φ n body)) (xs.map ea) ρ' = some z ∧ match forL step xs s with
      | .nx s => ∃ ρ2, z = .nx ρ2 ∧ Le (R s) ρ2
      | .bk s => ∃ ρ2, z = .nx ρ2 ∧ Le (R s) ρ2
      | .rt b => z = .rt (eb b)
  | [], s, ρ', _, _, l => ⟨_, rfl, ρ', rfl, l⟩
  | x :: xs, s, ρ', hs, ho, l => by
    obtain ⟨b1, k1, k2⟩ := bindT_le tg _ l (hb s x)
    obtain ⟨z, q1, q2⟩ := hs s x List.mem_cons_self ho.1 b1 k2
    have q3 := runK1 q1
    rw [List.map_cons, forF, forL]
    simp only [k1, Option.bind_some, q3]
    have ho2 := ho.2
    cases q : step s x with
    | nx s' =>
      rw [q] at q2 ho2
      have ih := fun ρ2 (l2 : Le (R s') ρ2) => forL_run hb xs s' ρ2 (fun s y hy => hs s y (List.mem_cons_of_mem _ hy)) ho2 l2
      cases z with
      | nx ρ2 => exact ih ρ2 q2
      | ct ρ2 => exact ih ρ2 q2
      | _ => exact q2.elim
    | bk s' =>
      rw [q] at q2
      cases z with
      | bk ρ2 => exact ⟨_, rfl, ρ2, rfl, q2⟩
      | _ => exact q2.elim
    | rt b =>
      rw [q] at q2
      cases z with
      | rt d => cases q2; exact ⟨_, rfl, rfl⟩
      | _ => exact q2.elim
theorem SK.loop {S β γ : Type} {eb : β → PyData} {C : Ctl S β} {kr : β → γ} {k : S → γ} {okk : S → Prop} {Post : γ → Res → Prop} {s : Sm} {R : S → Rho} (h : ∀ ρ', Le ρ ρ' → ∃ z, exS Φ n s ρ' = some z ∧ match C with
      | .nx s => ∃ ρ2, z = .nx ρ2 ∧ Le (R s) ρ2
      | .bk s => ∃ ρ2, z = .nx ρ2 ∧ Le (R s) ρ2
      | .rt b => z = .rt (eb b)) (hr : ∀ b, Post (kr b) (.rt (eb b))) (hl : goP C okk) (hk : ∀ s, okk s → SK Φ n (r :: K) (R s) (Post (k s))) : SK Φ n (.cons s r :: K) ρ (Post (goL C kr k)) := fun ρ' l => by
  obtain ⟨z, k1, k2⟩ := h ρ' l
  cases C with
  | nx s1 =>
    obtain ⟨ρ2, rfl, l2⟩ := k2
    rw [runK_nx k1]
    exact hk s1 hl ρ2 l2
  | bk s1 =>
    obtain ⟨ρ2, rfl, l2⟩ := k2
    rw [runK_nx k1]
    exact hk s1 hl ρ2 l2
  | rt b =>
    cases k2
    exact ⟨_, runK_out k1 (fun z => by simp), hr b⟩
theorem SK.forL {α S β γ : Type} {ea : α → PyData} {eb : β → PyData} {xs : List α} {s0 : S} {step : S → α → Ctl S β} {ok : S → α → Prop} {kr : β → γ} {k : S → γ} {okk : S → Prop} {Post : γ → Res → Prop} {tg : Tg} {i : Ce.It} {body : Sms} (R : S → Rho) (R1 : S → α → Rho) (hi : IT Φ ρ false i (xs.map ea)) (h0 : Le (R s0) ρ) (hb : ∀ s x, bindT tg (ea x) (R s) = some (R1 s x)) (ho : okL step ok xs s0)
    (hs : ∀ s x, x ∈ xs → ok s x → SK Φ n [body] (R1 s x) (LP R eb (step s x))) (hr : ∀ b, Post (kr b) (.rt (eb b))) (hl : goP (forL step xs s0) okk) (hk : ∀ s, okk s → SK Φ n (r :: K) (R s) (Post (k s))) : SK Φ n (.cons (.for tg i body) r :: K) ρ (Post (goL (Sh.forL step xs s0) kr k)) :=
  SK.loop (fun ρ' l => by
    obtain ⟨z, k1, k2⟩ := forL_run hb xs s0 ρ' hs ho (h0.trans l)
    exact ⟨z, by rw [exS_e4, hi ρ' l]; exact k1, k2⟩) hr hl hk
theorem whL_run {S β : Type} {eb : β → PyData} {R : S → Rho} {cc : S → Bool} {step : S → Ctl S β} {okc ok : S → Prop} {body : Sms} (hc : ∀ s, okc s → TS Φ (R s) c (cc s)) (hs : ∀ s, cc s = true → ok s → SK Φ n [body] (R s) (LP R eb (step s))) : ∀ (m : Nat) (s : S) (ρ' : Rho), okW cc step okc ok m s → Le (R s) ρ' → ∃ z, whileF (tst Φ c) (exSs Φ n body) m ρ' = some z ∧ match whL cc step m s with
      | .nx s => ∃ ρ2, z = .nx ρ2 ∧ Le (R s) ρ2
      | .bk s => ∃ ρ2, z = .nx ρ2 ∧ Le (R s) ρ2
      | .rt b => z = .rt (eb b)
  | 0, s, ρ', ho, l => ho.elim
  | m + 1, s, ρ', ho, l => by
    rw [whileF, whL]
    have e0 := hc s ho.1 ρ' l
    simp only [e0, Option.bind_some]
    by_cases hcc : cc s = true
    · obtain ⟨ho1, ho2⟩ := ho.2 hcc
      obtain ⟨z, q1, q2⟩ := hs s hcc ho1 ρ' l
      have q3 := runK1 q1
      rw [if_pos hcc, if_pos hcc]
      simp only [q3, Option.bind_some]
      cases q : step s with
      | nx s' =>
        rw [q] at q2 ho2
        have ih := fun ρ2 (l2 : Le (R s') ρ2) => whL_run hc hs m s' ρ2 ho2 l2
        cases z with
        | nx ρ2 => exact ih ρ2 q2
        | ct ρ2 => exact ih ρ2 q2
        | _ => exact q2.elim
      | bk s' =>
        rw [q] at q2
        cases z with
        | bk ρ2 => exact ⟨_, rfl, ρ2, rfl, q2⟩
        | _ => exact q2.elim
      | rt b =>
        rw [q] at q2
        cases z with
        | rt d => cases q2; exact ⟨_, rfl, rfl⟩
        | _ => exact q2.elim
    · rw [if_neg hcc, if_neg hcc]
      exact ⟨_, rfl, ρ', rfl, l⟩
theorem SK.whl {S β γ : Type} {eb : β → PyData} {s0 : S} {cc : S → Bool} {step : S → Ctl S β} {okc ok : S → Prop} {kr : β → γ} {k : S → γ} {okk : S → Prop} {Post : γ → Res → Prop} {body : Sms} (R : S → Rho) (h0 : Le (R s0) ρ) (ho : okW cc step okc ok n s0) (hc : ∀ s, okc s → TS Φ (R s) c (cc s))
    (hs : ∀ s, cc s = true → ok s → SK Φ n [body] (R s) (LP R eb (step s))) (hr : ∀ b, Post (kr b) (.rt (eb b))) (hl : goP (whL cc step n s0) okk) (hk : ∀ s, okk s → SK Φ n (r :: K) (R s) (Post (k s))) : SK Φ n (.cons (.whl c body) r :: K) ρ (Post (goL (whL cc step n s0) kr k)) :=
  SK.loop (fun ρ' l => by
    obtain ⟨z, k1, k2⟩ := whL_run hc hs n s0 ρ' ho (h0.trans l)
    exact ⟨z, by rw [exS_e5]; exact k1, k2⟩) hr hl hk
end
end Sh

set_option maxHeartbeats 4000000
/-! Typed functions: comparisons, orders. -/
noncomputable section
namespace Sh
open PySem Ce Cs Pu

structure EqE {α : Type} [DecidableEq α] (e : α → PyData) (k : Nat) : Prop where
  pk : ∀ a, Ce.pk k (e a) = true
  eq : ∀ a b, PyData.eqv (e a) (e b) = decide (a = b)
def NN {α : Type} (e : α → PyData) : Prop := ∀ a, isN (e a) = false
theorem NN.I : NN tI := fun _ => rfl
theorem NN.B : NN tB := fun _ => rfl
theorem NN.S : NN tS := fun _ => rfl
theorem NN.T {α : Type} {e : α → PyData} : NN (tT e) := fun _ => rfl
theorem NN.L {α : Type} {e : α → PyData} : NN (tL e) := fun _ => rfl
theorem NN.P2 {α β : Type} {e1 : α → PyData} {e2 : β → PyData} : NN (tP2 e1 e2) := fun _ => rfl
theorem NN.P3 {α β γ : Type} {e1 : α → PyData} {e2 : β → PyData} {e3 : γ → PyData} : NN (tP3 e1 e2 e3) := fun _ => rfl
theorem NN.P4 {α β γ δ : Type} {e1 : α → PyData} {e2 : β → PyData} {e3 : γ → PyData} {e4 : δ → PyData} : NN (tP4 e1 e2 e3 e4) := fun _ => rfl
theorem isN_O {α : Type} {e : α → PyData} (q : NN e) (x : Option α) : isN (tO e x) = x.isNone := by
  cases x with
  | none => rfl
  | some a => exact q a
theorem isN_O' {α : Type} {e : α → PyData} (q : NN e) (x : Option α) : (!isN (tO e x)) = x.isSome := by
  cases x with
  | none => rfl
  | some a => show (!isN (e a)) = true; rw [q a]; rfl
theorem EqE.I {k : Nat} : EqE tI k := ⟨fun a => by cases k <;> rfl, eqv_int⟩
theorem EqE.B {k : Nat} : EqE tB k := ⟨fun a => by cases k <;> rfl, eqv_bool⟩
theorem EqE.S {k : Nat} : EqE tS k := ⟨fun a => by cases k <;> simpa using toS_ok a, fun a b => by
  have h : PyData.eqv (.str (toS a)) (.str (toS b)) = decide (toS a = toS b) := by
    rw [PyData.eqv]
    by_cases h : toS a = toS b <;> simp [h]
  show PyData.eqv (.str (toS a)) (.str (toS b)) = _
  rw [h]
  exact decide_eq_decide.mpr toS_inj⟩
section
variable {α β γ δ : Type} [DecidableEq α] [DecidableEq β] [DecidableEq γ] [DecidableEq δ] {e : α → PyData} {e2 : β → PyData} {e3 : γ → PyData} {e4 : δ → PyData} {k : Nat}
theorem all_pk (q : EqE e k) (xs : List α) : (xs.map e).all (Ce.pk k) = true := by
  rw [List.all_eq_true]
  intro d hd
  obtain ⟨x, _, rfl⟩ := List.mem_map.mp hd
  exact q.pk x
theorem EqE.T (q : EqE e k) : EqE (tT e) (k + 1) := ⟨fun xs => by simpa using all_pk q xs, fun xs ys => by rw [PyData.eqv, eqvAll_map q.eq]⟩
theorem EqE.L (q : EqE e k) : EqE (tL e) (k + 1) := ⟨fun xs => by simpa using all_pk q xs, fun xs ys => by rw [PyData.eqv, eqvAll_map q.eq]⟩
theorem EqE.P2 (q : EqE e k) (q2 : EqE e2 k) : EqE (tP2 e e2) (k + 1) := ⟨fun p => by simp [q.pk, q2.pk], fun a b => by
  rw [PyData.eqv]
  simp only [PyData.eqvAll, q.eq, q2.eq, Bool.and_true]
  rw [← Bool.decide_and]
  congr 1
  rw [Prod.ext_iff]⟩
theorem EqE.P3 (q : EqE e k) (q2 : EqE e2 k) (q3 : EqE e3 k) : EqE (tP3 e e2 e3) (k + 1) := ⟨fun p => by simp [q.pk, q2.pk, q3.pk], fun a b => by
  rw [PyData.eqv]
  simp only [PyData.eqvAll, q.eq, q2.eq, q3.eq, Bool.and_true]
  rw [← Bool.decide_and, ← Bool.decide_and]
  congr 1
  rw [Prod.ext_iff, Prod.ext_iff]⟩
theorem EqE.P4 (q : EqE e k) (q2 : EqE e2 k) (q3 : EqE e3 k) (q4 : EqE e4 k) : EqE (tP4 e e2 e3 e4) (k + 1) := ⟨fun p => by simp [q.pk, q2.pk, q3.pk, q4.pk], fun a b => by
  rw [PyData.eqv]
  simp only [PyData.eqvAll, q.eq, q2.eq, q3.eq, q4.eq, Bool.and_true]
  rw [← Bool.decide_and, ← Bool.decide_and, ← Bool.decide_and]
  congr 1
  rw [Prod.ext_iff, Prod.ext_iff, Prod.ext_iff]⟩
theorem eqv_none {d : PyData} (h : isN d = false) : PyData.eqv .none d = false ∧ PyData.eqv d .none = false := by
  cases d <;> first | (cases h; done) | (constructor <;> (rw [PyData.eqv] <;> first | rfl | (intros; simp_all)))
theorem EqE.O (nn : NN e) (q : EqE e k) : EqE (tO e) k := ⟨fun p => by
  cases p with
  | none => cases k <;> rfl
  | some a => exact q.pk a, fun a b => by
  cases a with
  | none => cases b with
    | none => rw [PyData.eqv]; rfl
    | some b => show PyData.eqv .none (e b) = _; rw [(eqv_none (nn b)).1]; rfl
  | some a => cases b with
    | none => show PyData.eqv (e a) .none = _; rw [(eqv_none (nn a)).2]; rfl
    | some b => show PyData.eqv (e a) (e b) = _; rw [q.eq]; simp⟩
/-! comparisons -/
theorem C.eq (q : EqE e 16) {x y : α} : cmpop .eq (e x) (e y) = some (decide (x = y)) := by
  simp only [cmpop, isData, q.pk, Bool.and_self, if_true, q.eq]
theorem C.ne (q : EqE e 16) {x y : α} : cmpop .ne (e x) (e y) = some (!decide (x = y)) := by
  simp only [cmpop, isData, q.pk, Bool.and_self, if_true, q.eq]
theorem C.lt {x y : Int} : cmpop .lt (.int x) (.int y) = some (decide (x < y)) := rfl
theorem C.le {x y : Int} : cmpop .le (.int x) (.int y) = some (decide (x ≤ y)) := rfl
theorem C.gt {x y : Int} : cmpop .gt (.int x) (.int y) = some (decide (y < x)) := rfl
theorem C.ge {x y : Int} : cmpop .ge (.int x) (.int y) = some (decide (y ≤ x)) := rfl
theorem any_eqv (q : EqE e k) (x : α) (xs : List α) : ((xs.map e).any fun y => PyData.eqv y (e x)) = decide (x ∈ xs) := by
  rw [List.any_map]
  simp only [Function.comp_def, q.eq]
  exact any_mem x xs
theorem C.inT (q : EqE e 15) (q' : EqE e 16) {x : α} {xs : List α} [dI : Decidable (x ∈ xs)] : cmpop .isin (e x) (tT e xs) = some (decide (x ∈ xs)) := by
  have := (EqE.T q).pk xs
  simp only [cmpop, isData, q'.pk, this, Bool.and_self, if_true, any_eqv q]
  congr
theorem C.inL (q : EqE e 15) (q' : EqE e 16) {x : α} {xs : List α} [dI : Decidable (x ∈ xs)] : cmpop .isin (e x) (tL e xs) = some (decide (x ∈ xs)) := by
  have := (EqE.L q).pk xs
  simp only [cmpop, isData, q'.pk, this, Bool.and_self, if_true, any_eqv q]
  congr
theorem C.niT (q : EqE e 15) (q' : EqE e 16) {x : α} {xs : List α} [dI : Decidable (x ∈ xs)] : cmpop .notin (e x) (tT e xs) = some (!decide (x ∈ xs)) := by
  have := (EqE.T q).pk xs
  simp only [cmpop, isData, q'.pk, this, Bool.and_self, if_true, any_eqv q]
  congr
theorem C.niL (q : EqE e 15) (q' : EqE e 16) {x : α} {xs : List α} [dI : Decidable (x ∈ xs)] : cmpop .notin (e x) (tL e xs) = some (!decide (x ∈ xs)) := by
  have := (EqE.L q).pk xs
  simp only [cmpop, isData, q'.pk, this, Bool.and_self, if_true, any_eqv q]
  congr
end
/-! orders -/
def lx (s t : List (Int ⊕ List Nat)) : Bool := PyProof.Rows.lexLt PyProof.Rows.itemOrd s t
open PyProof.Rows in
structure TkE {α : Type} [DecidableEq α] [LT α] [DecidableLT α] (e : α → PyData) : Prop where
  al : ∀ a b, PySem.W.alike (e a) (e b) = true
  ir : ∀ a : α, ¬ a < a
  tk : ∀ (a b : α) (s t : List (Int ⊕ List Nat)), lx (PySem.W.keyToks (e a) ++ s) (PySem.W.keyToks (e b) ++ t) = (decide (a < b) || (decide (a = b) && lx s t))
open PyProof.Rows
theorem lex_cons (a b : Int ⊕ List Nat) (s t : List (Int ⊕ List Nat)) : lx (a :: s) (b :: t) = (itemOrd.blt a b || (!itemOrd.blt b a && lx s t)) := by
  unfold lx
  rw [PyProof.Rows.lexLt]
theorem lex_inl (a b : Int) (s t : List (Int ⊕ List Nat)) : lx (Sum.inl a :: s) (Sum.inl b :: t) = (decide (a < b) || (decide (a = b) && lx s t)) := by
  rw [lex_cons]
  show (decide (a < b) || (!decide (b < a) && _)) = _
  by_cases h : a < b
  · simp [h]
  · by_cases h2 : a = b
    · simp [h2]
    · have : b < a := by omega
      simp [h, h2, this]
theorem TkE.I : TkE tI := ⟨fun a b => by rw [PySem.W.alike], fun a => Int.lt_irrefl a, fun a b s t => by rw [PySem.W.keyToks, PySem.W.keyToks]; exact lex_inl a b s t⟩
section
variable {α β γ : Type} [DecidableEq α] [DecidableEq β] [DecidableEq γ] [LT α] [LT β] [LT γ] [DecidableLT α] [DecidableLT β] [DecidableLT γ] {e : α → PyData} {e2 : β → PyData} {e3 : γ → PyData}
theorem alikeAll_map (q : TkE e) : ∀ xs ys : List α, PySem.W.alikeAll (xs.map e) (ys.map e) = true
  | [], [] => by simp [PySem.W.alikeAll]
  | [], _ :: _ => by simp [PySem.W.alikeAll]
  | _ :: _, [] => by simp [PySem.W.alikeAll]
  | x :: xs, y :: ys => by rw [List.map_cons, List.map_cons, PySem.W.alikeAll, q.al, alikeAll_map q xs ys]; rfl
theorem toksAll_cons (d : PyData) (ds : List PyData) : PySem.W.keyToksAll (d :: ds) = Sum.inl 1 :: (PySem.W.keyToks d ++ PySem.W.keyToksAll ds) := by rw [PySem.W.keyToksAll]
theorem toksAll_nil : PySem.W.keyToksAll [] = [Sum.inl 0] := by rw [PySem.W.keyToksAll]
theorem tk_list (q : TkE e) : ∀ (xs ys : List α) (s t : List (Int ⊕ List Nat)), lx (PySem.W.keyToksAll (xs.map e) ++ s) (PySem.W.keyToksAll (ys.map e) ++ t) = (decide (xs < ys) || (decide (xs = ys) && lx s t))
  | [], [], s, t => by
    simp only [List.map_nil, toksAll_nil, List.cons_append, List.nil_append, lex_inl]
    simp
  | [], y :: ys, s, t => by
    simp only [List.map_nil, List.map_cons, toksAll_nil, toksAll_cons, List.cons_append, List.nil_append, lex_inl]
    simp
  | x :: xs, [], s, t => by
    simp only [List.map_nil, List.map_cons, toksAll_nil, toksAll_cons, List.cons_append, List.nil_append, lex_inl]
    simp
  | x :: xs, y :: ys, s, t => by
    simp only [List.map_cons, toksAll_cons, List.cons_append, lex_inl, List.append_assoc]
    rw [q.tk, tk_list q xs ys]
    have i1 := q.ir y
    simp only [List.cons_lt_cons_iff, List.cons.injEq]
    by_cases h1 : x < y <;> by_cases h2 : x = y <;> by_cases h3 : xs < ys <;> by_cases h4 : xs = ys <;> simp_all
theorem lt_irr (q : TkE e) : ∀ xs : List α, ¬ xs < xs
  | [] => by simp
  | x :: xs => by
    rw [List.cons_lt_cons_iff]
    rintro (h | h)
    · exact q.ir x h
    · exact lt_irr q xs h.2
theorem TkE.T (q : TkE e) : TkE (tT e) := ⟨fun a b => by rw [PySem.W.alike]; exact alikeAll_map q a b, lt_irr q, fun a b s t => by rw [PySem.W.keyToks, PySem.W.keyToks]; exact tk_list q a b s t⟩
theorem TkE.L (q : TkE e) : TkE (tL e) := ⟨fun a b => by rw [PySem.W.alike]; exact alikeAll_map q a b, lt_irr q, fun a b s t => by rw [PySem.W.keyToks, PySem.W.keyToks]; exact tk_list q a b s t⟩
theorem lt_prod (a b : α × β) : (a < b) ↔ (a.1 < b.1 ∨ (a.1 = b.1 ∧ a.2 < b.2)) := Iff.rfl
theorem TkE.P2 (q : TkE e) (q2 : TkE e2) : TkE (tP2 e e2) := ⟨fun a b => by
  rw [PySem.W.alike]
  simp only [PySem.W.alikeAll, q.al, q2.al, Bool.and_self], fun a h => by
  rcases h with h | h
  · exact q.ir _ h
  · exact q2.ir _ h.2, fun a b s t => by
  rw [PySem.W.keyToks, PySem.W.keyToks]
  simp only [toksAll_cons, toksAll_nil, List.cons_append, List.nil_append, lex_inl, List.append_assoc, q.tk, q2.tk]
  obtain ⟨a1, a2⟩ := a
  obtain ⟨b1, b2⟩ := b
  have i1 := q.ir b1
  have i2 := q2.ir b2
  simp only [lt_prod, Prod.mk.injEq]
  by_cases h1 : a1 < b1 <;> by_cases h2 : a1 = b1 <;> by_cases h3 : a2 < b2 <;> by_cases h4 : a2 = b2 <;> simp_all⟩
theorem TkE.P3 (q : TkE e) (q2 : TkE e2) (q3 : TkE e3) : TkE (tP3 e e2 e3) := ⟨fun a b => by
  rw [PySem.W.alike]
  simp only [PySem.W.alikeAll, q.al, q2.al, q3.al, Bool.and_self], fun a h => by
  rcases h with h | ⟨_, h | h⟩
  · exact q.ir _ h
  · exact q2.ir _ h
  · exact q3.ir _ h.2, fun a b s t => by
  rw [PySem.W.keyToks, PySem.W.keyToks]
  simp only [toksAll_cons, toksAll_nil, List.cons_append, List.nil_append, lex_inl, List.append_assoc, q.tk, q2.tk, q3.tk]
  obtain ⟨a1, a2, a3⟩ := a
  obtain ⟨b1, b2, b3⟩ := b
  have i1 := q.ir b1
  have i2 := q2.ir b2
  have i3 := q3.ir b3
  simp only [lt_prod, Prod.mk.injEq]
  by_cases h1 : a1 < b1 <;> by_cases h2 : a1 = b1 <;> by_cases h3 : a2 < b2 <;> by_cases h4 : a2 = b2 <;> by_cases h5 : a3 < b3 <;> by_cases h6 : a3 = b3 <;> simp_all⟩
theorem dataLt_e (q : TkE e) (a b : α) : PySem.W.dataLt (e a) (e b) = decide (a < b) := by
  have h := q.tk a b [] []
  rw [List.append_nil, List.append_nil] at h
  show lx _ _ = _
  rw [h]
  have : lx ([] : List (Int ⊕ List Nat)) [] = false := rfl
  rw [this]
  simp
theorem C.ltT (q : TkE e) (k : EqE (tT e) 16) {x y : List α} [dI : Decidable (x < y)] : cmpop .lt (tT e x) (tT e y) = some (decide (x < y)) := by
  have h1 := k.pk x
  have h2 := k.pk y
  have h3 := dataLt_e (TkE.T q) x y
  have h4 := (TkE.T q).al x y
  simp only [cmpop, isData, h1, h2, h3, h4, Bool.and_self, if_true]
  congr
theorem C.ltP2 (q : TkE e) (q2 : TkE e2) (k : EqE (tP2 e e2) 16) {x y : α × β} [dI : Decidable (x < y)] : cmpop .lt (tP2 e e2 x) (tP2 e e2 y) = some (decide (x < y)) := by
  have h1 := k.pk x
  have h2 := k.pk y
  have h3 := dataLt_e (TkE.P2 q q2) x y
  have h4 := (TkE.P2 q q2).al x y
  simp only [cmpop, isData, h1, h2, h3, h4, Bool.and_self, if_true]
  congr
/-- what may be sorted -/
structure SrE (e : α → PyData) : Prop where
  tk : TkE e
  dp : ∀ a, (e a).depth ≤ 64
  kd : (∀ a, ∃ xs, e a = .tuple xs) ∨ ∀ a, (match e a with | .none => false | .tuple _ => false | _ => true) = true
theorem sortd_srt (q : TkE e) (xs : List α) : sortd (xs.map e) = (srt xs).map e := by
  rw [Pu.sortd_map]
  unfold srt
  congr 2
  funext a b
  show (!PySem.W.dataLt (e b) (e a)) = _
  rw [dataLt_e q]
theorem sortable_e (q : SrE e) (xs : List α) : sortable (xs.map e) = true := by
  unfold sortable
  simp only [Bool.and_eq_true, Bool.or_eq_true, List.all_eq_true, List.mem_map, forall_exists_index, and_imp, forall_apply_eq_imp_iff₂, decide_eq_true_eq]
  refine ⟨⟨fun a _ b _ => q.tk.al a b, ?_⟩, fun a _ => q.dp a⟩
  rcases q.kd with h | h
  · exact .inl fun a _ => by obtain ⟨xs, hx⟩ := h a; rw [hx]
  · exact .inr fun a _ => h a
end
theorem SrE.I : SrE tI := ⟨TkE.I, fun a => by simp [PyData.depth], .inr fun _ => rfl⟩
section
variable {α β γ : Type} [DecidableEq α] [DecidableEq β] [DecidableEq γ] [LT α] [LT β] [LT γ] [DecidableLT α] [DecidableLT β] [DecidableLT γ] {e : α → PyData} {e2 : β → PyData} {e3 : γ → PyData}
theorem SrE.T (q : TkE e) (k : EqE (tT e) 16) : SrE (tT e) := ⟨TkE.T q, fun a => Pu.depth_pk (k.pk a) (by omega), .inl fun a => ⟨_, rfl⟩⟩
theorem SrE.P2 (q : TkE e) (q2 : TkE e2) (k : EqE (tP2 e e2) 16) : SrE (tP2 e e2) := ⟨TkE.P2 q q2, fun a => Pu.depth_pk (k.pk a) (by omega), .inl fun a => ⟨_, rfl⟩⟩
theorem SrE.P3 (q : TkE e) (q2 : TkE e2) (q3 : TkE e3) (k : EqE (tP3 e e2 e3) 16) : SrE (tP3 e e2 e3) := ⟨TkE.P3 q q2 q3, fun a => Pu.depth_pk (k.pk a) (by omega), .inl fun a => ⟨_, rfl⟩⟩
variable {Φ : Fns} {ρ : Rho} {bor : Bool} {a : Ex}
theorem EV.srtL (q : SrE e) {xs : List α} (h : EV Φ ρ true a (tL e xs)) (hl : xs.length ≤ LIM) : EV Φ ρ bor (.bi .sorted a) (tL e (srt xs)) := EV.bi h (by
  simp only [biop_c2, tL, seq?, Option.bind_some]
  rw [gd_pos ⟨sortable_e q xs, by simpa using hl⟩, sortd_srt q.tk])
theorem EV.srtT (q : SrE e) {xs : List α} (h : EV Φ ρ true a (tT e xs)) (hl : xs.length ≤ LIM) : EV Φ ρ bor (.bi .sorted a) (tL e (srt xs)) := EV.bi h (by
  simp only [biop_c2, tT, seq?, Option.bind_some]
  rw [gd_pos ⟨sortable_e q xs, by simpa using hl⟩, sortd_srt q.tk])
end
/-- what may be the least -/
structure MmE {α : Type} [LT α] [DecidableEq α] [DecidableLT α] (e : α → PyData) : Prop where
  tk : TkE e
  pk : ∀ a, pk 16 (e a) = true
  nm : ∀ a, (match e a with | .none => false | .list _ => false | .dict _ => false | _ => true) = true
theorem MmE.I : MmE tI := ⟨TkE.I, fun a => by simp, fun _ => rfl⟩
section
variable {α β γ : Type} [DecidableEq α] [DecidableEq β] [DecidableEq γ] [LT α] [LT β] [LT γ] [DecidableLT α] [DecidableLT β] [DecidableLT γ] {e : α → PyData} {e2 : β → PyData} {e3 : γ → PyData}
theorem MmE.T (q : TkE e) (k : EqE (tT e) 16) : MmE (tT e) := ⟨TkE.T q, k.pk, fun _ => rfl⟩
theorem MmE.P2 (q : TkE e) (q2 : TkE e2) (k : EqE (tP2 e e2) 16) : MmE (tP2 e e2) := ⟨TkE.P2 q q2, k.pk, fun _ => rfl⟩
theorem MmE.P3 (q : TkE e) (q2 : TkE e2) (q3 : TkE e3) (k : EqE (tP3 e e2 e3) 16) : MmE (tP3 e e2 e3) := ⟨TkE.P3 q q2 q3, k.pk, fun _ => rfl⟩
theorem mmOk_e (q : MmE e) (xs : List α) : mmOk (xs.map e) = true := by
  simp only [mmOk, Bool.and_eq_true, List.all_eq_true, List.mem_map, forall_exists_index, and_imp, forall_apply_eq_imp_iff₂]
  exact ⟨fun a _ => q.pk a, fun a _ b _ => q.tk.al a b, fun a _ => q.nm a⟩
theorem maxd_e (q : TkE e) : ∀ (xs : List α) (x : α), maxd (e x) (xs.map e) = e (xs.foldl (fun a y => if a < y then y else a) x)
  | [], x => rfl
  | y :: ys, x => by
    have := maxd_e q ys (if x < y then y else x)
    unfold maxd at this ⊢
    rw [List.map_cons, List.foldl_cons, List.foldl_cons, dataLt_e q, ← this]
    congr 1
    by_cases h : x < y <;> simp [h]
theorem mind_e (q : TkE e) : ∀ (xs : List α) (x : α), mind (e x) (xs.map e) = e (xs.foldl (fun a y => if y < a then y else a) x)
  | [], x => rfl
  | y :: ys, x => by
    have := mind_e q ys (if y < x then y else x)
    unfold mind at this ⊢
    rw [List.map_cons, List.foldl_cons, List.foldl_cons, dataLt_e q, ← this]
    congr 1
    by_cases h : y < x <;> simp [h]
variable {Φ : Fns} {ρ : Rho} {bor : Bool} {a : Ex}
theorem mmd_mx [Inhabited α] (q : MmE e) {xs : List α} (ok : xs ≠ []) : mmd true (xs.map e) = some (e (mx1 xs)) := by
  cases xs with
  | nil => exact absurd rfl ok
  | cons x xs =>
    have h := mmOk_e q (x :: xs)
    rw [List.map_cons] at h
    rw [List.map_cons, mmd, if_pos h, if_pos rfl, maxd_e q.tk]; rfl
theorem mmd_mn [Inhabited α] (q : MmE e) {xs : List α} (ok : xs ≠ []) : mmd false (xs.map e) = some (e (mn1 xs)) := by
  cases xs with
  | nil => exact absurd rfl ok
  | cons x xs =>
    have h := mmOk_e q (x :: xs)
    rw [List.map_cons] at h
    rw [List.map_cons, mmd, if_pos h, if_neg (by decide), mind_e q.tk]; rfl
theorem EV.maxL [Inhabited α] (q : MmE e) {xs : List α} (h : EV Φ ρ true a (tL e xs)) (ok : xs ≠ []) : EV Φ ρ bor (.bi .max a) (e (mx1 xs)) := EV.bi h (by rw [biop_c4]; exact mmd_mx q ok)
theorem EV.maxT [Inhabited α] (q : MmE e) {xs : List α} (h : EV Φ ρ true a (tT e xs)) (ok : xs ≠ []) : EV Φ ρ bor (.bi .max a) (e (mx1 xs)) := EV.bi h (by rw [biop_c4]; exact mmd_mx q ok)
theorem EV.minL [Inhabited α] (q : MmE e) {xs : List α} (h : EV Φ ρ true a (tL e xs)) (ok : xs ≠ []) : EV Φ ρ bor (.bi .min a) (e (mn1 xs)) := EV.bi h (by rw [biop_c5]; exact mmd_mn q ok)
theorem EV.minT [Inhabited α] (q : MmE e) {xs : List α} (h : EV Φ ρ true a (tT e xs)) (ok : xs ≠ []) : EV Φ ρ bor (.bi .min a) (e (mn1 xs)) := EV.bi h (by rw [biop_c5]; exact mmd_mn q ok)
end
end Sh

set_option maxHeartbeats 4000000
/-! Typed functions: the laws' _law_is. -/
noncomputable section
namespace Sh
open PySem Ce Cs Pu

def isI : PyData → Bool
  | .int _ => true
  | _ => false
mutual
/-- what _law_is tells -/
def deq : PyData → PyData → Bool
  | x, .none => isN x
  | .bool a, .bool b => decide (a = b)
  | .int a, .int b => decide (a = b)
  | .str a, .str b => decide (a = b)
  | .tuple xs, .tuple ys => deqs xs ys
  | _, _ => false
def deqs : List PyData → List PyData → Bool
  | [], [] => true
  | x :: xs, y :: ys => deq x y && deqs xs ys
  | _, _ => false
end
theorem deqs_len : ∀ (xs ys : List PyData), xs.length ≠ ys.length → deqs xs ys = false
  | [], [], h => absurd rfl h
  | [], _ :: _, _ => by rw [deqs] <;> simp
  | _ :: _, [], _ => by rw [deqs] <;> simp
  | x :: xs, y :: ys, h => by
    rw [deqs, deqs_len xs ys (fun z => h (by simp [z]))]
    simp
theorem deqs_all : ∀ (xs ys : List PyData), xs.length = ys.length → deqs xs ys = (List.range ys.length).all fun i => deq (xs.getD i .none) (ys.getD i .none)
  | [], [], _ => by rw [deqs]; rfl
  | [], _ :: _, h => by simp at h
  | _ :: _, [], h => by simp at h
  | x :: xs, y :: ys, h => by
    rw [deqs, deqs_all xs ys (by simpa using h), List.length_cons, List.range_succ_eq_map, List.all_cons, List.all_map]
    rfl
variable {Φ : Fns} {W : Nat}
theorem isI_run {d : PyData} {q : Nat} (h : pk q d = true) : runD Φ W 1 bIsInt [d] = some (.bool (isI d)) := by
  cases d <;> first | (simp [bIsInt, isI]; done) | (cases q <;> simp at h)
theorem lawIs_gen {j k : Nat} {x y : PyData} {m q : Nat} (hy : pl m y = true) (hx : pk q x = true) (hj : ∀ d, pk q d = true → Φ j [d] = some (.bool (isI d)))
    (hk : ∀ xs ys, x = .tuple xs → y = .tuple ys → xs.length = ys.length → ∀ i, i < ys.length → Φ k [xs.getD i .none, ys.getD i .none] = some (.bool (deq (xs.getD i .none) (ys.getD i .none)))) : runD Φ W 3 (bLawIs j k) [x, y] = some (.bool (deq x y)) := by
  cases y with
  | none => simp [bLawIs, deq]
  | bool b => cases x <;> first | (simp [bLawIs, deq]; done) | (cases q <;> simp at hx)
  | int b => cases x <;> first | (simp [bLawIs, hj _ hx, isI, deq]; done) | (cases q <;> simp at hx)
  | str s =>
    have hs : PyData.strOk s = true := by
      cases m <;> simpa [pl] using hy
    cases x with
    | str s' =>
      have hs' : PyData.strOk s' = true := by
        cases q <;> simpa using hx
      simp [bLawIs, hs, hs', deq]
    | dict => cases q <;> simp at hx
    | _ => simp [bLawIs, deq]
  | list xs => cases m <;> simp [pl] at hy
  | dict xs => cases m <;> simp [pl] at hy
  | tuple ys =>
    have hl : ys.length ≤ 100000 := by
      cases m with
      | zero => simp [pl] at hy
      | succ m =>
        simp only [pl, Bool.and_eq_true, decide_eq_true_eq] at hy
        exact hy.1
    cases x with
    | dict => cases q <;> simp at hx
    | tuple xs =>
      by_cases hlen : xs.length = ys.length
      · simp [bLawIs, hlen]
        rw [rngI (by omega) (by omega) (by omega) (by omega)]
        simp
        rw [gd_pos (lim_ok (by rw [ivs_length]; omega)), lc_bools (p := fun i => deq (xs.getD i.toNat .none) (ys.getD i.toNat .none))]
        · simp only [Option.bind_some, Option.map_some, bools_of, Bool.and_true, deq]
          rw [deqs_all xs ys hlen]
          simp [ivs, List.all_map, Function.comp_def]
        · intro i hi
          have hi' := mem_ivs.mp hi
          have h1 : L2.atI xs i = some (xs.getD i.toNat .none) := by
            rw [atI_of (by omega) (by omega), List.getD_eq_getElem?_getD, List.getElem?_eq_getElem (by omega)]
            rfl
          have h2 : L2.atI ys i = some (ys.getD i.toNat .none) := by
            rw [atI_of (by omega) (by omega), List.getD_eq_getElem?_getD, List.getElem?_eq_getElem (by omega)]
            rfl
          have h3 := hk xs ys rfl rfl hlen i.toNat (by omega)
          simp only [List.getD_eq_getElem?_getD] at h1 h2 h3 ⊢
          simp [h1, h2, h3]
      · have h2 : ¬ (xs.length : Int) = ys.length := by omega
        simp [bLawIs, hlen, h2, deq, deqs_len _ _ hlen]
    | _ => simp [bLawIs, deq]
def IsD (D : List CD) (W : Nat) (k : Nat) : Prop := ∀ (m q : Nat) (x y : PyData), pl m y = true → pk q x = true → ∀ n, m + 2 ≤ n → den W D n k [x, y] = some (.bool (deq x y))
theorem pk_get {q : Nat} {xs : List PyData} (h : pk (q + 1) (.tuple xs) = true) {i : Nat} (hi : i < xs.length) : pk q (xs.getD i .none) = true := by
  simp only [pk, List.all_eq_true] at h
  rw [List.getD_eq_getElem?_getD, List.getElem?_eq_getElem hi]
  exact h _ (List.getElem_mem hi)
theorem isD_of {D : List CD} {W j k : Nat} {dj dk : CD} (h1 : D[j]? = some dj) (h2 : D[k]? = some dk) (e1 : dj.ps.length = 1) (e2 : dk.ps.length = 2) (b1 : dj.body = bIsInt) (b2 : dk.body = bLawIs j k) (n1 : dj.N.length = 1) (n2 : dk.N.length = 3) : IsD D W k := by
  intro m
  induction m with
  | zero =>
    intro q x y hy hx n hn
    obtain ⟨n, rfl⟩ : ∃ i, n = i + 2 := ⟨n - 2, by omega⟩
    rw [den_run (n := n + 1) h2 (by rw [e2]; rfl), b2, n2]
    refine lawIs_gen hy hx (fun d hd => ?_) (fun xs ys e1 e2 _ => ?_)
    · rw [den_run h1 (by rw [e1]; rfl), b1, n1]; exact isI_run hd
    · subst e2; simp [pl] at hy
  | succ m ih =>
    intro q x y hy hx n hn
    obtain ⟨n, rfl⟩ : ∃ i, n = i + 2 := ⟨n - 2, by omega⟩
    rw [den_run (n := n + 1) h2 (by rw [e2]; rfl), b2, n2]
    refine lawIs_gen hy hx (fun d hd => ?_) (fun xs ys e1 e2 hl i hi => ?_)
    · rw [den_run h1 (by rw [e1]; rfl), b1, n1]; exact isI_run hd
    · subst e1; subst e2
      simp only [pl, Bool.and_eq_true, decide_eq_true_eq, List.all_eq_true] at hy
      cases q with
      | zero => simp at hx
      | succ q =>
        refine ih q _ _ ?_ (pk_get hx (by omega)) (n + 1) (by omega)
        rw [List.getD_eq_getElem?_getD, List.getElem?_eq_getElem hi]
        exact hy.2 _ (List.getElem_mem hi)
/-! typed -/
structure DqE {α : Type} [DecidableEq α] (e : α → PyData) : Prop where
  eq : ∀ a b, deq (e a) (e b) = decide (a = b)
theorem DqE.I : DqE tI := ⟨fun a b => by rw [deq]⟩
theorem DqE.B : DqE tB := ⟨fun a b => by rw [deq]⟩
theorem DqE.S : DqE tS := ⟨fun a b => by
  show deq (.str (toS a)) (.str (toS b)) = _
  rw [deq]
  exact decide_eq_decide.mpr toS_inj⟩
section
variable {α β γ δ : Type} [DecidableEq α] [DecidableEq β] [DecidableEq γ] [DecidableEq δ] {e : α → PyData} {e2 : β → PyData} {e3 : γ → PyData} {e4 : δ → PyData} {k : Nat}
theorem deqs_map (q : DqE e) : ∀ xs ys : List α, deqs (xs.map e) (ys.map e) = decide (xs = ys)
  | [], [] => by simp [deqs]
  | [], _ :: _ => by simp [deqs]
  | _ :: _, [] => by simp [deqs]
  | x :: xs, y :: ys => by
    rw [List.map_cons, List.map_cons, deqs, q.eq, deqs_map q xs ys, ← Bool.decide_and]
    congr 1
    simp
theorem DqE.T (q : DqE e) : DqE (tT e) := ⟨fun xs ys => by rw [deq]; exact deqs_map q xs ys⟩
theorem DqE.P2 (q : DqE e) (q2 : DqE e2) : DqE (tP2 e e2) := ⟨fun a b => by
  rw [deq]
  simp only [deqs, q.eq, q2.eq, Bool.and_true]
  rw [← Bool.decide_and]
  congr 1
  rw [Prod.ext_iff]⟩
theorem DqE.P3 (q : DqE e) (q2 : DqE e2) (q3 : DqE e3) : DqE (tP3 e e2 e3) := ⟨fun a b => by
  rw [deq]
  simp only [deqs, q.eq, q2.eq, q3.eq, Bool.and_true]
  rw [← Bool.decide_and, ← Bool.decide_and]
  congr 1
  rw [Prod.ext_iff, Prod.ext_iff]⟩
theorem DqE.P4 (q : DqE e) (q2 : DqE e2) (q3 : DqE e3) (q4 : DqE e4) : DqE (tP4 e e2 e3 e4) := ⟨fun a b => by
  rw [deq]
  simp only [deqs, q.eq, q2.eq, q3.eq, q4.eq, Bool.and_true]
  rw [← Bool.decide_and, ← Bool.decide_and, ← Bool.decide_and]
  congr 1
  rw [Prod.ext_iff, Prod.ext_iff, Prod.ext_iff]⟩
theorem deq_none {d : PyData} (h : isN d = false) : deq .none d = false ∧ deq d .none = false := by
  refine ⟨?_, by rw [deq]; exact h⟩
  cases d <;> first | (cases h; done) | (rw [deq] <;> first | rfl | (intros; simp_all))
theorem DqE.O (nn : NN e) (q : DqE e) : DqE (tO e) := ⟨fun a b => by
  cases a with
  | none => cases b with
    | none => rw [deq]; rfl
    | some b => show deq .none (e b) = _; rw [(deq_none (nn b)).1]; rfl
  | some a => cases b with
    | none => show deq (e a) .none = _; rw [(deq_none (nn a)).2]; rfl
    | some b => show deq (e a) (e b) = _; rw [q.eq]; simp⟩
/-- a call of _law_is -/
theorem isD_call {D : List CD} {W li : Nat} (h : IsD D W li) (q : DqE e) (p : EqE e 16) {a b : α} {n : Nat} (hn : 10 ≤ n) (ok : pl 8 (e b) = true) : den W D n li [e a, e b] = some (.bool (decide (a = b))) := by
  rw [h 8 16 _ _ ok (p.pk a) n hn, q.eq]
end
section
variable {α β γ δ : Type} {e : α → PyData} {e2 : β → PyData} {e3 : γ → PyData} {e4 : δ → PyData} {k : Nat}
@[simp] theorem pl_I (x : Int) : pl k (tI x) = true := by cases k <;> rfl
@[simp] theorem pl_B (x : Bool) : pl k (tB x) = true := by cases k <;> rfl
@[simp] theorem pl_S (x : Tx) : pl k (tS x) = true := by cases k <;> exact toS_ok x
@[simp] theorem pl_N : pl k .none = true := by cases k <;> rfl
@[simp] theorem pl_T (xs : List α) : pl (k + 1) (tT e xs) = true ↔ xs.length ≤ 100000 ∧ ∀ x ∈ xs, pl k (e x) = true := by
  simp [pl]
@[simp] theorem pl_P2 (p : α × β) : pl (k + 1) (tP2 e e2 p) = true ↔ pl k (e p.1) = true ∧ pl k (e2 p.2) = true := by
  simp [pl]
@[simp] theorem pl_P3 (p : α × β × γ) : pl (k + 1) (tP3 e e2 e3 p) = true ↔ pl k (e p.1) = true ∧ pl k (e2 p.2.1) = true ∧ pl k (e3 p.2.2) = true := by
  simp [pl]
@[simp] theorem pl_P4 (p : α × β × γ × δ) : pl (k + 1) (tP4 e e2 e3 e4 p) = true ↔ pl k (e p.1) = true ∧ pl k (e2 p.2.1) = true ∧ pl k (e3 p.2.2.1) = true ∧ pl k (e4 p.2.2.2) = true := by
  simp [pl]
@[simp] theorem pl_O (p : Option α) : pl k (tO e p) = true ↔ ∀ x, p = some x → pl k (e x) = true := by
  cases p <;> simp
end
end Sh

set_option maxHeartbeats 4000000
/-! Typed functions: small parts. -/
noncomputable section
namespace Sh
open PySem Ce Cs Pu

theorem isSome_ne {α : Type} {x : Option α} (h : x.isSome = true) : x ≠ none := by rintro rfl; cases h
theorem isNone_ne {α : Type} {x : Option α} (h : x.isNone = false) : x ≠ none := by rintro rfl; cases h
theorem not_t {b : Bool} (h : (!b) = true) : b = false := by simpa using h
theorem not_f {b : Bool} (h : (!b) = false) : b = true := by simpa using h
theorem and_l {a b : Bool} (h : (a && b) = true) : a = true := by simp at h; exact h.1
theorem and_r {a b : Bool} (h : (a && b) = true) : b = true := by simp at h; exact h.2
theorem or_l {a b : Bool} (h : (a || b) = false) : a = false := by simp at h; exact h.1
theorem or_r {a b : Bool} (h : (a || b) = false) : b = false := by simp at h; exact h.2
theorem ifT (c : Prop) [Decidable c] : if c then True else True := by split <;> trivial
theorem okF_T {α S : Type} (step : S → α → S) : ∀ (xs : List α) (s : S), okF step (fun _ _ => True) xs s
  | [], _ => trivial
  | _ :: xs, _ => ⟨trivial, okF_T step xs _⟩
theorem okL_T {α S β : Type} (step : S → α → Ctl S β) : ∀ (xs : List α) (s : S), okL step (fun _ _ => True) xs s
  | [], _ => trivial
  | x :: xs, s => ⟨trivial, by
    cases step s x with
    | nx s' => exact okL_T step xs s'
    | _ => trivial⟩
theorem goP_T {S β : Type} (c : Ctl S β) : goP c fun _ => True := by cases c <;> trivial
theorem gOk.md {α : Type} {xs : List α} {x k : Int} (h0 : 0 < k) (h : k.toNat ≤ xs.length) : gOk xs (x % k) := by
  have h1 := Int.emod_nonneg x (show k ≠ 0 by omega)
  have h2 := Int.emod_lt_of_pos x h0
  constructor <;> omega
theorem rOk.lim {a b : Int} (h : rOk a b) : (ivs a b).length ≤ LIM := by
  obtain ⟨h1, h2, h3, h4⟩ := h
  rw [ivs_length]
  unfold LIM
  omega
/-- xs * n -/
def repl {α : Type} (xs : List α) (n : Int) : List α := (List.replicate n.toNat xs).flatten
def rpOk {α : Type} (xs : List α) (n : Int) : Prop := n ≤ 1000000 ∧ xs.length * n.toNat ≤ LIM
section
variable {Φ : Fns} {ρ : Rho} {bor : Bool} {a : Ex} {α : Type} {en : α → PyData}
theorem EV.nn0 : EV Φ ρ bor .non (tO en none) := EV.non
theorem EV.sm {x : α} (h : EV Φ ρ bor a (en x)) : EV Φ ρ bor a (tO en (some x)) := h
theorem EV.ov [Inhabited α] {x : Option α} (hx : x ≠ none) (h : EV Φ ρ bor a (tO en x)) : EV Φ ρ bor a (en (ov x)) := by
  cases x with
  | none => exact absurd rfl hx
  | some y => exact h
theorem TS.T {xs : List α} (h : EV Φ ρ true a (tT en xs)) : TS Φ ρ a (!xs.isEmpty) := TS.of h (by simp [Ce.truthy])
theorem TS.L {xs : List α} (h : EV Φ ρ true a (tL en xs)) : TS Φ ρ a (!xs.isEmpty) := TS.of h (by simp [Ce.truthy])
theorem TS.I {x : Int} (h : EV Φ ρ true a (.int x)) : TS Φ ρ a (x != 0) := TS.of h rfl
theorem EV.powk {x : Int} (k : Nat) (h1 : EV Φ ρ true a (.int x)) (ok : k ≤ 1000000) (hx : x.natAbs < 2 ^ 64) : EV Φ ρ bor (.bin .pow a (.int k)) (.int (x ^ k)) := by
  have := EV.pow (bor := bor) h1 (EV.int (n := (k : Int))) ⟨by omega, by omega, hx⟩
  simpa using this
theorem isTy_O {T : Tyn} (h : ∀ x : α, isTy T (en x) = some true) (hn : isTy T .none = some false) (x : Option α) : isTy T (tO en x) = some x.isSome := by
  cases x with
  | none => exact hn
  | some y => exact h y
theorem tupI_map : ∀ xs : List (List Int), tupI? (xs.map (tT tI)) = some xs
  | [] => rfl
  | x :: xs => by
    show (ints? (x.map .int)).bind _ = _
    rw [ints_of]
    show (tupI? (xs.map (tT tI))).map _ = _
    rw [tupI_map xs]
    rfl
theorem setd_rows {xs : List (List Int)} (h : xs.length < 64) : setd? (xs.map (tT tI)) = some ((setT xs).map (tT tI)) := by
  unfold setd?
  rw [gd_pos (by simpa using h)]
  cases xs with
  | nil => simp [ints?, setI, setT, nub]
  | cons x xs =>
    have h1 : ints? ((x :: xs).map (tT tI)) = none := by simp [ints?]
    rw [h1, tupI_map]
    rfl
theorem EV.lenSetT {xs : List (List Int)} {d : PyData} (h : EV Φ ρ true a d) (hs : seq? d = some (xs.map (tT tI))) (ok : xs.length < 64) : EV Φ ρ bor (.st true a) (.int (setT xs).length) := fun ρ' q => by
  rw [ev_e28, h ρ' q]
  show (seq? d).bind _ = _
  rw [hs]
  show (setd? _).map _ = _
  rw [setd_rows ok]
  simp
theorem EV.sortSetT {xs : List (List Int)} {d : PyData} (h : EV Φ ρ true a d) (hs : seq? d = some (xs.map (tT tI))) (ok : xs.length < 64) : EV Φ ρ bor (.st false a) (tL (tT tI) (setT xs)) := fun ρ' q => by
  rw [ev_e28, h ρ' q]
  show (seq? d).bind _ = _
  rw [hs]
  show (setd? _).map _ = _
  rw [setd_rows ok]
  simp
theorem pl_O_I {k : Nat} (x : Option Int) : pl k (tO tI x) = true := by cases x <;> cases k <;> rfl
theorem pl_O_B {k : Nat} (x : Option Bool) : pl k (tO tB x) = true := by cases x <;> cases k <;> rfl
end
end Sh

set_option maxHeartbeats 4000000
/-! Typed functions: more forms. -/
noncomputable section
namespace Sh
open PySem Ce Cs Pu

/-- the place of an index -/
def ixz {α : Type} (xs : List α) (i : Int) : Nat := if 0 ≤ i then i.toNat else (xs.length + i).toNat
def stAt {α : Type} (xs : List α) (i : Int) (v : α) : List α := xs.set (ixz xs i) v
def popAll {α β : Type} [Inhabited α] (f : List α → β → Int) : List β → List α → List α
  | [], _ => []
  | b :: bs, ls => gi ls (f ls b) :: popAll f bs (ls.eraseIdx (ixz ls (f ls b)))
def okP {α β : Type} (f : List α → β → Int) (ok : List α → β → Prop) : List β → List α → Prop
  | [], _ => True
  | b :: bs, ls => ok ls b ∧ gOk ls (f ls b) ∧ ls.length ≤ LIM ∧ okP f ok bs (ls.eraseIdx (ixz ls (f ls b)))
theorem ixN_ixz {α : Type} {xs : List α} {i : Int} (h : gOk xs i) : L2.ixN xs.length i = some (ixz xs i) ∧ ixz xs i < xs.length := by
  obtain ⟨h1, h2⟩ := h
  unfold L2.ixN ixz
  by_cases h : 0 ≤ i
  · rw [if_pos h, if_pos h2, if_pos h]
    exact ⟨rfl, by omega⟩
  · rw [if_neg h, if_pos h1, if_neg h, Int.add_comm]
    exact ⟨rfl, by omega⟩
theorem gi_get {α : Type} [Inhabited α] {xs : List α} {i : Int} (h : gOk xs i) : xs[ixz xs i]? = some (gi xs i) := by
  have hl := (ixN_ixz h).2
  unfold ixz at hl ⊢
  unfold gi
  split
  · rename_i h0
    rw [if_pos h0] at hl
    simp [List.getD, List.getElem?_eq_getElem hl]
  · rename_i h0
    rw [if_neg h0] at hl
    simp [List.getD, List.getElem?_eq_getElem hl]
theorem dropOw_le {a b : Rho} (h : Le a b) : Le (dropOw a) (dropOw b) := ⟨by unfold dropOw; simp [h.1], fun i s e => by
  rw [dropOw_get] at e ⊢
  cases q : a[i]? with
  | none => rw [q] at e; cases e
  | some x =>
    rw [q] at e
    rcases h.2 i x q with z | z
    · subst z; cases e; exact .inl rfl
    · rw [z]; exact .inr e⟩
def TSo (Φ : Fns) (ρ : Rho) (o : Exo) (b : Bool) : Prop := ∀ ρ', Le ρ ρ' → tsto Φ o ρ' = some b
theorem lcN_map {α γ : Type} {ea : α → PyData} {eg : γ → PyData} {f : PyData → Option (List PyData)} {p : α → Bool} {h : α → List γ} : ∀ {xs : List α}, (∀ x ∈ xs, f (ea x) = some (if p x = true then (h x).map eg else [])) → lcN f (xs.map ea) = some (((xs.filter p).flatMap h).map eg)
  | [], _ => rfl
  | x :: xs, hf => by
    have ih := lcN_map (ea := ea) (eg := eg) (f := f) (p := p) (h := h) (xs := xs) fun y hy => hf y (List.mem_cons_of_mem _ hy)
    rw [List.map_cons, lcN, hf x List.mem_cons_self]
    simp only [Option.bind_some, ih, Option.map_some, List.filter_cons]
    split <;> simp
section
variable {Φ : Fns} {ρ : Rho} {bor : Bool} {a b c c1 : Ex} {n : Nat} {P : Res → Prop} {K : List Sms} {r : Sms}
theorem TSo.no : TSo Φ ρ .no true := fun _ _ => by rw [tsto_e0]
theorem TSo.yes {t : Bool} (h : TS Φ ρ c t) : TSo Φ ρ (.yes c) t := fun ρ' l => by rw [tsto_e1]; exact h ρ' l
theorem EV.lc2G {α β γ : Type} {ea : α → PyData} {eb : β → PyData} {eg : γ → PyData} {xs : List α} {p : α → Bool} {ys : α → List β} {q : α → β → Bool} {g : α → β → γ} {tg tg1 : Tg} {i i1 : Ce.It} {ifs ifs1 : Exo} (R : α → Rho) (R1 : α → β → Rho) (hi : IT Φ ρ true i (xs.map ea)) (hb : ∀ x, bindT tg (ea x) (wipeR ρ (slots tg ++ slots tg1)) = some (R x)) (hc : ∀ x ∈ xs, TSo Φ (R x) ifs (p x))
    (hi1 : ∀ x ∈ xs, p x = true → IT Φ (dropOw (R x)) false i1 ((ys x).map eb)) (hb1 : ∀ x y, bindT tg1 (eb y) (wipeR (dropOw (R x)) (slots tg1)) = some (R1 x y)) (hc1 : ∀ x ∈ xs, p x = true → ∀ y ∈ ys x, TSo Φ (R1 x y) ifs1 (q x y)) (he : ∀ x ∈ xs, p x = true → ∀ y ∈ ys x, q x y = true → EV Φ (R1 x y) false a (eg (g x y)))
    (hl : ((xs.filter p).flatMap fun x => ((ys x).filter (q x)).map (g x)).length ≤ LIM) : EV Φ ρ bor (.lc2 a tg i ifs tg1 i1 ifs1) (tL eg ((xs.filter p).flatMap fun x => ((ys x).filter (q x)).map (g x))) := fun ρ' l => by
  rw [ev_e29, hi ρ' l]
  show (lcN _ _).bind _ = _
  rw [lcN_map (ea := ea) (eg := eg) (p := p) (h := fun x => ((ys x).filter (q x)).map (g x))]
  · show gd _ _ = _
    rw [gd_pos (by simpa using hl)]
  · intro x hx
    obtain ⟨b1, k1, k2⟩ := bindT_le tg _ (l.wipe (slots tg ++ slots tg1)) (hb x)
    rw [k1]
    simp only [Option.bind_some, hc x hx b1 k2]
    by_cases hp : p x = true
    · simp only [hp, if_true]
      rw [hi1 x hx hp _ (dropOw_le k2)]
      simp only [Option.bind_some]
      rw [lcF_if (enc := eb) (enc' := eg) (p := q x) (g := g x)]
      intro y hy
      obtain ⟨b2, k3, k4⟩ := bindT_le tg1 _ ((dropOw_le k2).wipe (slots tg1)) (hb1 x y)
      rw [k3]
      simp only [Option.bind_some, hc1 x hx hp y hy b2 k4]
      by_cases hq : q x y = true
      · simp only [hq, if_true, he x hx hp y hy hq b2 k4, Option.map_some]
      · simp only [hq, if_false, Bool.false_eq_true]
    · simp only [hp, if_false, Bool.false_eq_true]
theorem zip_map {α β : Type} {ea : α → PyData} {eb : β → PyData} : ∀ (xs : List α) (ys : List β), List.zipWith (fun x y => PyData.tuple [x, y]) (xs.map ea) (ys.map eb) = (xs.zip ys).map (tP2 ea eb)
  | [], _ => by simp
  | _ :: _, [] => by simp
  | x :: xs, y :: ys => by
    rw [List.map_cons, List.map_cons, List.zipWith_cons_cons, List.zip_cons_cons, List.map_cons, zip_map xs ys]
theorem IT.zipT {α β : Type} {ea : α → PyData} {eb : β → PyData} {xs : List α} {ys : List β} (h1 : EV Φ ρ false a (tT ea xs)) (h2 : EV Φ ρ false b (tT eb ys)) : IT Φ ρ bor (.zip a b) ((xs.zip ys).map (tP2 ea eb)) := fun ρ' q => by
  rw [itms_e4, h1 ρ' q, h2 ρ' q, ← zip_map]; rfl
theorem IT.zipL {α β : Type} {ea : α → PyData} {eb : β → PyData} {xs : List α} {ys : List β} (h1 : EV Φ ρ false a (tL ea xs)) (h2 : EV Φ ρ false b (tL eb ys)) : IT Φ ρ bor (.zip a b) ((xs.zip ys).map (tP2 ea eb)) := fun ρ' q => by
  rw [itms_e4, h1 ρ' q, h2 ρ' q, ← zip_map]; rfl
theorem IT.rvT {α : Type} {e : α → PyData} {xs : List α} (h : EV Φ ρ false a (tT e xs)) : IT Φ ρ bor (.rv a) (xs.reverse.map e) := fun ρ' q => by
  rw [itms_e5, h ρ' q, List.map_reverse]; rfl
theorem IT.rvL {α : Type} {e : α → PyData} {xs : List α} (h : EV Φ ρ false a (tL e xs)) : IT Φ ρ bor (.rv a) (xs.reverse.map e) := fun ρ' q => by
  rw [itms_e5, h ρ' q, List.map_reverse]; rfl
theorem IT.rrng1 {m : Int} (h : EV Φ ρ true a (.int m)) (ok : rOk 0 m) : IT Φ ρ bor (.rrng (.rng1 a)) ((ivs 0 m).reverse.map tI) := fun ρ' q => by
  rw [itms_e6, IT.rng1 (bor := true) h ok ρ' q, List.map_reverse]; rfl
theorem IT.rrng2 {m k : Int} (h : EV Φ ρ true a (.int m)) (h2 : EV Φ ρ true b (.int k)) (ok : rOk m k) : IT Φ ρ bor (.rrng (.rng2 a b)) ((ivs m k).reverse.map tI) := fun ρ' q => by
  rw [itms_e7, IT.rng2 (bor := true) h h2 ok ρ' q, List.map_reverse]; rfl
theorem rOk.limr {a b : Int} (h : rOk a b) : (ivs a b).reverse.length ≤ LIM := by
  rw [List.length_reverse]; exact h.lim
/-! statements -/
theorem map_set' {α : Type} (e : α → PyData) : ∀ (xs : List α) (j : Nat) (v : α), (xs.map e).set j (e v) = (xs.set j v).map e
  | [], _, _ => rfl
  | x :: xs, 0, _ => rfl
  | x :: xs, j + 1, v => by rw [List.map_cons, List.set_cons_succ, List.set_cons_succ, List.map_cons, map_set' e xs]
theorem map_erase {α : Type} (e : α → PyData) : ∀ (xs : List α) (j : Nat), (xs.map e).eraseIdx j = (xs.eraseIdx j).map e
  | [], _ => rfl
  | x :: xs, 0 => rfl
  | x :: xs, j + 1 => by rw [List.map_cons, List.eraseIdx_cons_succ, List.eraseIdx_cons_succ, List.map_cons, map_erase e xs]
theorem ow_get {i : Nat} {d : PyData} {ρ' : Rho} (l : Le ρ ρ') (h : ρ[i]? = some (.ow d)) : ρ'[i]? = some (.ow d) := by
  rcases l.2 i _ h with z | z
  · cases z
  · exact z
theorem SK.putL {α γ : Type} {en : α → PyData} {xs : List α} {v : α} {j : Int} {k : List α → γ} {okk : List α → Prop} {Post : γ → Res → Prop} {x : Nat} (R : List α → Rho) (he : EV Φ ρ false a (en v)) (hi : EV Φ ρ true b (.int j)) (hx : ρ[x]? = some (.ow (tL en xs))) (ok : gOk xs j) (hb : ∀ y, ρ.set x (.ow (tL en y)) = R y) (ho : letv (stAt xs j v) okk) (hk : ∀ y, okk y → SK Φ n (r :: K) (R y) (Post (k y))) : SK Φ n (.cons (.put x b a) r :: K) ρ (Post (letv (stAt xs j v) k)) :=
  SK.step (ρ1 := R (stAt xs j v)) (fun ρ' l => by
    refine ⟨ρ'.set x (.ow (tL en (stAt xs j v))), ?_, by rw [← hb]; exact l.set x _⟩
    rw [exS_n0, he ρ' l, hi ρ' l]
    simp only [Option.bind_some, ow_get l hx, List.length_map, (ixN_ixz ok).1, Option.map_some, map_set']
    rfl) (hk _ ho)
theorem SK.extL {α γ : Type} {en : α → PyData} {xs ys : List α} {k : List α → γ} {okk : List α → Prop} {Post : γ → Res → Prop} {x : Nat} (R : List α → Rho) (he : EV Φ ρ false a (tL en ys)) (hx : ρ[x]? = some (.ow (tL en xs))) (ok : xs.length + ys.length ≤ LIM) (hb : ∀ y, ρ.set x (.ow (tL en y)) = R y) (ho : letv (xs ++ ys) okk) (hk : ∀ y, okk y → SK Φ n (r :: K) (R y) (Post (k y))) : SK Φ n (.cons (.ext x a) r :: K) ρ (Post (letv (xs ++ ys) k)) :=
  SK.step (ρ1 := R (xs ++ ys)) (fun ρ' l => by
    refine ⟨ρ'.set x (.ow (tL en (xs ++ ys))), ?_, by rw [← hb]; exact l.set x _⟩
    rw [exS_n1, he ρ' l]
    simp only [Option.bind_some, ow_get l hx, List.length_map, List.map_append]
    rw [gd_pos ok]
    simp only [tL, List.map_append]) (hk _ ho)
theorem SK.remL {γ : Type} {xs : List Int} {v : Int} {k : List Int → γ} {okk : List Int → Prop} {Post : γ → Res → Prop} {x : Nat} (R : List Int → Rho) (he : EV Φ ρ true a (.int v)) (hx : ρ[x]? = some (.ow (tL tI xs))) (ok : v ∈ xs) (hb : ∀ y, ρ.set x (.ow (tL tI y)) = R y) (ho : letv (xs.erase v) okk) (hk : ∀ y, okk y → SK Φ n (r :: K) (R y) (Post (k y))) : SK Φ n (.cons (.rem x a) r :: K) ρ (Post (letv (xs.erase v) k)) :=
  SK.step (ρ1 := R (xs.erase v)) (fun ρ' l => by
    refine ⟨ρ'.set x (.ow (tL tI (xs.erase v))), ?_, by rw [← hb]; exact l.set x _⟩
    rw [exS_n2, he ρ' l]
    simp only [Option.bind_some, ow_get l hx, ints_of]
    rw [if_pos ok]) (hk _ ho)
theorem SK.popL {α γ : Type} [Inhabited α] {en : α → PyData} {xs : List α} {j : Int} {k : α → List α → γ} {okk : α → List α → Prop} {Post : γ → Res → Prop} {x : Nat} {tg : Tg} (R : α → List α → Rho) (hi : EV Φ ρ true b (.int j)) (hx : ρ[x]? = some (.ow (tL en xs))) (ok : gOk xs j) (hl : xs.length ≤ LIM) (hn : x ∉ slots tg) (hb : ∀ y z, bindT tg (en y) (ρ.set x (.ow (tL en z))) = some (R y z)) (ho : letv (gi xs j) fun y => letv (xs.eraseIdx (ixz xs j)) fun z => okk y z)
    (hk : ∀ y z, okk y z → SK Φ n (r :: K) (R y z) (Post (k y z))) : SK Φ n (.cons (.popTo tg x (.yes b)) r :: K) ρ (Post (letv (gi xs j) fun y => letv (xs.eraseIdx (ixz xs j)) fun z => k y z)) :=
  SK.step (ρ1 := R (gi xs j) (xs.eraseIdx (ixz xs j))) (fun ρ' l => by
    obtain ⟨b1, k1, k2⟩ := bindT_le tg _ (l.set x (.ow (tL en (xs.eraseIdx (ixz xs j))))) (hb (gi xs j) (xs.eraseIdx (ixz xs j)))
    refine ⟨b1, ?_, k2⟩
    rw [exS_n3, evo_e1, hi ρ' l]
    simp only [Option.bind_some, ow_get l hx, popd, List.length_map]
    rw [gd_pos hl, (ixN_ixz ok).1]
    simp only [Option.bind_some, List.getElem?_map, gi_get ok, Option.map_some, map_erase]
    rw [if_neg hn]
    simp only [k1, Option.map_some]) (hk _ _ ho)
theorem SK.popE {α γ : Type} [Inhabited α] {en : α → PyData} {xs : List α} {k : α → List α → γ} {okk : α → List α → Prop} {Post : γ → Res → Prop} {x : Nat} {tg : Tg} (R : α → List α → Rho) (hx : ρ[x]? = some (.ow (tL en xs))) (ok : xs ≠ []) (hn : x ∉ slots tg) (hb : ∀ y z, bindT tg (en y) (ρ.set x (.ow (tL en z))) = some (R y z)) (ho : letv (gi xs (-1)) fun y => letv xs.dropLast fun z => okk y z)
    (hk : ∀ y z, okk y z → SK Φ n (r :: K) (R y z) (Post (k y z))) : SK Φ n (.cons (.popTo tg x .no) r :: K) ρ (Post (letv (gi xs (-1)) fun y => letv xs.dropLast fun z => k y z)) :=
  SK.step (ρ1 := R (gi xs (-1)) xs.dropLast) (fun ρ' l => by
    obtain ⟨b1, k1, k2⟩ := bindT_le tg _ (l.set x (.ow (tL en xs.dropLast))) (hb (gi xs (-1)) xs.dropLast)
    refine ⟨b1, ?_, k2⟩
    have hp := List.length_pos_iff.mpr ok
    have h2 : xs[xs.length - 1]? = some (gi xs (-1)) := by
      have := gi_get (xs := xs) (i := -1) ⟨by omega, by omega⟩
      have e : ixz xs (-1) = xs.length - 1 := by unfold ixz; rw [if_neg (by omega)]; omega
      rw [e] at this; exact this
    rw [exS_n3, evo_e0]
    simp only [Option.bind_some, ow_get l hx, popd, List.length_map, List.getElem?_map, h2, Option.map_some, ← List.map_dropLast]
    rw [if_neg hn]
    simp only [k1, Option.map_some]) (hk _ _ ho)
theorem SK.parL {α β γ : Type} {en : α → PyData} {em : β → PyData} {v : α} {w : β} {k : α × β → γ} {okk : α × β → Prop} {Post : γ → Res → Prop} {i j : Nat} (R : α × β → Rho) (h1 : EV Φ ρ false a (en v)) (h2 : EV Φ ρ false b (em w)) (hij : i ≠ j ∧ i < ρ.length ∧ j < ρ.length) (hb : ∀ q : α × β, (ρ.set i (.fz (en q.1))).set j (.fz (em q.2)) = R q) (ho : letv (v, w) okk) (hk : ∀ q, okk q → SK Φ n (r :: K) (R q) (Post (k q))) : SK Φ n (.cons (.par i j a b) r :: K) ρ (Post (letv (v, w) k)) :=
  SK.step (ρ1 := R (v, w)) (fun ρ' l => by
    refine ⟨(ρ'.set i (.fz (en v))).set j (.fz (em w)), ?_, by rw [← hb]; exact (l.set i _).set j _⟩
    rw [exS_n5, h1 ρ' l, h2 ρ' l]
    simp only [Option.bind_some]
    have l1 : List.length ρ' = List.length ρ := l.1
    rw [if_pos ⟨hij.1, by rw [l1]; exact hij.2.1, by rw [l1]; exact hij.2.2⟩]) (hk _ ho)
theorem popF_all {α β : Type} [Inhabited α] {ea : β → PyData} {en : α → PyData} {f : List α → β → Int} {ok : List α → β → Prop} {F : PyData → List PyData → Option (PyData × List PyData)} : ∀ (bs : List β) (ls : List α), (∀ ls b, b ∈ bs → ok ls b → gOk ls (f ls b) → ls.length ≤ LIM → F (ea b) (ls.map en) = some (en (gi ls (f ls b)), (ls.eraseIdx (ixz ls (f ls b))).map en)) → okP f ok bs ls → popF F (bs.map ea) (ls.map en) = some ((popAll f bs ls).map en)
  | [], _, _, _ => rfl
  | b :: bs, ls, h, ho => by
    rw [List.map_cons, popF, h ls b List.mem_cons_self ho.1 ho.2.1 ho.2.2.1]
    simp only [Option.bind_some]
    (rw [popF_all bs _ (fun ls b hb => h ls b (List.mem_cons_of_mem _ hb)) ho.2.2.2]) <;> rfl
theorem lpop_run {α β : Type} [Inhabited α] {en : α → PyData} {ea : β → PyData} {bs : List β} {ls : List α} {f : List α → β → Int} {ok : List α → β → Prop} {x : Nat} {tg : Tg} {i : Ce.It} (o : Option Nat) (R : List α → β → Rho) (hx : ρ[x]? = some (.ow (tL en ls))) (hn : x ∉ slots tg) (hi : IT Φ ρ false i (bs.map ea)) (hl : bs.length ≤ LIM) (hb : ∀ z y, bindT tg (ea y) (wipeR (ρ.set x (.ow (tL en z))) (slots tg)) = some (R z y))
    (he : ∀ z, ∀ y ∈ bs, ok z y → EV Φ (R z y) true a (.int (f z y))) (hok : okP f ok bs ls) {ρ' : Rho} (l : Le ρ ρ') : exS Φ n (.lpop o true x a tg i) ρ' = (match o with
      | none => some (.rt (tT en (popAll f bs ls)))
      | some j => if j < ρ'.length then some (.nx ((ρ'.set x .un).set j (.fz (tT en (popAll f bs ls))))) else none) := by
  rw [exS_n4]
  simp only [ow_get l hx]
  rw [if_neg hn, hi ρ' l]
  simp only [Option.bind_some, List.length_map]
  rw [gd_pos hl, popF_all (en := en) (ea := ea) (f := f) (ok := ok) bs ls]
  · (simp only [Option.bind_some, if_true]) <;> (cases o <;> rfl)
  · intro z y hy q1 q2 q3
    obtain ⟨b1, k1, k2⟩ := bindT_le tg _ ((l.set x (.ow (tL en z))).wipe (slots tg)) (hb z y)
    rw [k1]
    simp only [Option.bind_some, he z y hy q1 b1 k2, popd, List.length_map]
    rw [gd_pos q3, (ixN_ixz q2).1]
    simp only [Option.bind_some, List.getElem?_map, gi_get q2, Option.map_some, map_erase]
  · exact hok
theorem SK.lpopR {α β : Type} [Inhabited α] {en : α → PyData} {ea : β → PyData} {bs : List β} {ls : List α} {f : List α → β → Int} {ok : List α → β → Prop} {x : Nat} {tg : Tg} {i : Ce.It} (R : List α → β → Rho) (hx : ρ[x]? = some (.ow (tL en ls))) (hn : x ∉ slots tg) (hi : IT Φ ρ false i (bs.map ea)) (hl : bs.length ≤ LIM) (hb : ∀ z y, bindT tg (ea y) (wipeR (ρ.set x (.ow (tL en z))) (slots tg)) = some (R z y))
    (he : ∀ z, ∀ y ∈ bs, ok z y → EV Φ (R z y) true a (.int (f z y))) (hok : okP f ok bs ls) (p : P (.rt (tT en (popAll f bs ls)))) : SK Φ n (.cons (.lpop none true x a tg i) r :: K) ρ P := fun ρ' l =>
  ⟨_, runK_out (lpop_run none R hx hn hi hl hb he hok l) (fun z => by simp), p⟩
theorem SK.lpopS {α β γ : Type} [Inhabited α] {en : α → PyData} {ea : β → PyData} {bs : List β} {ls : List α} {f : List α → β → Int} {ok : List α → β → Prop} {x j : Nat} {tg : Tg} {i : Ce.It} {k : List α → γ} {okk : List α → Prop} {Post : γ → Res → Prop} (R : List α → β → Rho) (R1 : List α → Rho) (hx : ρ[x]? = some (.ow (tL en ls))) (hn : x ∉ slots tg) (hi : IT Φ ρ false i (bs.map ea)) (hl : bs.length ≤ LIM) (hb : ∀ z y, bindT tg (ea y) (wipeR (ρ.set x (.ow (tL en z))) (slots tg)) = some (R z y))
    (he : ∀ z, ∀ y ∈ bs, ok z y → EV Φ (R z y) true a (.int (f z y))) (hok : okP f ok bs ls) (hj : j < ρ.length) (hb1 : ∀ y, (ρ.set x .un).set j (.fz (tT en y)) = R1 y) (ho : letv (popAll f bs ls) okk) (hk : ∀ y, okk y → SK Φ n (r :: K) (R1 y) (Post (k y))) : SK Φ n (.cons (.lpop (some j) true x a tg i) r :: K) ρ (Post (letv (popAll f bs ls) k)) :=
  SK.step (ρ1 := R1 (popAll f bs ls)) (fun ρ' l => by
    refine ⟨_, ?_, by rw [← hb1]; exact (l.set x _).set j _⟩
    rw [lpop_run (some j) R hx hn hi hl hb he hok l]
    exact if_pos (show j < List.length ρ' from by rw [l.1]; exact hj)) (hk _ ho)
end
end Sh

set_option maxHeartbeats 4000000
/-! Typed functions: comprehensions of two clauses without a test. -/
noncomputable section
namespace Sh
open PySem Ce Cs Pu
section
variable {Φ : Fns} {ρ : Rho} {bor : Bool} {a : Ex}
theorem filter_T {α : Type} {p : α → Bool} (h : ∀ x, p x = true) (xs : List α) : xs.filter p = xs := List.filter_eq_self.mpr fun x _ => h x
theorem EV.lc2G'0 {α β γ : Type} {ea : α → PyData} {eb : β → PyData} {eg : γ → PyData} {xs : List α} {p : α → Bool} {ys : α → List β} {q : α → β → Bool} {g : α → β → γ} {tg tg1 : Tg} {i i1 : Ce.It} {ifs ifs1 : Exo} (R : α → Rho) (R1 : α → β → Rho) (hi : IT Φ ρ true i (xs.map ea)) (hb : ∀ x, bindT tg (ea x) (wipeR ρ (slots tg ++ slots tg1)) = some (R x)) (hc : ∀ x ∈ xs, TSo Φ (R x) ifs (p x))
    (hi1 : ∀ x ∈ xs, p x = true → IT Φ (dropOw (R x)) false i1 ((ys x).map eb)) (hb1 : ∀ x y, bindT tg1 (eb y) (wipeR (dropOw (R x)) (slots tg1)) = some (R1 x y)) (hc1 : ∀ x ∈ xs, p x = true → ∀ y ∈ ys x, TSo Φ (R1 x y) ifs1 (q x y)) (he : ∀ x ∈ xs, p x = true → ∀ y ∈ ys x, q x y = true → EV Φ (R1 x y) false a (eg (g x y)))
    (hl : (xs.flatMap fun x => (ys x).map (g x)).length ≤ LIM) (hp : ∀ x, p x = true := by intro _; rfl) (hq : ∀ x y, q x y = true := by intro _ _; rfl) : EV Φ ρ bor (.lc2 a tg i ifs tg1 i1 ifs1) (tL eg (xs.flatMap fun x => (ys x).map (g x))) := by
  have e : ((xs.filter p).flatMap fun x => ((ys x).filter (q x)).map (g x)) = xs.flatMap fun x => (ys x).map (g x) := by
    rw [filter_T hp]
    congr 1
    funext x
    rw [filter_T (hq x)]
  have := EV.lc2G (bor := bor) R R1 hi hb hc hi1 hb1 hc1 he (by rw [e]; exact hl)
  rwa [e] at this
theorem EV.lc2G'1 {α β γ : Type} {ea : α → PyData} {eb : β → PyData} {eg : γ → PyData} {xs : List α} {p : α → Bool} {ys : α → List β} {q : α → β → Bool} {g : α → β → γ} {tg tg1 : Tg} {i i1 : Ce.It} {ifs ifs1 : Exo} (R : α → Rho) (R1 : α → β → Rho) (hi : IT Φ ρ true i (xs.map ea)) (hb : ∀ x, bindT tg (ea x) (wipeR ρ (slots tg ++ slots tg1)) = some (R x)) (hc : ∀ x ∈ xs, TSo Φ (R x) ifs (p x))
    (hi1 : ∀ x ∈ xs, p x = true → IT Φ (dropOw (R x)) false i1 ((ys x).map eb)) (hb1 : ∀ x y, bindT tg1 (eb y) (wipeR (dropOw (R x)) (slots tg1)) = some (R1 x y)) (hc1 : ∀ x ∈ xs, p x = true → ∀ y ∈ ys x, TSo Φ (R1 x y) ifs1 (q x y)) (he : ∀ x ∈ xs, p x = true → ∀ y ∈ ys x, q x y = true → EV Φ (R1 x y) false a (eg (g x y)))
    (hl : ((xs.filter p).flatMap fun x => (ys x).map (g x)).length ≤ LIM) (hq : ∀ x y, q x y = true := by intro _ _; rfl) : EV Φ ρ bor (.lc2 a tg i ifs tg1 i1 ifs1) (tL eg ((xs.filter p).flatMap fun x => (ys x).map (g x))) := by
  have e : ((xs.filter p).flatMap fun x => ((ys x).filter (q x)).map (g x)) = (xs.filter p).flatMap fun x => (ys x).map (g x) := by
    congr 1
    funext x
    rw [filter_T (hq x)]
  have := EV.lc2G (bor := bor) R R1 hi hb hc hi1 hb1 hc1 he (by rw [e]; exact hl)
  rwa [e] at this
theorem EV.lc2G'2 {α β γ : Type} {ea : α → PyData} {eb : β → PyData} {eg : γ → PyData} {xs : List α} {p : α → Bool} {ys : α → List β} {q : α → β → Bool} {g : α → β → γ} {tg tg1 : Tg} {i i1 : Ce.It} {ifs ifs1 : Exo} (R : α → Rho) (R1 : α → β → Rho) (hi : IT Φ ρ true i (xs.map ea)) (hb : ∀ x, bindT tg (ea x) (wipeR ρ (slots tg ++ slots tg1)) = some (R x)) (hc : ∀ x ∈ xs, TSo Φ (R x) ifs (p x))
    (hi1 : ∀ x ∈ xs, p x = true → IT Φ (dropOw (R x)) false i1 ((ys x).map eb)) (hb1 : ∀ x y, bindT tg1 (eb y) (wipeR (dropOw (R x)) (slots tg1)) = some (R1 x y)) (hc1 : ∀ x ∈ xs, p x = true → ∀ y ∈ ys x, TSo Φ (R1 x y) ifs1 (q x y)) (he : ∀ x ∈ xs, p x = true → ∀ y ∈ ys x, q x y = true → EV Φ (R1 x y) false a (eg (g x y)))
    (hl : (xs.flatMap fun x => ((ys x).filter (q x)).map (g x)).length ≤ LIM) (hp : ∀ x, p x = true := by intro _; rfl) : EV Φ ρ bor (.lc2 a tg i ifs tg1 i1 ifs1) (tL eg (xs.flatMap fun x => ((ys x).filter (q x)).map (g x))) := by
  have e : ((xs.filter p).flatMap fun x => ((ys x).filter (q x)).map (g x)) = xs.flatMap fun x => ((ys x).filter (q x)).map (g x) := by
    rw [filter_T hp]
  have := EV.lc2G (bor := bor) R R1 hi hb hc hi1 hb1 hc1 he (by rw [e]; exact hl)
  rwa [e] at this
end
end Sh

set_option maxHeartbeats 4000000
/-! Typed rules: index, count, join. -/
noncomputable section
namespace Sh
open PySem Ce Cs Pu
section
variable {Φ : Fns} {ρ : Rho} {bor : Bool} {a b : Ex} {α : Type} [DecidableEq α] {e : α → PyData}
/-- the first place of x -/
def ixOf (xs : List α) (x : α) : Int := (xs.findIdx fun y => decide (y = x) : Nat)
theorem EV.mt {m : Mt} {dx dy d : PyData} (h1 : EV Φ ρ true a dx) (h2 : EV Φ ρ true b dy) (hc : mtop m dx dy = some d) : EV Φ ρ bor (.mt m a b) d := fun ρ' l => by rw [ev_e30, h1 ρ' l, h2 ρ' l]; exact hc
theorem findIdx_e (q : EqE e 16) : ∀ (xs : List α) {x : α}, x ∈ xs → ((xs.map e).findIdx? fun z => PyData.eqv z (e x)) = some (xs.findIdx fun y => decide (y = x))
  | [], _, h => by cases h
  | y :: ys, x, h => by
    rw [List.map_cons, List.findIdx?_cons, List.findIdx_cons, q.eq]
    by_cases hy : y = x
    · simp [hy]
    · have hm : x ∈ ys := by
        rcases List.mem_cons.mp h with rfl | h
        · exact absurd rfl hy
        · exact h
      rw [findIdx_e q ys hm]
      simp [hy]
theorem countP_e (q : EqE e 16) (xs : List α) (x : α) : ((xs.map e).countP fun z => PyData.eqv z (e x)) = xs.count x := by
  rw [List.countP_map, List.count_eq_countP]
  congr 1
  funext y
  simp only [Function.comp_apply, q.eq]
  rfl
theorem EV.indexL (q : EqE e 16) (ql : EqE (tL e) 16) {xs : List α} {x : α} (h1 : EV Φ ρ true a (tL e xs)) (h2 : EV Φ ρ true b (e x)) (ok : x ∈ xs) : EV Φ ρ bor (.mt .index a b) (.int (ixOf xs x)) := EV.mt h1 h2 (by
  have h : isData (e x) (.list (xs.map e)) = true := by simp only [isData, q.pk x, Bool.true_and]; exact ql.pk xs
  show (if isData (e x) (.list (xs.map e)) = true then _ else _) = _
  rw [if_pos h, findIdx_e q xs ok]; rfl)
theorem EV.countL (q : EqE e 16) (ql : EqE (tL e) 16) {xs : List α} {x : α} (h1 : EV Φ ρ true a (tL e xs)) (h2 : EV Φ ρ true b (e x)) : EV Φ ρ bor (.mt .count a b) (.int (xs.count x : Nat)) := EV.mt h1 h2 (by
  have h : isData (e x) (.list (xs.map e)) = true := by simp only [isData, q.pk x, Bool.true_and]; exact ql.pk xs
  show (if isData (e x) (.list (xs.map e)) = true then _ else _) = _
  rw [if_pos h, countP_e q])
/-- s.join(xs) -/
def joinS (s : Tx) : List Tx → Tx
  | [] => []
  | [x] => x
  | x :: y :: r => x ++ s ++ joinS s (y :: r)
theorem joinS_toS (s : Tx) : ∀ xs : List Tx, Txt.join (toS s) (xs.map toS) = toS (joinS s xs) := by
  intro xs
  show Builtin.Str.glued (toS s) (xs.map toS) = _
  rw [StrLaws.glued_eq_join]
  induction xs with
  | nil => rfl
  | cons x r ih =>
    cases r with
    | nil => rfl
    | cons y r =>
      rw [joinS, ← toS_app, ← toS_app, ← ih]
      rfl
def joinOk (s : Tx) (xs : List Tx) : Prop := (xs.map (·.length)).sum + xs.length * s.length ≤ 1000000
theorem joinOk_toS {s : Tx} {xs : List Tx} (ok : joinOk s xs) : ((xs.map toS).map (·.length)).sum + (xs.map toS).length * (toS s).length ≤ 1000000 := by
  unfold joinOk at ok
  rw [List.map_map, List.length_map, toS_len]
  have : ((fun x : Str => x.length) ∘ toS) = fun x : Tx => x.length := funext toS_len
  rw [this]
  exact ok
theorem sts_map : ∀ xs : List Tx, sts? (xs.map tS) = some (xs.map toS)
  | [] => rfl
  | x :: xs => by rw [List.map_cons, sts?, sts_map xs]; rfl
theorem EV.joinL {s : Tx} {xs : List Tx} (h1 : EV Φ ρ true a (tS s)) (h2 : EV Φ ρ true b (tL tS xs)) (ok : joinOk s xs) : EV Φ ρ bor (.mt .join a b) (tS (joinS s xs)) := EV.mt h1 h2 (by
  show (sts? (xs.map tS)).bind _ = _
  rw [sts_map]
  show gd _ (some (PyData.str (Txt.join (toS s) (xs.map toS)))) = some (PyData.str (toS (joinS s xs)))
  rw [joinS_toS]; exact gd_pos (joinOk_toS ok))
theorem EV.joinT {s : Tx} {xs : List Tx} (h1 : EV Φ ρ true a (tS s)) (h2 : EV Φ ρ true b (tT tS xs)) (ok : joinOk s xs) : EV Φ ρ bor (.mt .join a b) (tS (joinS s xs)) := EV.mt h1 h2 (by
  show (sts? (xs.map tS)).bind _ = _
  rw [sts_map]
  show gd _ (some (PyData.str (Txt.join (toS s) (xs.map toS)))) = some (PyData.str (toS (joinS s xs)))
  rw [joinS_toS]; exact gd_pos (joinOk_toS ok))
def sIx (s t : Tx) : Int := ((Builtin.Str.occurrences (toS s) (toS t) 0 (toS s).length 1).head?.getD 0 : Nat)
def sIxOk (s t : Tx) : Prop := (Builtin.Str.occurrences (toS s) (toS t) 0 (toS s).length 1).head?.isSome = true
theorem EV.indexS {s t : Tx} (h1 : EV Φ ρ true a (tS s)) (h2 : EV Φ ρ true b (tS t)) (ok : sIxOk s t) : EV Φ ρ bor (.mt .index a b) (.int (sIx s t)) := EV.mt h1 h2 (by
  show (Builtin.Str.occurrences (toS s) (toS t) 0 (toS s).length 1).head?.map _ = _
  unfold sIxOk at ok
  unfold sIx
  cases h : (Builtin.Str.occurrences (toS s) (toS t) 0 (toS s).length 1).head? with
  | none => rw [h] at ok; cases ok
  | some i => rfl)
def sCnt (s t : Tx) : Int := Txt.count (toS s) (toS t)
theorem EV.countS {s t : Tx} (h1 : EV Φ ρ true a (tS s)) (h2 : EV Φ ρ true b (tS t)) : EV Φ ρ bor (.mt .count a b) (.int (sCnt s t)) := EV.mt h1 h2 rfl
end
end Sh

set_option maxHeartbeats 4000000
/-! Typed functions: all, any over two clauses. -/
noncomputable section
namespace Sh
open PySem Ce Cs Pu
section
variable {Φ : Fns} {ρ : Rho} {bor : Bool} {a : Ex}
def qu {α : Type} (b0 : Bool) (xs : List α) (p : α → Bool) : Bool := if b0 = true then xs.all p else xs.any p
theorem EV.gen2G {α β : Type} {b0 : Bool} {ea : α → PyData} {eb : β → PyData} {xs : List α} {p : α → Bool} {ys : α → List β} {q : α → β → Bool} {g : α → β → Bool} {tg tg1 : Tg} {i i1 : Ce.It} {ifs ifs1 : Exo} (R : α → Rho) (R1 : α → β → Rho) (hi : IT Φ ρ true i (xs.map ea)) (hb : ∀ x, bindT tg (ea x) (wipeR ρ (slots tg ++ slots tg1)) = some (R x)) (hc : ∀ x ∈ xs, TSo Φ (R x) ifs (p x))
    (hi1 : ∀ x ∈ xs, p x = true → IT Φ (dropOw (R x)) false i1 ((ys x).map eb)) (hb1 : ∀ x y, bindT tg1 (eb y) (wipeR (dropOw (R x)) (slots tg1)) = some (R1 x y)) (hc1 : ∀ x ∈ xs, p x = true → ∀ y ∈ ys x, TSo Φ (R1 x y) ifs1 (q x y)) (he : ∀ x ∈ xs, p x = true → ∀ y ∈ ys x, q x y = true → EV Φ (R1 x y) true a (.bool (g x y))) :
    EV Φ ρ bor (.gen2 b0 a tg i ifs tg1 i1 ifs1) (.bool (qu b0 (xs.filter p) fun x => qu b0 ((ys x).filter (q x)) (g x))) := fun ρ' l => by
  rw [ev_e31, hi ρ' l]
  show (genF b0 _ _).map _ = _
  rw [genF_pair (enc := ea) (p := p) (q := fun x => qu b0 ((ys x).filter (q x)) (g x))]
  · rfl
  · intro x hx
    obtain ⟨b1, k1, k2⟩ := bindT_le tg _ (l.wipe (slots tg ++ slots tg1)) (hb x)
    rw [k1]
    simp only [Option.bind_some, hc x hx b1 k2]
    by_cases hp : p x = true
    · simp only [hp, if_true]
      rw [hi1 x hx hp _ (dropOw_le k2)]
      simp only [Option.bind_some]
      rw [genF_pair (enc := eb) (p := q x) (q := g x)]
      · rfl
      · intro y hy
        obtain ⟨b2, k3, k4⟩ := bindT_le tg1 _ ((dropOw_le k2).wipe (slots tg1)) (hb1 x y)
        rw [k3]
        simp only [Option.bind_some, hc1 x hx hp y hy b2 k4]
        by_cases hq : q x y = true
        · simp only [hq, if_true, he x hx hp y hy hq b2 k4, Option.bind_some]
        · simp only [hq, if_false, Bool.false_eq_true]
    · simp only [hp, if_false, Bool.false_eq_true]
theorem EV.all2_0 {α β : Type} {ea : α → PyData} {eb : β → PyData} {xs : List α} {p : α → Bool} {ys : α → List β} {q : α → β → Bool} {g : α → β → Bool} {tg tg1 : Tg} {i i1 : Ce.It} {ifs ifs1 : Exo} (R : α → Rho) (R1 : α → β → Rho) (hi : IT Φ ρ true i (xs.map ea)) (hb : ∀ x, bindT tg (ea x) (wipeR ρ (slots tg ++ slots tg1)) = some (R x)) (hc : ∀ x ∈ xs, TSo Φ (R x) ifs (p x))
    (hi1 : ∀ x ∈ xs, p x = true → IT Φ (dropOw (R x)) false i1 ((ys x).map eb)) (hb1 : ∀ x y, bindT tg1 (eb y) (wipeR (dropOw (R x)) (slots tg1)) = some (R1 x y)) (hc1 : ∀ x ∈ xs, p x = true → ∀ y ∈ ys x, TSo Φ (R1 x y) ifs1 (q x y)) (he : ∀ x ∈ xs, p x = true → ∀ y ∈ ys x, q x y = true → EV Φ (R1 x y) true a (.bool (g x y))) (hp : ∀ x, p x = true := by intro _; rfl) (hq : ∀ x y, q x y = true := by intro _ _; rfl) : EV Φ ρ bor (.gen2 true a tg i ifs tg1 i1 ifs1) (.bool (xs.all fun x => (ys x).all (g x))) := by
  have h := EV.gen2G (b0 := true) (bor := bor) R R1 hi hb hc hi1 hb1 hc1 he
  rw [filter_T hp xs, show (fun x => qu true ((ys x).filter (q x)) (g x)) = fun x => qu true (ys x) (g x) from funext fun x => by rw [filter_T (hq x)]] at h
  exact h
theorem EV.all2_1 {α β : Type} {ea : α → PyData} {eb : β → PyData} {xs : List α} {p : α → Bool} {ys : α → List β} {q : α → β → Bool} {g : α → β → Bool} {tg tg1 : Tg} {i i1 : Ce.It} {ifs ifs1 : Exo} (R : α → Rho) (R1 : α → β → Rho) (hi : IT Φ ρ true i (xs.map ea)) (hb : ∀ x, bindT tg (ea x) (wipeR ρ (slots tg ++ slots tg1)) = some (R x)) (hc : ∀ x ∈ xs, TSo Φ (R x) ifs (p x))
    (hi1 : ∀ x ∈ xs, p x = true → IT Φ (dropOw (R x)) false i1 ((ys x).map eb)) (hb1 : ∀ x y, bindT tg1 (eb y) (wipeR (dropOw (R x)) (slots tg1)) = some (R1 x y)) (hc1 : ∀ x ∈ xs, p x = true → ∀ y ∈ ys x, TSo Φ (R1 x y) ifs1 (q x y)) (he : ∀ x ∈ xs, p x = true → ∀ y ∈ ys x, q x y = true → EV Φ (R1 x y) true a (.bool (g x y))) (hq : ∀ x y, q x y = true := by intro _ _; rfl) : EV Φ ρ bor (.gen2 true a tg i ifs tg1 i1 ifs1) (.bool ((xs.filter p).all fun x => (ys x).all (g x))) := by
  have h := EV.gen2G (b0 := true) (bor := bor) R R1 hi hb hc hi1 hb1 hc1 he
  rw [show (fun x => qu true ((ys x).filter (q x)) (g x)) = fun x => qu true (ys x) (g x) from funext fun x => by rw [filter_T (hq x)]] at h
  exact h
theorem EV.all2_2 {α β : Type} {ea : α → PyData} {eb : β → PyData} {xs : List α} {p : α → Bool} {ys : α → List β} {q : α → β → Bool} {g : α → β → Bool} {tg tg1 : Tg} {i i1 : Ce.It} {ifs ifs1 : Exo} (R : α → Rho) (R1 : α → β → Rho) (hi : IT Φ ρ true i (xs.map ea)) (hb : ∀ x, bindT tg (ea x) (wipeR ρ (slots tg ++ slots tg1)) = some (R x)) (hc : ∀ x ∈ xs, TSo Φ (R x) ifs (p x))
    (hi1 : ∀ x ∈ xs, p x = true → IT Φ (dropOw (R x)) false i1 ((ys x).map eb)) (hb1 : ∀ x y, bindT tg1 (eb y) (wipeR (dropOw (R x)) (slots tg1)) = some (R1 x y)) (hc1 : ∀ x ∈ xs, p x = true → ∀ y ∈ ys x, TSo Φ (R1 x y) ifs1 (q x y)) (he : ∀ x ∈ xs, p x = true → ∀ y ∈ ys x, q x y = true → EV Φ (R1 x y) true a (.bool (g x y))) (hp : ∀ x, p x = true := by intro _; rfl) : EV Φ ρ bor (.gen2 true a tg i ifs tg1 i1 ifs1) (.bool (xs.all fun x => ((ys x).filter (q x)).all (g x))) := by
  have h := EV.gen2G (b0 := true) (bor := bor) R R1 hi hb hc hi1 hb1 hc1 he
  rw [filter_T hp xs] at h
  exact h
theorem EV.all2_3 {α β : Type} {ea : α → PyData} {eb : β → PyData} {xs : List α} {p : α → Bool} {ys : α → List β} {q : α → β → Bool} {g : α → β → Bool} {tg tg1 : Tg} {i i1 : Ce.It} {ifs ifs1 : Exo} (R : α → Rho) (R1 : α → β → Rho) (hi : IT Φ ρ true i (xs.map ea)) (hb : ∀ x, bindT tg (ea x) (wipeR ρ (slots tg ++ slots tg1)) = some (R x)) (hc : ∀ x ∈ xs, TSo Φ (R x) ifs (p x))
    (hi1 : ∀ x ∈ xs, p x = true → IT Φ (dropOw (R x)) false i1 ((ys x).map eb)) (hb1 : ∀ x y, bindT tg1 (eb y) (wipeR (dropOw (R x)) (slots tg1)) = some (R1 x y)) (hc1 : ∀ x ∈ xs, p x = true → ∀ y ∈ ys x, TSo Φ (R1 x y) ifs1 (q x y)) (he : ∀ x ∈ xs, p x = true → ∀ y ∈ ys x, q x y = true → EV Φ (R1 x y) true a (.bool (g x y))) : EV Φ ρ bor (.gen2 true a tg i ifs tg1 i1 ifs1) (.bool ((xs.filter p).all fun x => ((ys x).filter (q x)).all (g x))) := by
  have h := EV.gen2G (b0 := true) (bor := bor) R R1 hi hb hc hi1 hb1 hc1 he
  exact h
theorem EV.any2_0 {α β : Type} {ea : α → PyData} {eb : β → PyData} {xs : List α} {p : α → Bool} {ys : α → List β} {q : α → β → Bool} {g : α → β → Bool} {tg tg1 : Tg} {i i1 : Ce.It} {ifs ifs1 : Exo} (R : α → Rho) (R1 : α → β → Rho) (hi : IT Φ ρ true i (xs.map ea)) (hb : ∀ x, bindT tg (ea x) (wipeR ρ (slots tg ++ slots tg1)) = some (R x)) (hc : ∀ x ∈ xs, TSo Φ (R x) ifs (p x))
    (hi1 : ∀ x ∈ xs, p x = true → IT Φ (dropOw (R x)) false i1 ((ys x).map eb)) (hb1 : ∀ x y, bindT tg1 (eb y) (wipeR (dropOw (R x)) (slots tg1)) = some (R1 x y)) (hc1 : ∀ x ∈ xs, p x = true → ∀ y ∈ ys x, TSo Φ (R1 x y) ifs1 (q x y)) (he : ∀ x ∈ xs, p x = true → ∀ y ∈ ys x, q x y = true → EV Φ (R1 x y) true a (.bool (g x y))) (hp : ∀ x, p x = true := by intro _; rfl) (hq : ∀ x y, q x y = true := by intro _ _; rfl) : EV Φ ρ bor (.gen2 false a tg i ifs tg1 i1 ifs1) (.bool (xs.any fun x => (ys x).any (g x))) := by
  have h := EV.gen2G (b0 := false) (bor := bor) R R1 hi hb hc hi1 hb1 hc1 he
  rw [filter_T hp xs, show (fun x => qu false ((ys x).filter (q x)) (g x)) = fun x => qu false (ys x) (g x) from funext fun x => by rw [filter_T (hq x)]] at h
  exact h
theorem EV.any2_1 {α β : Type} {ea : α → PyData} {eb : β → PyData} {xs : List α} {p : α → Bool} {ys : α → List β} {q : α → β → Bool} {g : α → β → Bool} {tg tg1 : Tg} {i i1 : Ce.It} {ifs ifs1 : Exo} (R : α → Rho) (R1 : α → β → Rho) (hi : IT Φ ρ true i (xs.map ea)) (hb : ∀ x, bindT tg (ea x) (wipeR ρ (slots tg ++ slots tg1)) = some (R x)) (hc : ∀ x ∈ xs, TSo Φ (R x) ifs (p x))
    (hi1 : ∀ x ∈ xs, p x = true → IT Φ (dropOw (R x)) false i1 ((ys x).map eb)) (hb1 : ∀ x y, bindT tg1 (eb y) (wipeR (dropOw (R x)) (slots tg1)) = some (R1 x y)) (hc1 : ∀ x ∈ xs, p x = true → ∀ y ∈ ys x, TSo Φ (R1 x y) ifs1 (q x y)) (he : ∀ x ∈ xs, p x = true → ∀ y ∈ ys x, q x y = true → EV Φ (R1 x y) true a (.bool (g x y))) (hq : ∀ x y, q x y = true := by intro _ _; rfl) : EV Φ ρ bor (.gen2 false a tg i ifs tg1 i1 ifs1) (.bool ((xs.filter p).any fun x => (ys x).any (g x))) := by
  have h := EV.gen2G (b0 := false) (bor := bor) R R1 hi hb hc hi1 hb1 hc1 he
  rw [show (fun x => qu false ((ys x).filter (q x)) (g x)) = fun x => qu false (ys x) (g x) from funext fun x => by rw [filter_T (hq x)]] at h
  exact h
theorem EV.any2_2 {α β : Type} {ea : α → PyData} {eb : β → PyData} {xs : List α} {p : α → Bool} {ys : α → List β} {q : α → β → Bool} {g : α → β → Bool} {tg tg1 : Tg} {i i1 : Ce.It} {ifs ifs1 : Exo} (R : α → Rho) (R1 : α → β → Rho) (hi : IT Φ ρ true i (xs.map ea)) (hb : ∀ x, bindT tg (ea x) (wipeR ρ (slots tg ++ slots tg1)) = some (R x)) (hc : ∀ x ∈ xs, TSo Φ (R x) ifs (p x))
    (hi1 : ∀ x ∈ xs, p x = true → IT Φ (dropOw (R x)) false i1 ((ys x).map eb)) (hb1 : ∀ x y, bindT tg1 (eb y) (wipeR (dropOw (R x)) (slots tg1)) = some (R1 x y)) (hc1 : ∀ x ∈ xs, p x = true → ∀ y ∈ ys x, TSo Φ (R1 x y) ifs1 (q x y)) (he : ∀ x ∈ xs, p x = true → ∀ y ∈ ys x, q x y = true → EV Φ (R1 x y) true a (.bool (g x y))) (hp : ∀ x, p x = true := by intro _; rfl) : EV Φ ρ bor (.gen2 false a tg i ifs tg1 i1 ifs1) (.bool (xs.any fun x => ((ys x).filter (q x)).any (g x))) := by
  have h := EV.gen2G (b0 := false) (bor := bor) R R1 hi hb hc hi1 hb1 hc1 he
  rw [filter_T hp xs] at h
  exact h
theorem EV.any2_3 {α β : Type} {ea : α → PyData} {eb : β → PyData} {xs : List α} {p : α → Bool} {ys : α → List β} {q : α → β → Bool} {g : α → β → Bool} {tg tg1 : Tg} {i i1 : Ce.It} {ifs ifs1 : Exo} (R : α → Rho) (R1 : α → β → Rho) (hi : IT Φ ρ true i (xs.map ea)) (hb : ∀ x, bindT tg (ea x) (wipeR ρ (slots tg ++ slots tg1)) = some (R x)) (hc : ∀ x ∈ xs, TSo Φ (R x) ifs (p x))
    (hi1 : ∀ x ∈ xs, p x = true → IT Φ (dropOw (R x)) false i1 ((ys x).map eb)) (hb1 : ∀ x y, bindT tg1 (eb y) (wipeR (dropOw (R x)) (slots tg1)) = some (R1 x y)) (hc1 : ∀ x ∈ xs, p x = true → ∀ y ∈ ys x, TSo Φ (R1 x y) ifs1 (q x y)) (he : ∀ x ∈ xs, p x = true → ∀ y ∈ ys x, q x y = true → EV Φ (R1 x y) true a (.bool (g x y))) : EV Φ ρ bor (.gen2 false a tg i ifs tg1 i1 ifs1) (.bool ((xs.filter p).any fun x => ((ys x).filter (q x)).any (g x))) := by
  have h := EV.gen2G (b0 := false) (bor := bor) R R1 hi hb hc hi1 hb1 hc1 he
  exact h
end
end Sh

set_option maxHeartbeats 4000000
/-! Typed functions: strings. -/
noncomputable section
namespace Sh
open PySem Ce Cs Pu
section
variable {Φ : Fns} {ρ : Rho} {bor : Bool} {a b : Ex}
theorem EV.catS {s t : Tx} (h1 : EV Φ ρ true a (tS s)) (h2 : EV Φ ρ true b (tS t)) (ok : s.length + t.length ≤ LIM) : EV Φ ρ bor (.bin .add a b) (tS (s ++ t)) := EV.bin h1 h2 (by
  show gd ((toS s).length + (toS t).length ≤ LIM) (some (PyData.str (toS s ++ toS t))) = _
  rw [toS_len, toS_len, toS_app]
  exact gd_pos ok)
theorem EV.lenS {s : Tx} (h1 : EV Φ ρ true a (tS s)) (ok : s.length ≤ LIM) : EV Φ ρ bor (.b1 .len a) (.int (s.length : Int)) := EV.b1 h1 (by
  show gd ((toS s).length ≤ LIM) (some (PyData.int ((toS s).length : Int))) = _
  rw [toS_len]
  exact gd_pos ok)
theorem EV.sgi {s : Tx} {i : Int} (h1 : EV Φ ρ true a (tS s)) (h2 : EV Φ ρ true b (.int i)) (ok : s.length ≤ LIM ∧ gOk s i) : EV Φ ρ bor (.sub a b) (tS [gi s i]) := EV.ix h1 h2 (by
  show gd ((toS s).length ≤ LIM) ((L2.atI (toS s).cps.toList i).map fun c => PyData.str ⟨#[c]⟩) = _
  rw [toS_len, gd_pos ok.1, toS_list]
  have h := atI_gi (e := fun c : Ch => PyData.str ⟨#[c.val]⟩) ok.2
  have : ∀ (xs : List Nat) (k : Int), L2.atI (xs.map fun c => PyData.str ⟨#[c]⟩) k = (L2.atI xs k).map fun c => PyData.str ⟨#[c]⟩ := by
    intro xs k
    unfold L2.atI
    rw [List.length_map]
    cases L2.ixN xs.length k with
    | none => rfl
    | some j => simp
  rw [← this, List.map_map]
  exact h)
def chT (c : Char) : Ch := ⟨c.toNat, by
  have h : c.val.toNat < 0xD800 ∨ (0xDFFF < c.val.toNat ∧ c.val.toNat < 0x110000) := c.valid
  show c.val.toNat < 1114112
  omega⟩
/-- str(i) -/
def strI (i : Int) : Tx := (toString i).toList.map chT
theorem toS_strI (i : Int) : toS (strI i) = Str.ofString (toString i) := by
  rw [Str.ofString_eq_toList]
  unfold toS strI
  rw [List.map_map]
  rfl
theorem EV.strI {i : Int} (h : EV Φ ρ true a (.int i)) (ok : i.natAbs.log2 < 1920) : EV Φ ρ bor (.b1 .str a) (tS (strI i)) := EV.b1 h (by
  show gd (i.natAbs.log2 < 1920) (some (PyData.str (Str.ofString (toString i)))) = _
  rw [gd_pos ok, ← toS_strI])
/-- the signs of a string, each as a string -/
def sgs (s : Tx) : List Tx := s.map fun c => [c]
theorem chrs_toS (s : Tx) : chrs (toS s) = (sgs s).map tS := by
  unfold chrs sgs
  rw [toS_list, List.map_map, List.map_map]
  rfl
theorem IT.exS {s : Tx} (h : EV Φ ρ bor a (tS s)) : IT Φ ρ bor (.ex a) ((sgs s).map tS) := fun ρ' q => by
  rw [itms_e0, h ρ' q]
  show some (chrs (toS s)) = _
  rw [chrs_toS]
theorem EV.slS {s : Tx} {lo hi : Exo} {l h : Option Int} (h1 : EV Φ ρ true a (tS s)) (h2 : EVo Φ ρ lo l) (h3 : EVo Φ ρ hi h) (ok : s.length ≤ LIM) : EV Φ ρ bor (.sl a lo hi) (tS (cut s l h)) := fun ρ' q => by
  rw [ev_e18, h1 ρ' q, h2 ρ' q, h3 ρ' q]
  show gd ((toS s).length ≤ LIM) (some (PyData.str ⟨(cut (toS s).cps.toList l h).toArray⟩)) = _
  rw [toS_len, gd_pos ok, toS_list, cut_map]
  rfl
end
end Sh

set_option maxHeartbeats 4000000
/-! Plain facts about the typed functions' operations. -/
noncomputable section
namespace Pv
open PySem Ce Cs Pu Sh

/-! ### linear orders -/
class Lin (α : Type) [LT α] : Prop where
  irr : ∀ a : α, ¬ a < a
  trans : ∀ a b c : α, a < b → b < c → a < c
  conn : ∀ a b : α, ¬ a < b → ¬ b < a → a = b
instance : Lin Int := ⟨fun a h => by omega, fun a b c h k => by omega, fun a b h k => by omega⟩
section
variable {α β : Type} [LT α] [LT β]
theorem ll_irr [Lin α] : ∀ xs : List α, ¬ xs < xs
  | [] => by simp
  | x :: xs => by
    rw [List.cons_lt_cons_iff]
    rintro (h | h)
    · exact Lin.irr x h
    · exact ll_irr xs h.2
theorem ll_trans [Lin α] : ∀ xs ys zs : List α, xs < ys → ys < zs → xs < zs
  | _, [], _, h, _ => absurd h (by simp)
  | _, _ :: _, [], _, h => absurd h (by simp)
  | [], _ :: _, _ :: _, _, _ => by simp
  | x :: xs, y :: ys, z :: zs, h, k => by
    rw [List.cons_lt_cons_iff] at h k ⊢
    rcases h with h | ⟨rfl, h⟩ <;> rcases k with k | ⟨rfl, k⟩
    · exact .inl (Lin.trans _ _ _ h k)
    · exact .inl h
    · exact .inl k
    · exact .inr ⟨rfl, ll_trans xs ys zs h k⟩
theorem ll_conn [Lin α] : ∀ xs ys : List α, ¬ xs < ys → ¬ ys < xs → xs = ys
  | [], [], _, _ => rfl
  | [], y :: ys, h, _ => absurd (by simp) h
  | x :: xs, [], _, h => absurd (by simp) h
  | x :: xs, y :: ys, h, k => by
    rw [List.cons_lt_cons_iff] at h k
    have e : x = y := Lin.conn _ _ (fun q => h (.inl q)) (fun q => k (.inl q))
    subst e
    rw [ll_conn xs ys (fun q => h (.inr ⟨rfl, q⟩)) (fun q => k (.inr ⟨rfl, q⟩))]
instance [Lin α] : Lin (List α) := ⟨ll_irr, ll_trans, ll_conn⟩
instance [Lin α] [Lin β] : Lin (α × β) := ⟨fun a h => by
  rcases h with h | h
  · exact Lin.irr _ h
  · exact Lin.irr _ h.2, fun a b c h k => by
  rcases h with h | ⟨e, h⟩ <;> rcases k with k | ⟨e', k⟩
  · exact .inl (Lin.trans _ _ _ h k)
  · exact .inl (e' ▸ h)
  · exact .inl (e ▸ k)
  · exact .inr ⟨e.trans e', Lin.trans _ _ _ h k⟩, fun a b h k => by
  have e : a.1 = b.1 := Lin.conn _ _ (fun q => h (.inl q)) (fun q => k (.inl q))
  have e2 : a.2 = b.2 := Lin.conn _ _ (fun q => h (.inr ⟨e, q⟩)) (fun q => k (.inr ⟨e.symm, q⟩))
  exact Prod.ext e e2⟩
end
section
variable {α : Type} [LT α] [DecidableLT α]
theorem mem_srt {xs : List α} {x : α} : x ∈ srt xs ↔ x ∈ xs := by
  unfold srt; exact List.mem_mergeSort
@[simp] theorem srt_length (xs : List α) : (srt xs).length = xs.length := by unfold srt; exact List.length_mergeSort _
theorem srt_perm (xs : List α) : (srt xs).Perm xs := by unfold srt; exact List.mergeSort_perm _ _
variable [Lin α]
theorem le_trans' (a b c : α) (h : ¬ b < a) (k : ¬ c < b) : ¬ c < a := fun q => by
  by_cases e : a < b
  · exact k (Lin.trans _ _ _ q e)
  · rw [Lin.conn a b e h] at q
    exact k q
theorem le_total' (a b : α) : ¬ b < a ∨ ¬ a < b := by
  by_cases e : a < b
  · exact .inl fun q => Lin.irr _ (Lin.trans _ _ _ e q)
  · exact .inr e
theorem srt_sorted (xs : List α) : (srt xs).Pairwise fun a b => ¬ b < a := by
  have h := List.pairwise_mergeSort (le := fun a b : α => !decide (b < a)) (fun a b c h k => by
    simp only [Bool.not_eq_true', decide_eq_false_iff_not] at *
    exact le_trans' a b c h k) (fun a b => by
    simp only [Bool.or_eq_true, Bool.not_eq_true', decide_eq_false_iff_not]
    exact le_total' a b) xs
  refine h.imp ?_
  intro a b q
  simpa using q
theorem sorted_unique : ∀ {xs ys : List α}, xs.Perm ys → (xs.Pairwise fun a b => ¬ b < a) → (ys.Pairwise fun a b => ¬ b < a) → xs = ys
  | [], ys, p, _, _ => (List.Perm.nil_eq p)
  | x :: xs, [], p, _, _ => absurd p (by simp)
  | x :: xs, y :: ys, p, h, k => by
    rw [List.pairwise_cons] at h k
    have e : x = y := by
      have h1 : x ∈ y :: ys := p.subset (by simp)
      have h2 : y ∈ x :: xs := p.symm.subset (by simp)
      rcases List.mem_cons.mp h1 with rfl | h1
      · rfl
      · rcases List.mem_cons.mp h2 with e | h2
        · exact e.symm
        · exact Lin.conn _ _ (k.1 _ h1) (h.1 _ h2)
    subst e
    rw [sorted_unique (List.Perm.cons_inv p) h.2 k.2]
theorem srt_of_perm {xs ys : List α} (h : xs.Perm ys) : srt xs = srt ys := sorted_unique ((srt_perm xs).trans (h.trans (srt_perm ys).symm)) (srt_sorted _) (srt_sorted _)
theorem srt_of_sorted {xs : List α} (h : xs.Pairwise fun a b => ¬ b < a) : srt xs = xs := sorted_unique (srt_perm xs) (srt_sorted _) h
theorem srt_of_lt {xs : List α} (h : xs.Pairwise (· < ·)) : srt xs = xs := srt_of_sorted (h.imp fun q r => Lin.irr _ (Lin.trans _ _ _ q r))
theorem srt_filter (p : α → Bool) (xs : List α) : srt (xs.filter p) = (srt xs).filter p := sorted_unique ((srt_perm _).trans ((srt_perm xs).symm.filter p)) (srt_sorted _) ((srt_sorted xs).filter p)
theorem srt_lt {xs : List α} (h : xs.Nodup) : (srt xs).Pairwise (· < ·) := by
  have h1 := srt_sorted xs
  have h2 : (srt xs).Nodup := (srt_perm xs).nodup_iff.mpr h
  refine (List.Pairwise.and h1 h2).imp ?_
  rintro a b ⟨q, r⟩
  by_cases e : a < b
  · exact e
  · exact absurd (Lin.conn _ _ e q) r
theorem lt_ext : ∀ {xs ys : List α}, xs.Pairwise (· < ·) → ys.Pairwise (· < ·) → (∀ z, z ∈ xs ↔ z ∈ ys) → xs = ys := fun {xs ys} h k e => by
  have n1 : xs.Nodup := h.imp fun q => fun e => Lin.irr _ (e ▸ q)
  have n2 : ys.Nodup := k.imp fun q => fun e => Lin.irr _ (e ▸ q)
  exact sorted_unique ((List.perm_ext_iff_of_nodup n1 n2).mpr e) (h.imp fun q r => Lin.irr _ (Lin.trans _ _ _ q r)) (k.imp fun q r => Lin.irr _ (Lin.trans _ _ _ q r))
end

/-! ### loops -/
section
variable {α β γ S : Type}
theorem letv_eq {α : Sort u} {β : Sort v} (v : α) (k : α → β) : letv v k = k v := rfl
@[simp] theorem forL_nil (step : S → α → Ctl S β) (s : S) : forL step [] s = .nx s := rfl
theorem forL_cons (step : S → α → Ctl S β) (x : α) (xs : List α) (s : S) : forL step (x :: xs) s = match step s x with | .nx s' => forL step xs s' | .bk s' => .bk s' | .rt b => .rt b := by rw [forL]; cases step s x <;> rfl
@[simp] theorem goL_nx (s : S) (kr : β → γ) (k : S → γ) : goL (.nx s) kr k = k s := rfl
@[simp] theorem goL_bk (s : S) (kr : β → γ) (k : S → γ) : goL (.bk s) kr k = k s := rfl
@[simp] theorem goL_rt (b : β) (kr : β → γ) (k : S → γ) : goL (.rt b : Ctl S β) kr k = kr b := rfl
@[simp] theorem goP_nx (s : S) (k : S → Prop) : goP (.nx s : Ctl S β) k = k s := rfl
@[simp] theorem goP_bk (s : S) (k : S → Prop) : goP (.bk s : Ctl S β) k = k s := rfl
@[simp] theorem goP_rt (b : β) (k : S → Prop) : goP (.rt b : Ctl S β) k = True := rfl
/-- a loop that only goes on, with an invariant -/
theorem forL_inv {step : S → α → Ctl S β} (I : S → Prop) : ∀ {xs : List α} {s : S}, I s → (∀ x ∈ xs, ∀ s, I s → ∃ s', step s x = .nx s' ∧ I s') → ∃ s', forL step xs s = .nx s' ∧ I s'
  | [], s, h, _ => ⟨s, rfl, h⟩
  | x :: xs, s, h, k => by
    obtain ⟨s1, e1, i1⟩ := k x (by simp) s h
    rw [forL_cons, e1]
    exact forL_inv I i1 fun y hy => k y (by simp [hy])
theorem okL_inv {step : S → α → Ctl S β} {ok : S → α → Prop} (I : S → Prop) : ∀ {xs : List α} {s : S}, I s → (∀ x ∈ xs, ∀ s, I s → ok s x ∧ ∀ s', step s x = .nx s' → I s') → okL step ok xs s
  | [], s, h, _ => trivial
  | x :: xs, s, h, k => by
    obtain ⟨o, i⟩ := k x (by simp) s h
    refine ⟨o, ?_⟩
    split
    · rename_i s' e
      exact okL_inv I (i s' e) fun y hy => k y (by simp [hy])
    · trivial
theorem okF_inv {step : S → α → S} {ok : S → α → Prop} (I : S → Prop) : ∀ {xs : List α} {s : S}, I s → (∀ x ∈ xs, ∀ s, I s → ok s x ∧ I (step s x)) → okF step ok xs s
  | [], s, h, _ => trivial
  | x :: xs, s, h, k => ⟨(k x (by simp) s h).1, okF_inv I (k x (by simp) s h).2 fun y hy => k y (by simp [hy])⟩
theorem foldl_inv {step : S → α → S} (I : S → Prop) : ∀ {xs : List α} {s : S}, I s → (∀ x ∈ xs, ∀ s, I s → I (step s x)) → I (xs.foldl step s)
  | [], s, h, _ => h
  | x :: xs, s, h, k => by
    rw [List.foldl_cons]
    exact foldl_inv I (k x (by simp) s h) fun y hy => k y (by simp [hy])
/-- with the part of the list that is done -/
theorem okF_at {step : S → α → S} {ok : S → α → Prop} (I : List α → S → Prop) {xs : List α} {s : S} (h : I [] s) (k : ∀ p x q s, xs = p ++ x :: q → I p s → ok s x ∧ I (p ++ [x]) (step s x)) : okF step ok xs s := by
  suffices h : ∀ (q p : List α) (s : S), xs = p ++ q → I p s → okF step ok q s from h xs [] s rfl ‹_›
  intro q
  induction q with
  | nil => intros; trivial
  | cons x q ih =>
    intro p s e i
    obtain ⟨a, b⟩ := k p x q s e i
    exact ⟨a, ih (p ++ [x]) _ (by rw [e]; simp) b⟩
theorem foldl_at {step : S → α → S} (I : List α → S → Prop) {xs : List α} {s : S} (h : I [] s) (k : ∀ p x q s, xs = p ++ x :: q → I p s → I (p ++ [x]) (step s x)) : I xs (xs.foldl step s) := by
  suffices h : ∀ (q p : List α) (s : S), xs = p ++ q → I p s → I xs (q.foldl step s) from h xs [] s rfl ‹_›
  intro q
  induction q with
  | nil => intro p s e i; rw [e]; simpa using i
  | cons x q ih =>
    intro p s e i
    exact ih (p ++ [x]) _ (by rw [e]; simp) (k p x q s e i)
/-- loops that gather -/
theorem foldl_filter {p : α → Bool} {f : α → β} (xs : List α) (s : List β) : xs.foldl (fun s x => if p x = true then s ++ [f x] else s) s = s ++ (xs.filter p).map f := by
  induction xs generalizing s with
  | nil => simp
  | cons x xs ih =>
    rw [List.foldl_cons, ih]
    by_cases h : p x = true <;> simp [h]
theorem foldl_gather {step : List β → α → List β} {p : α → Bool} {f : α → β} {xs : List α} (h : ∀ x ∈ xs, ∀ s, step s x = if p x = true then s ++ [f x] else s) (s : List β) : xs.foldl step s = s ++ (xs.filter p).map f := by
  rw [← foldl_filter]
  induction xs generalizing s with
  | nil => rfl
  | cons x xs ih =>
    rw [List.foldl_cons, List.foldl_cons, h x (by simp)]
    exact ih (fun y hy => h y (by simp [hy])) _
theorem foldl_flat {step : List β → α → List β} {g : α → List β} {xs : List α} (h : ∀ x ∈ xs, ∀ s, step s x = s ++ g x) (s : List β) : xs.foldl step s = s ++ xs.flatMap g := by
  induction xs generalizing s with
  | nil => simp
  | cons x xs ih =>
    rw [List.foldl_cons, h x (by simp), ih (fun y hy => h y (by simp [hy]))]
    simp
theorem okF_gather {step : List β → α → List β} {ok : List β → α → Prop} {xs : List α} {s : List β} (K : Nat) (hK : s.length + xs.length ≤ K) (h : ∀ x ∈ xs, ∀ s, (step s x).length ≤ s.length + 1) (h2 : ∀ x ∈ xs, ∀ s, s.length < K → ok s x) : okF step ok xs s := by
  induction xs generalizing s with
  | nil => trivial
  | cons x xs ih =>
    simp only [List.length_cons] at hK
    refine ⟨h2 x (by simp) s (by omega), ih ?_ (fun y hy => h y (by simp [hy])) fun y hy => h2 y (by simp [hy])⟩
    have := h x (by simp) s
    omega
/-- a loop that seeks -/
theorem forL_find {step : Unit → α → Ctl Unit β} {p : α → Option β} {xs : List α} (h : ∀ x ∈ xs, step () x = match p x with | some b => .rt b | none => .nx ()) : forL step xs () = match xs.findSome? p with | some b => .rt b | none => .nx () := by
  induction xs with
  | nil => rfl
  | cons x xs ih =>
    rw [forL_cons, h x (by simp), List.findSome?_cons]
    cases p x with
    | none => exact ih fun y hy => h y (by simp [hy])
    | some b => rfl
theorem forL_unit {step : Unit → α → Ctl Unit β} {xs : List α} (h : ∀ x ∈ xs, step () x = .nx ()) : forL step xs () = .nx () := by
  induction xs with
  | nil => rfl
  | cons x xs ih => rw [forL_cons, h x (by simp)]; exact ih fun y hy => h y (by simp [hy])
theorem okL_unit {step : Unit → α → Ctl Unit β} {ok : Unit → α → Prop} {xs : List α} (h : ∀ x ∈ xs, ok () x) : okL step ok xs () := okL_inv (fun _ => True) trivial fun x hx _ _ => ⟨h x hx, fun _ _ => trivial⟩
end

section
variable {α β S : Type}
/-- a loop that goes on or returns; I tells what is so behind the part that is done, R what is so where it returns -/
theorem forL_at {step : S → α → Ctl S β} (I : List α → S → Prop) (R : List α → α → β → Prop) {xs : List α} {s : S} (h : I [] s)
    (k : ∀ p x q s, xs = p ++ x :: q → I p s → (∃ s', step s x = .nx s' ∧ I (p ++ [x]) s') ∨ (∃ b, step s x = .rt b ∧ R p x b)) :
    (∃ s', forL step xs s = .nx s' ∧ I xs s') ∨ (∃ p x q b, xs = p ++ x :: q ∧ forL step xs s = .rt b ∧ R p x b) := by
  suffices ∀ (q p : List α) (s : S), xs = p ++ q → I p s → (∃ s', forL step q s = .nx s' ∧ I xs s') ∨ (∃ p' x q' b, xs = p' ++ x :: q' ∧ forL step q s = .rt b ∧ R p' x b) from this xs [] s rfl h
  intro q
  induction q with
  | nil => intro p s e i; exact .inl ⟨s, rfl, by rw [e]; simpa using i⟩
  | cons x q ih =>
    intro p s e i
    rw [forL_cons]
    rcases k p x q s e i with ⟨s', e1, i1⟩ | ⟨b, e1, r1⟩
    · rw [e1]
      exact ih (p ++ [x]) s' (by rw [e]; simp) i1
    · rw [e1]
      exact .inr ⟨p, x, q, b, e, rfl, r1⟩
theorem okL_at {step : S → α → Ctl S β} {ok : S → α → Prop} (I : List α → S → Prop) {xs : List α} {s : S} (h : I [] s)
    (k : ∀ p x q s, xs = p ++ x :: q → I p s → ok s x ∧ ∀ s', step s x = .nx s' → I (p ++ [x]) s') : okL step ok xs s := by
  suffices ∀ (q p : List α) (s : S), xs = p ++ q → I p s → okL step ok q s from this xs [] s rfl h
  intro q
  induction q with
  | nil => intros; trivial
  | cons x q ih =>
    intro p s e i
    obtain ⟨a, b⟩ := k p x q s e i
    refine ⟨a, ?_⟩
    split
    · rename_i s' e'
      exact ih (p ++ [x]) s' (by rw [e]; simp) (b s' e')
    · trivial
theorem ivs_split {n x : Int} {p q : List Int} (h : ivs 0 n = p ++ x :: q) : x = p.length ∧ (p.length : Int) < n ∧ p = ivs 0 p.length := by
  have hl := congrArg List.length h
  rw [ivs_length] at hl
  simp at hl
  have hn : n = (n.toNat : Int) := by omega
  have e2 : (ivs 0 (n.toNat : Int))[p.length]? = some x := by rw [← hn, h]; simp
  obtain ⟨a, b⟩ := ivs_get e2
  refine ⟨a, by omega, ?_⟩
  have e3 : (ivs 0 n).take p.length = p := by rw [h]; simp
  rw [← e3]
  apply List.ext_getElem
  · simp [ivs]
  · intro i h1 h2
    simp [ivs]
end
/-! ### indices and slices -/
section
variable {α : Type} [Inhabited α]
theorem gi_nat (xs : List α) (i : Nat) : gi xs (i : Int) = xs.getD i default := by unfold gi; rw [if_pos (by omega)]; rfl
theorem gi_mem {xs : List α} {i : Int} (h0 : 0 ≤ i) (h1 : i < xs.length) : gi xs i ∈ xs := by
  unfold gi
  rw [if_pos h0, List.getD_eq_getElem?_getD, List.getElem?_eq_getElem (by omega)]
  exact List.getElem_mem _
theorem gi_mem' {xs : List α} {i : Int} (h : gOk xs i) : gi xs i ∈ xs := by
  by_cases h0 : 0 ≤ i
  · exact gi_mem h0 h.2
  · unfold gi
    have := h.1
    rw [if_neg h0, List.getD_eq_getElem?_getD, List.getElem?_eq_getElem (by omega)]
    exact List.getElem_mem _
theorem gi_at {xs : List α} {i : Nat} (h : i < xs.length) : gi xs (i : Int) = xs[i] := by
  rw [gi_nat, List.getD_eq_getElem?_getD, List.getElem?_eq_getElem h]; rfl
theorem gi_nth (xs : List Int) (i : Int) (h : 0 ≤ i) : gi xs i = nth xs i := by unfold gi nth; rw [if_pos h]; rfl
theorem gi_last {xs : List α} (h : xs ≠ []) : gi xs (-1) = xs.getLast h := by
  have := List.length_pos_iff.mpr h
  unfold gi
  rw [if_neg (by omega), List.getD_eq_getElem?_getD, List.getElem?_eq_getElem (by omega), List.getLast_eq_getElem]
  simp only [Option.getD_some]
  congr 1
  omega
theorem gOk_of {xs : List α} {i : Int} (h0 : 0 ≤ i) (h1 : i < xs.length) : gOk xs i := ⟨by omega, h1⟩
theorem rOk_of {a b : Int} (h1 : -1000000 ≤ a) (h2 : a ≤ 1000000) (h3 : -1000000 ≤ b) (h4 : b ≤ 1000000) : rOk a b := ⟨h1, h2, h3, h4⟩
theorem lim_of {n : Nat} (h : n ≤ 1000000) : n ≤ LIM := lim_ok h
end
theorem gi_drawn {ds : List Int} (h : Drawn ds) {i : Int} (h0 : 0 ≤ i) (h1 : i < ds.length) : 0 ≤ gi ds i ∧ gi ds i < 5040 := h _ (gi_mem h0 h1)
theorem cut_mem {α : Type} {xs : List α} {lo hi : Option Int} {x : α} (h : x ∈ cut xs lo hi) : x ∈ xs := List.mem_of_mem_drop (List.mem_of_mem_take h)
theorem cut_drawn {ds : List Int} (h : Drawn ds) (a b : Option Int) : Drawn (cut ds a b) := fun x hx => h x (cut_mem hx)
theorem cut_nn {α : Type} {xs : List α} (a b : Nat) : cut xs (some (a : Int)) (some (b : Int)) = (xs.drop (min a xs.length)).take (min b xs.length - min a xs.length) := by
  unfold cut; rw [HT.sIx_nat, HT.sIx_nat]
theorem cut_ab {α : Type} {xs : List α} {a b : Int} (h0 : 0 ≤ a) (h : a ≤ b) (h1 : b ≤ xs.length) : cut xs (some a) (some b) = (xs.drop a.toNat).take (b - a).toNat := by
  obtain ⟨i, rfl⟩ : ∃ i : Nat, a = i := ⟨a.toNat, by omega⟩
  obtain ⟨j, rfl⟩ : ∃ j : Nat, b = j := ⟨b.toNat, by omega⟩
  rw [cut_nn, Nat.min_eq_left (by omega), Nat.min_eq_left (by omega)]
  congr 1; omega
theorem cut_len {α : Type} {xs : List α} {a b : Int} (h0 : 0 ≤ a) (h : a ≤ b) (h1 : b ≤ xs.length) : ((cut xs (some a) (some b)).length : Int) = b - a := by
  rw [cut_ab h0 h h1, List.length_take, List.length_drop]; omega
theorem cut_to {α : Type} {xs : List α} {b : Int} (h0 : 0 ≤ b) (h1 : b ≤ xs.length) : cut xs none (some b) = xs.take b.toNat := by
  obtain ⟨j, rfl⟩ : ∃ j : Nat, b = j := ⟨b.toNat, by omega⟩
  unfold cut; rw [HT.sIx_none, HT.sIx_nat, List.drop_zero, Nat.sub_zero, Nat.min_eq_left (by omega)]; rfl
theorem cut_fr {α : Type} {xs : List α} {a : Int} (h0 : 0 ≤ a) : cut xs (some a) none = xs.drop a.toNat := by
  obtain ⟨j, rfl⟩ : ∃ j : Nat, a = j := ⟨a.toNat, by omega⟩
  unfold cut; rw [HT.sIx_none, HT.sIx_nat]
  show (xs.drop (min j xs.length)).take (xs.length - min j xs.length) = xs.drop j
  by_cases h : j ≤ xs.length
  · rw [Nat.min_eq_left h]
    exact List.take_of_length_le (by simp)
  · rw [Nat.min_eq_right (by omega), List.drop_eq_nil_of_le (Nat.le_refl _), List.drop_eq_nil_of_le (by omega), List.take_nil]
theorem gi_cut {α : Type} [Inhabited α] {xs : List α} {a b i : Int} (h0 : 0 ≤ a) (h1 : b ≤ xs.length) (h2 : 0 ≤ i) (h3 : i < b - a) : gi (cut xs (some a) (some b)) i = gi xs (a + i) := by
  rw [cut_ab h0 (by omega) h1]
  obtain ⟨i, rfl⟩ : ∃ k : Nat, i = k := ⟨i.toNat, by omega⟩
  obtain ⟨a, rfl⟩ : ∃ k : Nat, a = k := ⟨a.toNat, by omega⟩
  rw [show (a : Int) + (i : Int) = ((a + i : Nat) : Int) by omega, gi_at (by rw [List.length_take, List.length_drop]; omega), gi_at (by omega)]
  simp
/-- enumerate -/
theorem enm_eq {α : Type} [Inhabited α] (xs : List α) : enm xs = (ivs 0 xs.length).map fun i => (i, gi xs i) := by
  apply List.ext_getElem
  · simp [enm, ivs]
  · intro i h1 h2
    simp only [enm, List.length_mapIdx] at h1
    simp only [enm, ivs, List.getElem_mapIdx, List.getElem_map, List.getElem_range, Int.zero_add]
    rw [gi_at h1]
theorem mem_enm {α : Type} [Inhabited α] {xs : List α} {p : Int × α} : p ∈ enm xs ↔ 0 ≤ p.1 ∧ p.1 < xs.length ∧ p.2 = gi xs p.1 := by
  rw [enm_eq, List.mem_map]
  constructor
  · rintro ⟨i, hi, rfl⟩
    exact ⟨(mem_ivs.mp hi).1, (mem_ivs.mp hi).2, rfl⟩
  · rintro ⟨h1, h2, h3⟩
    exact ⟨p.1, mem_ivs.mpr ⟨h1, h2⟩, by rw [← h3]⟩
theorem map_gi {α : Type} [Inhabited α] (xs : List α) : (ivs 0 xs.length).map (fun i => gi xs i) = xs := by
  apply List.ext_getElem
  · simp [ivs]
  · intro i h1 h2
    simp only [ivs, List.getElem_map, List.getElem_range, Int.zero_add]
    rw [gi_at h2]
theorem all_id {α : Type} (xs : List α) (p : α → Bool) : (xs.map p).all id = xs.all p := by rw [List.all_map]; rfl
theorem len0 {α : Type} (xs : List α) : decide ((xs.length : Int) = 0) = xs.isEmpty := by cases xs <;> simp; omega
theorem lenF0 {α : Type} (xs : List α) (p : α → Bool) : decide (((xs.filter p).length : Int) = 0) = !(xs.any p) := by
  rw [len0]
  induction xs with
  | nil => rfl
  | cons x xs ih => by_cases h : p x = true <;> simp_all
theorem filter_len {α : Type} {xs : List α} {p : α → Bool} {k : Nat} (h : xs.length ≤ k) : (xs.filter p).length ≤ k := Nat.le_trans (List.length_filter_le _ _) h
theorem ivs_len {a b : Int} {k : Nat} (h : b - a ≤ k) : (ivs a b).length ≤ k := by rw [ivs_length]; omega

theorem nodup_le {α : Type} [DecidableEq α] : ∀ {xs ys : List α}, xs.Nodup → (∀ x ∈ xs, x ∈ ys) → xs.length ≤ ys.length
  | [], ys, _, _ => by simp
  | x :: xs, ys, h, k => by
    rw [List.nodup_cons] at h
    have h1 := nodup_le (xs := xs) (ys := ys.erase x) h.2 (fun y hy => (List.mem_erase_of_ne (a := y) (b := x) (by rintro rfl; exact h.1 hy)).mpr (k y (by simp [hy])))
    have h2 := List.length_erase_of_mem (k x (by simp))
    have h3 := List.length_pos_of_mem (k x (by simp))
    simp; omega
/-! ### sets -/
theorem mem_subs {n : Nat} {xs : List Int} : xs ∈ subs n ↔ Asc xs ∧ ∀ x ∈ xs, 0 ≤ x ∧ x < n := subs_mem n xs
theorem subs_nodup : ∀ n : Nat, (subs n).Nodup
  | 0 => by rw [show subs ((0 : Nat) : Int) = [[]] from rfl]; simp
  | n + 1 => by
    rw [show ((n + 1 : Nat) : Int) = (n : Int) + 1 by omega, subs_succ, List.nodup_append]
    refine ⟨subs_nodup n, ?_, ?_⟩
    · rw [List.nodup_iff_pairwise_ne, List.pairwise_map]
      refine (List.nodup_iff_pairwise_ne.mp (subs_nodup n)).imp ?_
      intro a b h e
      exact h (List.append_cancel_right e)
    · rintro a ha b hb rfl
      obtain ⟨x, hx, e⟩ := List.mem_map.mp hb
      subst e
      have := ((mem_subs.mp ha).2 (n : Int) (by simp)).2
      omega
/-- all sets of numbers below n, the short ones first -/
def sets1 (n : Int) : List (List Int) := (srt ((subs n).map fun o => ((o.length : Int), o))).map fun q => q.2
/-- all sets of numbers below n, in the order of tuples -/
def sets2 (n : Int) : List (List Int) := srt (subs n)
theorem sets1_perm (n : Int) : (sets1 n).Perm (subs n) := by
  unfold sets1
  have h := (srt_perm ((subs n).map fun o => ((o.length : Int), o))).map fun q => q.2
  rw [List.map_map] at h
  simpa [Function.comp_def] using h
theorem sets2_perm (n : Int) : (sets2 n).Perm (subs n) := srt_perm _
theorem mem_sets1 {n : Nat} {xs : List Int} : xs ∈ sets1 n ↔ Asc xs ∧ ∀ x ∈ xs, 0 ≤ x ∧ x < n := (sets1_perm n).mem_iff.trans mem_subs
theorem mem_sets2 {n : Nat} {xs : List Int} : xs ∈ sets2 n ↔ Asc xs ∧ ∀ x ∈ xs, 0 ≤ x ∧ x < n := (sets2_perm n).mem_iff.trans mem_subs
theorem sets1_nodup (n : Nat) : (sets1 n).Nodup := (sets1_perm n).nodup_iff.mpr (subs_nodup n)
theorem sets2_nodup (n : Nat) : (sets2 n).Nodup := (sets2_perm n).nodup_iff.mpr (subs_nodup n)
theorem sets2_lt (n : Nat) : (sets2 n).Pairwise (· < ·) := srt_lt (subs_nodup n)
theorem sets1_length (n : Nat) : (sets1 n).length = 2 ^ n := (sets1_perm n).length_eq.trans (subs_length n)
theorem sets2_length (n : Nat) : (sets2 n).length = 2 ^ n := (sets2_perm n).length_eq.trans (subs_length n)
theorem srt_sets1 (n : Nat) : srt (sets1 n) = sets2 n := srt_of_perm (sets1_perm n)
theorem srt_sets1_filter (n : Nat) (p : List Int → Bool) : srt ((sets1 n).filter p) = (sets2 n).filter p := by rw [srt_filter, srt_sets1]
theorem asc_len {n : Nat} {xs : List Int} (h : Asc xs) (hb : ∀ x ∈ xs, 0 ≤ x ∧ x < (n : Int)) : xs.length ≤ n := asc_length h hb
theorem sets1_len {n : Nat} {xs : List Int} (h : xs ∈ sets1 n) : xs.length ≤ n := asc_len (mem_sets1.mp h).1 (mem_sets1.mp h).2
theorem sets2_len {n : Nat} {xs : List Int} (h : xs ∈ sets2 n) : xs.length ≤ n := asc_len (mem_sets2.mp h).1 (mem_sets2.mp h).2
theorem subs_len {n : Nat} {xs : List Int} (h : xs ∈ subs n) : xs.length ≤ n := asc_len (mem_subs.mp h).1 (mem_subs.mp h).2
theorem pow_small {n : Nat} (h : n ≤ 12) : 2 ^ n ≤ 4096 := Nat.le_trans (Nat.pow_le_pow_right (by omega) h) (by decide)
def okSub (s : List (List Int)) (a : Int) : Prop := s.length ≤ LIM ∧ (∀ one ∈ s, one.length + ([a] : List Int).length ≤ LIM) ∧ s.length + (s.map fun one => one ++ [a]).length ≤ LIM
theorem okF_subs {n : Nat} (h : n ≤ 12) : okF (fun (s : List (List Int)) (a : Int) => s ++ s.map fun x => x ++ [a]) okSub (ivs 0 n) [[]] := by
  refine okF_at (fun p s => p = ivs 0 p.length ∧ s = subs p.length) ⟨rfl, rfl⟩ ?_
  rintro p x q s e ⟨h1, rfl⟩
  have lp : p.length < n := by
    have := congrArg List.length e
    rw [ivs_length] at this
    simp at this; omega
  have hx : x = (p.length : Int) := by
    have e2 : (ivs 0 (n : Int))[p.length]? = some x := by rw [e]; simp
    exact (ivs_get e2).1
  subst hx
  have l := subs_length p.length
  have b := pow_small (n := p.length) (by omega)
  refine ⟨⟨lim_ok (by omega), fun o ho => lim_ok ?_, lim_ok (by rw [List.length_map]; omega)⟩, ?_, ?_⟩
  · have := subs_len ho
    simp; omega
  · rw [List.length_append, List.length_singleton, show ((p.length + 1 : Nat) : Int) = (p.length : Int) + 1 by omega, ivs_succ, ← h1]
  · rw [List.length_append, List.length_singleton, show ((p.length + 1 : Nat) : Int) = (p.length : Int) + 1 by omega, subs_succ]
theorem asc_nodup {xs : List Int} (h : Asc xs) : xs.Nodup := h.imp fun q e => by omega
theorem asc_ivs (n : Int) : Asc (ivs 0 n) := by
  unfold Asc ivs
  rw [List.pairwise_map]
  exact List.pairwise_lt_range.imp fun h => by omega
theorem asc_lt_ext {xs ys : List Int} (h : Asc xs) (k : Asc ys) (e : ∀ z, z ∈ xs ↔ z ∈ ys) : xs = ys := lt_ext h k e
theorem asc_filter {xs : List Int} (h : Asc xs) (p : Int → Bool) : Asc (xs.filter p) := List.Pairwise.filter _ h
/-- is_ascending -/
theorem rising_iff {xs : List Int} : ((ivs 0 ((xs.length : Int) - 1)).all fun i => decide (gi xs i < gi xs (i + 1))) = true ↔ Asc xs := by
  rw [List.all_eq_true]
  constructor
  · intro h
    have h2 : ∀ i (hi : i + 1 < xs.length), xs[i] < xs[i + 1] := by
      intro i hi
      have := h (i : Int) (mem_ivs.mpr ⟨by omega, by omega⟩)
      rw [decide_eq_true_eq, gi_at (by omega), show (i : Int) + 1 = ((i + 1 : Nat) : Int) by omega, gi_at hi] at this
      exact this
    unfold Asc
    rw [List.pairwise_iff_getElem]
    intro i j hi hj hij
    induction j with
    | zero => omega
    | succ j ih =>
      by_cases e : i = j
      · subst e; exact h2 i hj
      · exact Int.lt_trans (ih (by omega) (by omega)) (h2 j hj)
  · intro h i hi
    obtain ⟨a, b⟩ := mem_ivs.mp hi
    obtain ⟨j, rfl⟩ : ∃ j : Nat, i = j := ⟨i.toNat, by omega⟩
    rw [decide_eq_true_eq, gi_at (by omega), show (j : Int) + 1 = ((j + 1 : Nat) : Int) by omega, gi_at (by omega)]
    exact List.pairwise_iff_getElem.mp h _ _ _ _ (by omega)
theorem in_all {xs : List Int} {n : Int} : (xs.all fun x => decide (0 ≤ x) && decide (x < n)) = true ↔ ∀ x ∈ xs, 0 ≤ x ∧ x < n := by
  simp
theorem setI_asc (xs : List Int) : Asc (setI xs) := by
  have h := List.pairwise_mergeSort (le := fun a b : Int => decide (a ≤ b)) (fun a b c h k => by
    simp only [decide_eq_true_eq] at *; omega) (fun a b => by simp; omega) (nub xs)
  have h2 : (setI xs).Nodup := by
    unfold setI
    rw [(List.mergeSort_perm _ _).nodup_iff]
    exact Cs.nodup_nub xs
  refine (List.Pairwise.and h h2).imp ?_
  rintro a b ⟨q, r⟩
  simp only [decide_eq_true_eq] at q
  omega
theorem srt_setI {xs : List Int} : srt (setI xs) = setI xs := srt_of_lt (setI_asc xs)
/-- _law_set -/
theorem mem_setI' {ns : List Int} {x : Int} : x ∈ setI ns ↔ x ∈ ns := mem_setI
end Pv

set_option maxHeartbeats 8000000
noncomputable section
namespace LawX
open PySem Ce Cs Pu Sh
def sh__law_cell (script : (List Int)) (k : Int) : Int :=
if (decide (k < ((script).length : Int))) then
((gi script k))
else
((((5 : Int) * k) + (3 : Int)))
def ok__law_cell (script : (List Int)) (k : Int) : Prop :=
(if (decide (k < ((script).length : Int))) then
(gOk script k)
else
(True))
def sh__law_draws_L1 (digits : Bool) (seed : Int) (s1_ : Int × (List Int)) (k : Int) : Int × (List Int) :=
letv (if (digits && (decide ((0 : Int) < s1_.1))) then
(letv (s1_.2 ++ [(s1_.1 % (5040 : Int))] : (List Int)) fun draws =>
letv ((s1_.1 / (5040 : Int)) : Int) fun rest =>
(rest, draws))
else
(letv (((((seed * (48271 : Int)) + ((k + (1 : Int)) * (69621 : Int))) + (11 : Int)) % (2147483647 : Int)) : Int) fun mixed =>
letv ((((mixed * mixed) + ((40692 : Int) * (k + (3 : Int)))) % (2147483399 : Int)) : Int) fun mixed =>
letv (s1_.2 ++ [((mixed / (64 : Int)) % (5040 : Int))] : (List Int)) fun draws =>
(s1_.1, draws)) : Int × (List Int)) fun j5_ =>
(j5_.1, j5_.2)
def ok__law_draws_L1 (digits : Bool) (seed : Int) (s1_ : Int × (List Int)) (k : Int) : Prop :=
((if (digits && (decide ((0 : Int) < s1_.1))) then
((s1_.2).length < LIM)
else
((letv (((((seed * (48271 : Int)) + ((k + (1 : Int)) * (69621 : Int))) + (11 : Int)) % (2147483647 : Int)) : Int) fun mixed =>
mOk mixed mixed ∧ (letv ((((mixed * mixed) + ((40692 : Int) * (k + (3 : Int)))) % (2147483399 : Int)) : Int) fun mixed =>
(s1_.2).length < LIM)))))
def sh__law_draws (cell : Int) (count : Int) : (List Int) :=
letv (((cell).natAbs : Int) : Int) fun rest =>
letv ((decide (((10 : Int) ^ 18) ≤ rest)) : Bool) fun digits =>
letv (rest : Int) fun seed =>
letv (([] : (List Int)) : (List Int)) fun draws =>
letv (((ivs (0 : Int) count)).foldl (sh__law_draws_L1 (digits) (seed)) (rest, draws) : Int × (List Int)) fun j10_ =>
j10_.2
def ok__law_draws (cell : Int) (count : Int) : Prop :=
(letv (((cell).natAbs : Int) : Int) fun rest =>
(letv ((decide (((10 : Int) ^ 18) ≤ rest)) : Bool) fun digits =>
(letv (rest : Int) fun seed =>
(letv (([] : (List Int)) : (List Int)) fun draws =>
rOk (0 : Int) count ∧ okF (sh__law_draws_L1 (digits) (seed)) (ok__law_draws_L1 (digits) (seed)) (ivs (0 : Int) count) (rest, draws)))))
def sh__law_circuit_L1 (draws : (List Int)) (n : Int) (s1_ : (List (Int × Int))) (at_v : Int) : (List (Int × Int)) :=
letv (((gi draws ((2 : Int) * at_v)) % (n + at_v)) : Int) fun i =>
letv ((if (decide (((gi draws (((2 : Int) * at_v) + (1 : Int))) % (3 : Int)) = (0 : Int))) then ((n + at_v) - (1 : Int)) else ((gi draws (((2 : Int) * at_v) + (1 : Int))) % (n + at_v))) : Int) fun j =>
letv (s1_ ++ [((min i j), (max i j))] : (List (Int × Int))) fun found =>
found
def ok__law_circuit_L1 (draws : (List Int)) (n : Int) (s1_ : (List (Int × Int))) (at_v : Int) : Prop :=
gOk draws ((2 : Int) * at_v) ∧ 0 < (n + at_v) ∧ (letv (((gi draws ((2 : Int) * at_v)) % (n + at_v)) : Int) fun i =>
gOk draws (((2 : Int) * at_v) + (1 : Int)) ∧ (((decide (((gi draws (((2 : Int) * at_v) + (1 : Int))) % (3 : Int)) = (0 : Int))) = false → gOk draws (((2 : Int) * at_v) + (1 : Int)) ∧ 0 < (n + at_v))) ∧ (letv ((if (decide (((gi draws (((2 : Int) * at_v) + (1 : Int))) % (3 : Int)) = (0 : Int))) then ((n + at_v) - (1 : Int)) else ((gi draws (((2 : Int) * at_v) + (1 : Int))) % (n + at_v))) : Int) fun j =>
(s1_).length < LIM))
def sh__law_circuit (draws : (List Int)) (n : Int) (count : Int) : (List (Int × Int)) :=
letv (([] : (List (Int × Int))) : (List (Int × Int))) fun found =>
letv (((ivs (0 : Int) count)).foldl (sh__law_circuit_L1 (draws) (n)) found : (List (Int × Int))) fun found =>
found
def ok__law_circuit (draws : (List Int)) (n : Int) (count : Int) : Prop :=
(letv (([] : (List (Int × Int))) : (List (Int × Int))) fun found =>
rOk (0 : Int) count ∧ okF (sh__law_circuit_L1 (draws) (n)) (ok__law_circuit_L1 (draws) (n)) (ivs (0 : Int) count) found)
def sh__law_clauses_due_L1 (n : Int) (s1_ : (List (List Int))) (q21_ : (Int × (Int × Int))) : (List (List Int)) :=
letv (((n + q21_.1) + (1 : Int)) : Int) fun letter =>
letv ((s1_ ++ [[((q21_.2).1 + (1 : Int)), letter], [((q21_.2).2 + (1 : Int)), letter]]) : (List (List Int))) fun found =>
letv (if (decide ((q21_.2).1 = (q21_.2).2)) then
(letv (found ++ [[((0 : Int) - letter), (((0 : Int) - (q21_.2).1) - (1 : Int))]] : (List (List Int))) fun found =>
found)
else
(letv (found ++ [[((0 : Int) - letter), (((0 : Int) - (q21_.2).2) - (1 : Int)), (((0 : Int) - (q21_.2).1) - (1 : Int))]] : (List (List Int))) fun found =>
found) : (List (List Int))) fun found =>
found
def ok__law_clauses_due_L1 (n : Int) (s1_ : (List (List Int))) (q21_ : (Int × (Int × Int))) : Prop :=
(letv (((n + q21_.1) + (1 : Int)) : Int) fun letter =>
(s1_).length + ([[((q21_.2).1 + (1 : Int)), letter], [((q21_.2).2 + (1 : Int)), letter]]).length ≤ LIM ∧ (letv ((s1_ ++ [[((q21_.2).1 + (1 : Int)), letter], [((q21_.2).2 + (1 : Int)), letter]]) : (List (List Int))) fun found =>
((if (decide ((q21_.2).1 = (q21_.2).2)) then
((found).length < LIM)
else
((found).length < LIM)))))
def sh__law_clauses_due (n : Int) (circuit : (List (Int × Int))) : (List (List Int)) :=
letv (([] : (List (List Int))) : (List (List Int))) fun found =>
letv (((enm circuit)).foldl (sh__law_clauses_due_L1 (n)) found : (List (List Int))) fun found =>
(setT found)
def ok__law_clauses_due (n : Int) (circuit : (List (Int × Int))) : Prop :=
(letv (([] : (List (List Int))) : (List (List Int))) fun found =>
okF (sh__law_clauses_due_L1 (n)) (ok__law_clauses_due_L1 (n)) (enm circuit) found ∧ (letv (((enm circuit)).foldl (sh__law_clauses_due_L1 (n)) found : (List (List Int))) fun found =>
(found).length < 64))
def sh_clauses_of_circuit_L1 (n : Int) (s1_ : (List (List Int))) (q29_ : (Int × (Int × Int))) : (List (List Int)) :=
letv (((n + q29_.1) + (1 : Int)) : Int) fun letter =>
letv (s1_ ++ [[(q29_.2.1 + (1 : Int)), letter], [(q29_.2.2 + (1 : Int)), letter]] : (List (List Int))) fun found =>
letv (found ++ [(setI [(-(q29_.2.1 + (1 : Int))), (-(q29_.2.2 + (1 : Int))), (-letter)])] : (List (List Int))) fun found =>
found
def ok_clauses_of_circuit_L1 (n : Int) (s1_ : (List (List Int))) (q29_ : (Int × (Int × Int))) : Prop :=
(letv (((n + q29_.1) + (1 : Int)) : Int) fun letter =>
(s1_).length + ([[(q29_.2.1 + (1 : Int)), letter], [(q29_.2.2 + (1 : Int)), letter]]).length ≤ LIM ∧ (letv (s1_ ++ [[(q29_.2.1 + (1 : Int)), letter], [(q29_.2.2 + (1 : Int)), letter]] : (List (List Int))) fun found =>
([(-(q29_.2.1 + (1 : Int))), (-(q29_.2.2 + (1 : Int))), (-letter)]).length < 64 ∧ (found).length < LIM))
def sh_clauses_of_circuit (n : Int) (circuit : (List (Int × Int))) : (List (List Int)) :=
letv (([] : (List (List Int))) : (List (List Int))) fun found =>
letv (((enm circuit)).foldl (sh_clauses_of_circuit_L1 (n)) found : (List (List Int))) fun found =>
(setT found)
def ok_clauses_of_circuit (n : Int) (circuit : (List (Int × Int))) : Prop :=
(letv (([] : (List (List Int))) : (List (List Int))) fun found =>
okF (sh_clauses_of_circuit_L1 (n)) (ok_clauses_of_circuit_L1 (n)) (enm circuit) found ∧ (letv (((enm circuit)).foldl (sh_clauses_of_circuit_L1 (n)) found : (List (List Int))) fun found =>
(found).length < 64))
def sh__law_answers_L2  (s2_ : (List (List Int))) (answers : (List Int)) : (List (List Int)) :=
letv ((s2_ ++ [(answers ++ [(0 : Int)]), (answers ++ [(1 : Int)])]) : (List (List Int))) fun longer =>
longer
def ok__law_answers_L2  (s2_ : (List (List Int))) (answers : (List Int)) : Prop :=
(answers).length + ([(0 : Int)]).length ≤ LIM ∧ (answers).length + ([(1 : Int)]).length ≤ LIM ∧ (s2_).length + ([(answers ++ [(0 : Int)]), (answers ++ [(1 : Int)])]).length ≤ LIM
def sh__law_answers_L1  (s1_ : (List (List Int))) (turn : Int) : (List (List Int)) :=
letv (([] : (List (List Int))) : (List (List Int))) fun longer =>
letv ((s1_).foldl sh__law_answers_L2 longer : (List (List Int))) fun longer =>
letv (longer : (List (List Int))) fun found =>
found
def ok__law_answers_L1  (s1_ : (List (List Int))) (turn : Int) : Prop :=
(letv (([] : (List (List Int))) : (List (List Int))) fun longer =>
okF sh__law_answers_L2 ok__law_answers_L2 s1_ longer)
def sh__law_answers (n : Int) : (List (List Int)) :=
letv ([([] : (List Int))] : (List (List Int))) fun found =>
letv (((ivs (0 : Int) n)).foldl sh__law_answers_L1 found : (List (List Int))) fun found =>
found
def ok__law_answers (n : Int) : Prop :=
(letv ([([] : (List Int))] : (List (List Int))) fun found =>
rOk (0 : Int) n ∧ okF sh__law_answers_L1 ok__law_answers_L1 (ivs (0 : Int) n) found)
def sh__law_bits_L1  (s1_ : (List Int)) (q44_ : (Int × Int)) : (List Int) :=
letv (s1_ ++ [(if ((decide ((gi s1_ q44_.1) = (1 : Int))) && (decide ((gi s1_ q44_.2) = (1 : Int)))) then (0 : Int) else (1 : Int))] : (List Int)) fun bits =>
bits
def ok__law_bits_L1  (s1_ : (List Int)) (q44_ : (Int × Int)) : Prop :=
gOk s1_ q44_.1 ∧ (((decide ((gi s1_ q44_.1) = (1 : Int))) = true → gOk s1_ q44_.2)) ∧ (s1_).length < LIM
def sh__law_bits (circuit : (List (Int × Int))) (answers : (List Int)) : (List Int) :=
letv (answers : (List Int)) fun bits =>
letv ((circuit).foldl sh__law_bits_L1 bits : (List Int)) fun bits =>
bits
def ok__law_bits (circuit : (List (Int × Int))) (answers : (List Int)) : Prop :=
(letv (answers : (List Int)) fun bits =>
okF sh__law_bits_L1 ok__law_bits_L1 circuit bits)
def sh__law_run (circuit : (List (Int × Int))) (answers : (List Int)) : Tx :=
(joinS ([] : Tx) ((sh__law_bits (circuit) (answers)).map fun (bit : Int) => [gi ([110, 121] : Tx) bit]))
def ok__law_run (circuit : (List (Int × Int))) (answers : (List Int)) : Prop :=
ok__law_bits (circuit) (answers) ∧ ((sh__law_bits (circuit) (answers))).length ≤ LIM ∧ ((∀ bit ∈ (sh__law_bits (circuit) (answers)), ((([110, 121] : Tx)).length ≤ LIM ∧ gOk ([110, 121] : Tx) bit))) ∧ (joinOk ([] : Tx) ((sh__law_bits (circuit) (answers)).map fun (bit : Int) => [gi ([110, 121] : Tx) bit]))
def sh_all_cases_L1  (s1_ : (List Tx)) (w_v1 : Int) : (List Tx) :=
letv ((s1_.flatMap fun (case : Tx) => (sgs ([110, 121] : Tx)).map fun (sign : Tx) => (case ++ sign)) : (List Tx)) fun found =>
found
def ok_all_cases_L1  (s1_ : (List Tx)) (w_v1 : Int) : Prop :=
((∀ case ∈ s1_, ∀ sign ∈ (sgs ([110, 121] : Tx)), (case).length + (sign).length ≤ LIM)) ∧ (((s1_.flatMap fun (case : Tx) => (sgs ([110, 121] : Tx)).map fun (sign : Tx) => (case ++ sign))).length ≤ LIM)
def sh_all_cases (n : Int) : (List Tx) :=
letv ([([] : Tx)] : (List Tx)) fun found =>
letv (((ivs (0 : Int) n)).foldl sh_all_cases_L1 found : (List Tx)) fun found =>
found
def ok_all_cases (n : Int) : Prop :=
(letv ([([] : Tx)] : (List Tx)) fun found =>
rOk (0 : Int) n ∧ okF sh_all_cases_L1 ok_all_cases_L1 (ivs (0 : Int) n) found)
def sh_is_met_by (number : Int) (case : Tx) : Bool :=
(decide ([gi case (((number).natAbs : Int) - (1 : Int))] = (if (decide ((0 : Int) < number)) then ([121] : Tx) else ([110] : Tx))))
def ok_is_met_by (number : Int) (case : Tx) : Prop :=
(((case).length ≤ LIM ∧ gOk case (((number).natAbs : Int) - (1 : Int))))
def sh_is_met (clauses : (List (List Int))) (case : Tx) : Bool :=
(clauses.all fun (clause : (List Int)) => (clause.any fun (number : Int) => (sh_is_met_by (number) (case))))
def ok_is_met (clauses : (List (List Int))) (case : Tx) : Prop :=
((∀ clause ∈ clauses, (∀ number ∈ clause, ok_is_met_by (number) (case))))
def sh_good_cases (n : Int) (clauses : (List (List Int))) : (List Tx) :=
((sh_all_cases (n)).filter fun (case : Tx) => (sh_is_met (clauses) (case)))
def ok_good_cases (n : Int) (clauses : (List (List Int))) : Prop :=
ok_all_cases (n) ∧ ((sh_all_cases (n))).length ≤ LIM ∧ ((∀ case ∈ (sh_all_cases (n)), ok_is_met (clauses) (case)))
def sh_number_of_cases (n : Int) (clauses : (List (List Int))) : Int :=
(((sh_good_cases (n) (clauses))).length : Int)
def ok_number_of_cases (n : Int) (clauses : (List (List Int))) : Prop :=
ok_good_cases (n) (clauses)
def sh_told_case (n : Int) (clauses : (List (List Int))) : (Option Tx) :=
letv ((sh_good_cases (n) (clauses)) : (List Tx)) fun found =>
(if (!(found).isEmpty) then (some (gi found (0 : Int))) else (none : (Option Tx)))
def ok_told_case (n : Int) (clauses : (List (List Int))) : Prop :=
ok_good_cases (n) (clauses) ∧ (letv ((sh_good_cases (n) (clauses)) : (List Tx)) fun found =>
(((!(found).isEmpty) = true → gOk found (0 : Int))))
def sh_is_ascending (items : (List Int)) : Bool :=
((ivs (0 : Int) (((items).length : Int) - (1 : Int))).all fun (at_v : Int) => (decide ((gi items at_v) < (gi items (at_v + (1 : Int))))))
def ok_is_ascending (items : (List Int)) : Prop :=
rOk (0 : Int) (((items).length : Int) - (1 : Int)) ∧ ((∀ at_v ∈ (ivs (0 : Int) (((items).length : Int) - (1 : Int))), gOk items at_v ∧ gOk items (at_v + (1 : Int))))
def sh_is_clause (numbers : (List Int)) : Bool :=
if ((!(sh_is_ascending (numbers))) || (decide ((0 : Int) ∈ numbers))) then
(false)
else
((!(numbers.any fun (number : Int) => (decide ((-number) ∈ numbers)))))
def ok_is_clause (numbers : (List Int)) : Prop :=
ok_is_ascending (numbers)
def sh__law_more (clauses : (List (List Int))) (number : Int) : (List (List Int)) :=
(setT (clauses ++ [[number]]))
def ok__law_more (clauses : (List (List Int))) (number : Int) : Prop :=
(clauses).length + ([[number]]).length ≤ LIM ∧ ((clauses ++ [[number]])).length < 64
def sh_law_L2 (letters : Int) (clauses : (List (List Int))) (runs : (List Tx)) (s2_ : Unit) (q100_ : (Int × Tx)) : Ctl (Unit) Bool :=
letv ((runs.filter fun (some : Tx) => (decide ([gi some (letters - (1 : Int))] = q100_.2))) : (List Tx)) fun good =>
letv ((sh__law_more (clauses) (q100_.1)) : (List (List Int))) fun more =>
if (!(decide ((sh_number_of_cases (letters) (more)) = ((good).length : Int)))) then
(.rt (false))
else
(if (!(decide ((sh_told_case (letters) (more)) = (if (decide ((0 : Int) < ((good).length : Int))) then (some (gi good (0 : Int))) else (none : (Option Tx)))))) then
(.rt (false))
else
(.nx ()))
def ok_law_L2 (letters : Int) (clauses : (List (List Int))) (runs : (List Tx)) (s2_ : Unit) (q100_ : (Int × Tx)) : Prop :=
(runs).length ≤ LIM ∧ ((∀ some ∈ runs, ((some).length ≤ LIM ∧ gOk some (letters - (1 : Int))))) ∧ (letv ((runs.filter fun (some : Tx) => (decide ([gi some (letters - (1 : Int))] = q100_.2))) : (List Tx)) fun good =>
ok__law_more (clauses) (q100_.1) ∧ (letv ((sh__law_more (clauses) (q100_.1)) : (List (List Int))) fun more =>
ok_number_of_cases (letters) (more) ∧ (if (!(decide ((sh_number_of_cases (letters) (more)) = ((good).length : Int)))) then
(True)
else
(ok_told_case (letters) (more) ∧ (((decide ((0 : Int) < ((good).length : Int))) = true → gOk good (0 : Int))) ∧ pl 8 ((tO tS) (if (decide ((0 : Int) < ((good).length : Int))) then (some (gi good (0 : Int))) else (none : (Option Tx)))) = true))))
def sh_answers_in_order_L1  (s1_ : (List (List Int))) (w_v1 : Int) : (List (List Int)) :=
letv ((s1_.flatMap fun (answers : (List Int)) => [(0 : Int), (1 : Int)].map fun (bit : Int) => (answers ++ [bit])) : (List (List Int))) fun found =>
found
def ok_answers_in_order_L1  (s1_ : (List (List Int))) (w_v1 : Int) : Prop :=
((∀ answers ∈ s1_, ∀ bit ∈ [(0 : Int), (1 : Int)], (answers).length + ([bit]).length ≤ LIM)) ∧ (((s1_.flatMap fun (answers : (List Int)) => [(0 : Int), (1 : Int)].map fun (bit : Int) => (answers ++ [bit]))).length ≤ LIM)
def sh_answers_in_order (n : Int) : (List (List Int)) :=
letv ([([] : (List Int))] : (List (List Int))) fun found =>
letv (((ivs (0 : Int) n)).foldl sh_answers_in_order_L1 found : (List (List Int))) fun found =>
found
def ok_answers_in_order (n : Int) : Prop :=
(letv ([([] : (List Int))] : (List (List Int))) fun found =>
rOk (0 : Int) n ∧ okF sh_answers_in_order_L1 ok_answers_in_order_L1 (ivs (0 : Int) n) found)
def sh_run_wires_L1  (s1_ : (List Int)) (q129_ : (Int × Int)) : (List Int) :=
letv (s1_ ++ [((1 : Int) - ((gi s1_ q129_.1) * (gi s1_ q129_.2)))] : (List Int)) fun bits =>
bits
def ok_run_wires_L1  (s1_ : (List Int)) (q129_ : (Int × Int)) : Prop :=
gOk s1_ q129_.1 ∧ gOk s1_ q129_.2 ∧ mOk (gi s1_ q129_.1) (gi s1_ q129_.2) ∧ (s1_).length < LIM
def sh_run_wires (circuit : (List (Int × Int))) (answers : (List Int)) : (List Int) :=
letv (answers : (List Int)) fun bits =>
letv ((circuit).foldl sh_run_wires_L1 bits : (List Int)) fun bits =>
bits
def ok_run_wires (circuit : (List (Int × Int))) (answers : (List Int)) : Prop :=
(letv (answers : (List Int)) fun bits =>
okF sh_run_wires_L1 ok_run_wires_L1 circuit bits)
def sh_wire_function (n : Int) (circuit : (List (Int × Int))) (wire : Int) : Tx :=
(joinS ([] : Tx) ((sh_answers_in_order (n)).map fun (answers : (List Int)) => (strI (gi (sh_run_wires (circuit) (answers)) wire))))
def ok_wire_function (n : Int) (circuit : (List (Int × Int))) (wire : Int) : Prop :=
ok_answers_in_order (n) ∧ ((sh_answers_in_order (n))).length ≤ LIM ∧ ((∀ answers ∈ (sh_answers_in_order (n)), ok_run_wires (circuit) (answers) ∧ gOk (sh_run_wires (circuit) (answers)) wire ∧ ((gi (sh_run_wires (circuit) (answers)) wire)).natAbs.log2 < 1920)) ∧ (joinOk ([] : Tx) ((sh_answers_in_order (n)).map fun (answers : (List Int)) => (strI (gi (sh_run_wires (circuit) (answers)) wire))))
def sh_with_clause (clauses : (List (List Int))) (number : Int) : (List (List Int)) :=
(setT (clauses ++ [[number]]))
def ok_with_clause (clauses : (List (List Int))) (number : Int) : Prop :=
(clauses).length + ([[number]]).length ≤ LIM ∧ ((clauses ++ [[number]])).length < 64
def sh_fitting_cases_L1  (s1_ : (List Tx)) (w_v1 : Int) : (List Tx) :=
letv ((s1_.flatMap fun (text : Tx) => (sgs ([110, 121] : Tx)).map fun (sign : Tx) => (text ++ sign)) : (List Tx)) fun texts =>
texts
def ok_fitting_cases_L1  (s1_ : (List Tx)) (w_v1 : Int) : Prop :=
((∀ text ∈ s1_, ∀ sign ∈ (sgs ([110, 121] : Tx)), (text).length + (sign).length ≤ LIM)) ∧ (((s1_.flatMap fun (text : Tx) => (sgs ([110, 121] : Tx)).map fun (sign : Tx) => (text ++ sign))).length ≤ LIM)
def sh_fits_number (number : Int) (case : Tx) : Bool :=
(decide ([gi case (((number).natAbs : Int) - (1 : Int))] = (if (decide ((0 : Int) < number)) then ([121] : Tx) else ([110] : Tx))))
def ok_fits_number (number : Int) (case : Tx) : Prop :=
(((case).length ≤ LIM ∧ gOk case (((number).natAbs : Int) - (1 : Int))))
def sh_fits_all (clauses : (List (List Int))) (case : Tx) : Bool :=
(clauses.all fun (clause : (List Int)) => (clause.any fun (number : Int) => (sh_fits_number (number) (case))))
def ok_fits_all (clauses : (List (List Int))) (case : Tx) : Prop :=
((∀ clause ∈ clauses, (∀ number ∈ clause, ok_fits_number (number) (case))))
def sh_fitting_cases (n : Int) (clauses : (List (List Int))) : (List Tx) :=
letv ([([] : Tx)] : (List Tx)) fun texts =>
letv (((ivs (0 : Int) n)).foldl sh_fitting_cases_L1 texts : (List Tx)) fun texts =>
(texts.filter fun (text : Tx) => (sh_fits_all (clauses) (text)))
def ok_fitting_cases (n : Int) (clauses : (List (List Int))) : Prop :=
(letv ([([] : Tx)] : (List Tx)) fun texts =>
rOk (0 : Int) n ∧ okF sh_fitting_cases_L1 ok_fitting_cases_L1 (ivs (0 : Int) n) texts ∧ (letv (((ivs (0 : Int) n)).foldl sh_fitting_cases_L1 texts : (List Tx)) fun texts =>
(texts).length ≤ LIM ∧ ((∀ text ∈ texts, ok_fits_all (clauses) (text)))))
def sh_signs_at (words : (List Int)) (case : Tx) : Tx :=
(joinS ([] : Tx) (words.map fun (letter : Int) => [gi case (letter - (1 : Int))]))
def ok_signs_at (words : (List Int)) (case : Tx) : Prop :=
(words).length ≤ LIM ∧ ((∀ letter ∈ words, ((case).length ≤ LIM ∧ gOk case (letter - (1 : Int))))) ∧ (joinOk ([] : Tx) (words.map fun (letter : Int) => [gi case (letter - (1 : Int))]))
def sh_told_junction_L2 (words : (List Int)) (one : Tx) (s2_ : Unit) (other : Tx) : Ctl (Unit) (Option (Tx × Tx)) :=
if (decide ((sh_signs_at (words) (one)) = (sh_signs_at (words) (other)))) then
(.rt ((some (one, other))))
else
(.nx ())
def ok_told_junction_L2 (words : (List Int)) (one : Tx) (s2_ : Unit) (other : Tx) : Prop :=
ok_signs_at (words) (one) ∧ ok_signs_at (words) (other)
def sh_told_junction_L1 (n : Int) (second : (List (List Int))) (words : (List Int)) (s1_ : Unit) (one : Tx) : Ctl (Unit) (Option (Tx × Tx)) :=
goL (forL (sh_told_junction_L2 (words) (one)) (sh_fitting_cases (n) (second)) ()) .rt fun j169_ =>
.nx ()
def ok_told_junction_L1 (n : Int) (second : (List (List Int))) (words : (List Int)) (s1_ : Unit) (one : Tx) : Prop :=
ok_fitting_cases (n) (second) ∧ okL (sh_told_junction_L2 (words) (one)) (ok_told_junction_L2 (words) (one)) (sh_fitting_cases (n) (second)) ()
def sh_told_junction (n : Int) (first : (List (List Int))) (second : (List (List Int))) (words : (List Int)) : (Option (Tx × Tx)) :=
goL (forL (sh_told_junction_L1 (n) (second) (words)) (sh_fitting_cases (n) (first)) ()) (fun b_ => b_) fun j172_ =>
(none : (Option (Tx × Tx)))
def ok_told_junction (n : Int) (first : (List (List Int))) (second : (List (List Int))) (words : (List Int)) : Prop :=
ok_fitting_cases (n) (first) ∧ okL (sh_told_junction_L1 (n) (second) (words)) (ok_told_junction_L1 (n) (second) (words)) (sh_fitting_cases (n) (first)) ()
def sh_place_of_signs_L1  (s1_ : Int) (sign : Tx) : Int :=
letv ((((2 : Int) * s1_) + (if (decide (sign = ([121] : Tx))) then (1 : Int) else (0 : Int))) : Int) fun place =>
place
def sh_place_of_signs (signs : Tx) : Int :=
letv ((0 : Int) : Int) fun place =>
letv (((sgs signs)).foldl sh_place_of_signs_L1 place : Int) fun place =>
place
def sh_told_go_between (n : Int) (first : (List (List Int))) (second : (List (List Int))) (words : (List Int)) : (Option Tx) :=
if ((sh_told_junction (n) (first) (second) (words))).isSome then
((none : (Option Tx)))
else
(letv (((sh_fitting_cases (n) (first)).map fun (case : Tx) => (sh_place_of_signs ((sh_signs_at (words) (case))))) : (List Int)) fun places =>
(some (joinS ([] : Tx) ((ivs (0 : Int) ((1 : Int) * 2 ^ (((words).length : Int)).toNat)).map fun (place : Int) => (if (decide (place ∈ places)) then ([49] : Tx) else ([48] : Tx))))))
def ok_told_go_between (n : Int) (first : (List (List Int))) (second : (List (List Int))) (words : (List Int)) : Prop :=
ok_told_junction (n) (first) (second) (words) ∧ (if ((sh_told_junction (n) (first) (second) (words))).isSome then
(True)
else
(ok_fitting_cases (n) (first) ∧ ((sh_fitting_cases (n) (first))).length ≤ LIM ∧ ((∀ case ∈ (sh_fitting_cases (n) (first)), ok_signs_at (words) (case))) ∧ (letv (((sh_fitting_cases (n) (first)).map fun (case : Tx) => (sh_place_of_signs ((sh_signs_at (words) (case))))) : (List Int)) fun places =>
((0 ≤ ((words).length : Int) ∧ ((words).length : Int) ≤ 1000000 ∧ ((1 : Int)).natAbs < 2 ^ 64)) ∧ rOk (0 : Int) ((1 : Int) * 2 ^ (((words).length : Int)).toNat) ∧ (joinOk ([] : Tx) ((ivs (0 : Int) ((1 : Int) * 2 ^ (((words).length : Int)).toNat)).map fun (place : Int) => (if (decide (place ∈ places)) then ([49] : Tx) else ([48] : Tx)))))))
def sh_told_definition (n : Int) (clauses : (List (List Int))) (words : (List Int)) (letter : Int) : (Option Tx) :=
(sh_told_go_between (n) ((sh_with_clause (clauses) (letter))) ((sh_with_clause (clauses) ((-letter)))) (words))
def ok_told_definition (n : Int) (clauses : (List (List Int))) (words : (List Int)) (letter : Int) : Prop :=
ok_with_clause (clauses) (letter) ∧ ok_with_clause (clauses) ((-letter)) ∧ ok_told_go_between (n) ((sh_with_clause (clauses) (letter))) ((sh_with_clause (clauses) ((-letter)))) (words)
def sh_told_double (n : Int) (clauses : (List (List Int))) (words : (List Int)) (letter : Int) : (Option (Tx × Tx)) :=
(sh_told_junction (n) ((sh_with_clause (clauses) ((-letter)))) ((sh_with_clause (clauses) (letter))) (words))
def ok_told_double (n : Int) (clauses : (List (List Int))) (words : (List Int)) (letter : Int) : Prop :=
ok_with_clause (clauses) ((-letter)) ∧ ok_with_clause (clauses) (letter) ∧ ok_told_junction (n) ((sh_with_clause (clauses) ((-letter)))) ((sh_with_clause (clauses) (letter))) (words)
def sh_is_bits (size : Int) (text : Tx) : Bool :=
((decide (((text).length : Int) = ((1 : Int) * 2 ^ (size).toNat))) && ((sgs text).all fun (sign : Tx) => (decide (sign ∈ [([48] : Tx), ([49] : Tx)]))))
def ok_is_bits (size : Int) (text : Tx) : Prop :=
(text).length ≤ LIM ∧ ((0 ≤ size ∧ size ≤ 1000000 ∧ ((1 : Int)).natAbs < 2 ^ 64))
def sh_is_go_between_L2 (words : (List Int)) (text : Tx) (sign : Tx) (s2_ : Unit) (case : Tx) : Ctl (Unit) Bool :=
if (!decide ([gi text (sh_place_of_signs ((sh_signs_at (words) (case))))] = sign)) then
(.rt (false))
else
(.nx ())
def ok_is_go_between_L2 (words : (List Int)) (text : Tx) (sign : Tx) (s2_ : Unit) (case : Tx) : Prop :=
ok_signs_at (words) (case) ∧ (((text).length ≤ LIM ∧ gOk text (sh_place_of_signs ((sh_signs_at (words) (case))))))
def sh_is_go_between_L1 (n : Int) (words : (List Int)) (text : Tx) (s1_ : Unit) (q204_ : ((List (List Int)) × Tx)) : Ctl (Unit) Bool :=
goL (forL (sh_is_go_between_L2 (words) (text) (q204_.2)) (sh_fitting_cases (n) (q204_.1)) ()) .rt fun j208_ =>
.nx ()
def ok_is_go_between_L1 (n : Int) (words : (List Int)) (text : Tx) (s1_ : Unit) (q204_ : ((List (List Int)) × Tx)) : Prop :=
ok_fitting_cases (n) (q204_.1) ∧ okL (sh_is_go_between_L2 (words) (text) (q204_.2)) (ok_is_go_between_L2 (words) (text) (q204_.2)) (sh_fitting_cases (n) (q204_.1)) ()
def sh_is_go_between (n : Int) (first : (List (List Int))) (second : (List (List Int))) (words : (List Int)) (text : Tx) : Bool :=
if (!(sh_is_bits (((words).length : Int)) (text))) then
(false)
else
(goL (forL (sh_is_go_between_L1 (n) (words) (text)) [(first, ([49] : Tx)), (second, ([48] : Tx))] ()) (fun b_ => b_) fun j211_ =>
true)
def ok_is_go_between (n : Int) (first : (List (List Int))) (second : (List (List Int))) (words : (List Int)) (text : Tx) : Prop :=
ok_is_bits (((words).length : Int)) (text) ∧ (if (!(sh_is_bits (((words).length : Int)) (text))) then
(True)
else
(okL (sh_is_go_between_L1 (n) (words) (text)) (ok_is_go_between_L1 (n) (words) (text)) [(first, ([49] : Tx)), (second, ([48] : Tx))] ()))
def sh_is_definition (n : Int) (clauses : (List (List Int))) (words : (List Int)) (letter : Int) (text : Tx) : Bool :=
(sh_is_go_between (n) ((sh_with_clause (clauses) (letter))) ((sh_with_clause (clauses) ((-letter)))) (words) (text))
def ok_is_definition (n : Int) (clauses : (List (List Int))) (words : (List Int)) (letter : Int) (text : Tx) : Prop :=
ok_with_clause (clauses) (letter) ∧ ok_with_clause (clauses) ((-letter)) ∧ ok_is_go_between (n) ((sh_with_clause (clauses) (letter))) ((sh_with_clause (clauses) ((-letter)))) (words) (text)
def sh_law_L4 (letters : Int) (clauses : (List (List Int))) (first : (List Int)) (wire : Int) (function : Tx) (s4_ : Unit) (text : Tx) : Ctl (Unit) Bool :=
if (!(decide ((sh_is_definition (letters) (clauses) (first) ((wire + (1 : Int))) (text)) = (decide (text = function))))) then
(.rt (false))
else
(.nx ())
def ok_law_L4 (letters : Int) (clauses : (List (List Int))) (first : (List Int)) (wire : Int) (function : Tx) (s4_ : Unit) (text : Tx) : Prop :=
ok_is_definition (letters) (clauses) (first) ((wire + (1 : Int))) (text)
def sh_place_of_L1  (s1_ : Int) (answer : Int) : Int :=
letv ((((2 : Int) * s1_) + answer) : Int) fun place =>
place
def sh_place_of (answers : (List Int)) : Int :=
letv ((0 : Int) : Int) fun place =>
letv ((answers).foldl sh_place_of_L1 place : Int) fun place =>
place
def sh_value_at (n : Int) (function : Tx) (answers : (List Int)) : Tx :=
[gi function (sh_place_of ((cut answers none (some n))))]
def ok_value_at (n : Int) (function : Tx) (answers : (List Int)) : Prop :=
(((function).length ≤ LIM ∧ gOk function (sh_place_of ((cut answers none (some n))))))
def sh_law_L3 (draws : (List Int)) (n : Int) (circuit : (List (Int × Int))) (letters : Int) (clauses : (List (List Int))) (runs : (List Tx)) (first : (List Int)) (s3_ : Unit) (wire : Int) : Ctl (Unit) Bool :=
letv ((joinS ([] : Tx) (runs.map fun (some : Tx) => (if (decide ([gi some wire] = ([121] : Tx))) then ([49] : Tx) else ([48] : Tx)))) : Tx) fun function =>
if (!(decide ((sh_wire_function (n) (circuit) (wire)) = function))) then
(.rt (false))
else
(if (!(decide ((sh_told_definition (letters) (clauses) (first) ((wire + (1 : Int)))) = (some function)))) then
(.rt (false))
else
(if (!(decide ((sh_told_double (letters) (clauses) (first) ((wire + (1 : Int)))) = (none : (Option (Tx × Tx)))))) then
(.rt (false))
else
(letv (((gi draws ((20 : Int) + wire)) % ((runs).length : Int)) : Int) fun place =>
letv ((((cut function none (some place)) ++ (if (decide ([gi function place] = ([49] : Tx))) then ([48] : Tx) else ([49] : Tx))) ++ (cut function (some (place + (1 : Int))) none)) : Tx) fun other =>
goL (forL (sh_law_L4 (letters) (clauses) (first) (wire) (function)) [function, other, (function ++ ([48] : Tx))] ()) .rt fun j219_ =>
if (!(decide ((sh_value_at (n) (function) ((gi (sh__law_answers (n)) place))) = [gi function place]))) then
(.rt (false))
else
(.nx ()))))
def ok_law_L3 (draws : (List Int)) (n : Int) (circuit : (List (Int × Int))) (letters : Int) (clauses : (List (List Int))) (runs : (List Tx)) (first : (List Int)) (s3_ : Unit) (wire : Int) : Prop :=
(runs).length ≤ LIM ∧ ((∀ some ∈ runs, ((some).length ≤ LIM ∧ gOk some wire))) ∧ (joinOk ([] : Tx) (runs.map fun (some : Tx) => (if (decide ([gi some wire] = ([121] : Tx))) then ([49] : Tx) else ([48] : Tx)))) ∧ (letv ((joinS ([] : Tx) (runs.map fun (some : Tx) => (if (decide ([gi some wire] = ([121] : Tx))) then ([49] : Tx) else ([48] : Tx)))) : Tx) fun function =>
(ok_wire_function (n) (circuit) (wire)) ∧ (pl 8 (tS function) = true) ∧ (if (!(decide ((sh_wire_function (n) (circuit) (wire)) = function))) then
(True)
else
(ok_told_definition (letters) (clauses) (first) ((wire + (1 : Int))) ∧ (pl 8 ((tO tS) (some function)) = true) ∧ (if (!(decide ((sh_told_definition (letters) (clauses) (first) ((wire + (1 : Int)))) = (some function)))) then
(True)
else
(ok_told_double (letters) (clauses) (first) ((wire + (1 : Int))) ∧ pl 8 ((tO (tP2 tS tS)) (none : (Option (Tx × Tx)))) = true ∧ (if (!(decide ((sh_told_double (letters) (clauses) (first) ((wire + (1 : Int)))) = (none : (Option (Tx × Tx)))))) then
(True)
else
(gOk draws ((20 : Int) + wire) ∧ 0 < ((runs).length : Int) ∧ (letv (((gi draws ((20 : Int) + wire)) % ((runs).length : Int)) : Int) fun place =>
((function).length ≤ LIM) ∧ (((function).length ≤ LIM ∧ gOk function place)) ∧ (((cut function none (some place))).length + ((if (decide ([gi function place] = ([49] : Tx))) then ([48] : Tx) else ([49] : Tx))).length ≤ LIM) ∧ ((function).length ≤ LIM) ∧ ((((cut function none (some place)) ++ (if (decide ([gi function place] = ([49] : Tx))) then ([48] : Tx) else ([49] : Tx)))).length + ((cut function (some (place + (1 : Int))) none)).length ≤ LIM) ∧ (letv ((((cut function none (some place)) ++ (if (decide ([gi function place] = ([49] : Tx))) then ([48] : Tx) else ([49] : Tx))) ++ (cut function (some (place + (1 : Int))) none)) : Tx) fun other =>
((function).length + (([48] : Tx)).length ≤ LIM) ∧ (okL (sh_law_L4 (letters) (clauses) (first) (wire) (function)) (ok_law_L4 (letters) (clauses) (first) (wire) (function)) [function, other, (function ++ ([48] : Tx))] ()) ∧ (goP (forL (sh_law_L4 (letters) (clauses) (first) (wire) (function)) [function, other, (function ++ ([48] : Tx))] ()) fun j219_ =>
ok__law_answers (n) ∧ gOk (sh__law_answers (n)) place ∧ (ok_value_at (n) (function) ((gi (sh__law_answers (n)) place))) ∧ (((function).length ≤ LIM ∧ gOk function place)) ∧ (pl 8 (tS [gi function place]) = true)))))))))))
def sh_law_L1 (script : (List Int)) (s1_ : Unit) (turn : Int) : Ctl (Unit) Bool :=
letv ((sh__law_draws ((sh__law_cell (script) (turn))) ((30 : Int))) : (List Int)) fun draws =>
letv (((1 : Int) + ((gi draws (0 : Int)) % (3 : Int))) : Int) fun n =>
letv ((sh__law_circuit ((cut draws (some (4 : Int)) none)) (n) (((1 : Int) + ((gi draws (1 : Int)) % (4 : Int))))) : (List (Int × Int))) fun circuit =>
letv ((n + ((circuit).length : Int)) : Int) fun letters =>
letv ((sh__law_clauses_due (n) (circuit)) : (List (List Int))) fun clauses =>
if (!(decide ((sh_clauses_of_circuit (n) (circuit)) = clauses))) then
(.rt (false))
else
(letv (((sh__law_answers (n)).map fun (answers : (List Int)) => (sh__law_run (circuit) (answers))) : (List Tx)) fun runs =>
if (!(decide ((sh_number_of_cases (letters) (clauses)) = ((runs).length : Int)))) then
(.rt (false))
else
(if (!(decide ((sh_told_case (letters) (clauses)) = (some (gi runs (0 : Int)))))) then
(.rt (false))
else
(if (!(((runs.map fun (run : Tx) => (decide ((sh_is_met (clauses) (run)) = true)))).all id)) then
(.rt (false))
else
(if (!(((clauses.map fun (clause : (List Int)) => (decide ((sh_is_clause (clause)) = true)))).all id)) then
(.rt (false))
else
(letv ((gi runs ((gi draws (2 : Int)) % ((runs).length : Int))) : Tx) fun run =>
letv ((n + ((gi draws (3 : Int)) % ((circuit).length : Int))) : Int) fun at_v =>
letv ((((cut run none (some at_v)) ++ (if (decide ([gi run at_v] = ([121] : Tx))) then ([110] : Tx) else ([121] : Tx))) ++ (cut run (some (at_v + (1 : Int))) none)) : Tx) fun turned =>
if (!(decide ((sh_is_met (clauses) (turned)) = false))) then
(.rt (false))
else
(goL (forL (sh_law_L2 (letters) (clauses) (runs)) [(letters, ([121] : Tx)), (((0 : Int) - letters), ([110] : Tx))] ()) .rt fun j115_ =>
letv ((ivs (1 : Int) (n + (1 : Int))) : (List Int)) fun first =>
goL (forL (sh_law_L3 (draws) (n) (circuit) (letters) (clauses) (runs) (first)) (ivs (0 : Int) letters) ()) .rt fun j245_ =>
.nx ()))))))
def ok_law_L1 (script : (List Int)) (s1_ : Unit) (turn : Int) : Prop :=
ok__law_cell (script) (turn) ∧ ok__law_draws ((sh__law_cell (script) (turn))) ((30 : Int)) ∧ (letv ((sh__law_draws ((sh__law_cell (script) (turn))) ((30 : Int))) : (List Int)) fun draws =>
gOk draws (0 : Int) ∧ (letv (((1 : Int) + ((gi draws (0 : Int)) % (3 : Int))) : Int) fun n =>
gOk draws (1 : Int) ∧ ok__law_circuit ((cut draws (some (4 : Int)) none)) (n) (((1 : Int) + ((gi draws (1 : Int)) % (4 : Int)))) ∧ (letv ((sh__law_circuit ((cut draws (some (4 : Int)) none)) (n) (((1 : Int) + ((gi draws (1 : Int)) % (4 : Int))))) : (List (Int × Int))) fun circuit =>
(letv ((n + ((circuit).length : Int)) : Int) fun letters =>
ok__law_clauses_due (n) (circuit) ∧ (letv ((sh__law_clauses_due (n) (circuit)) : (List (List Int))) fun clauses =>
ok_clauses_of_circuit (n) (circuit) ∧ pl 8 ((tT (tT tI)) clauses) = true ∧ (if (!(decide ((sh_clauses_of_circuit (n) (circuit)) = clauses))) then
(True)
else
(ok__law_answers (n) ∧ ((sh__law_answers (n))).length ≤ LIM ∧ ((∀ answers ∈ (sh__law_answers (n)), ok__law_run (circuit) (answers))) ∧ (letv (((sh__law_answers (n)).map fun (answers : (List Int)) => (sh__law_run (circuit) (answers))) : (List Tx)) fun runs =>
ok_number_of_cases (letters) (clauses) ∧ (if (!(decide ((sh_number_of_cases (letters) (clauses)) = ((runs).length : Int)))) then
(True)
else
(ok_told_case (letters) (clauses) ∧ gOk runs (0 : Int) ∧ pl 8 ((tO tS) (some (gi runs (0 : Int)))) = true ∧ (if (!(decide ((sh_told_case (letters) (clauses)) = (some (gi runs (0 : Int)))))) then
(True)
else
((runs).length ≤ LIM ∧ ((∀ run ∈ runs, ok_is_met (clauses) (run))) ∧ (if (!(((runs.map fun (run : Tx) => (decide ((sh_is_met (clauses) (run)) = true)))).all id)) then
(True)
else
((clauses).length ≤ LIM ∧ ((∀ clause ∈ clauses, ok_is_clause (clause))) ∧ (if (!(((clauses.map fun (clause : (List Int)) => (decide ((sh_is_clause (clause)) = true)))).all id)) then
(True)
else
(gOk draws (2 : Int) ∧ 0 < ((runs).length : Int) ∧ gOk runs ((gi draws (2 : Int)) % ((runs).length : Int)) ∧ (letv ((gi runs ((gi draws (2 : Int)) % ((runs).length : Int))) : Tx) fun run =>
gOk draws (3 : Int) ∧ 0 < ((circuit).length : Int) ∧ (letv ((n + ((gi draws (3 : Int)) % ((circuit).length : Int))) : Int) fun at_v =>
(run).length ≤ LIM ∧ (((run).length ≤ LIM ∧ gOk run at_v)) ∧ ((cut run none (some at_v))).length + ((if (decide ([gi run at_v] = ([121] : Tx))) then ([110] : Tx) else ([121] : Tx))).length ≤ LIM ∧ (run).length ≤ LIM ∧ (((cut run none (some at_v)) ++ (if (decide ([gi run at_v] = ([121] : Tx))) then ([110] : Tx) else ([121] : Tx)))).length + ((cut run (some (at_v + (1 : Int))) none)).length ≤ LIM ∧ (letv ((((cut run none (some at_v)) ++ (if (decide ([gi run at_v] = ([121] : Tx))) then ([110] : Tx) else ([121] : Tx))) ++ (cut run (some (at_v + (1 : Int))) none)) : Tx) fun turned =>
ok_is_met (clauses) (turned) ∧ (if (!(decide ((sh_is_met (clauses) (turned)) = false))) then
(True)
else
(okL (sh_law_L2 (letters) (clauses) (runs)) (ok_law_L2 (letters) (clauses) (runs)) [(letters, ([121] : Tx)), (((0 : Int) - letters), ([110] : Tx))] () ∧ (goP (forL (sh_law_L2 (letters) (clauses) (runs)) [(letters, ([121] : Tx)), (((0 : Int) - letters), ([110] : Tx))] ()) fun j115_ =>
rOk (1 : Int) (n + (1 : Int)) ∧ (letv ((ivs (1 : Int) (n + (1 : Int))) : (List Int)) fun first =>
rOk (0 : Int) letters ∧ okL (sh_law_L3 (draws) (n) (circuit) (letters) (clauses) (runs) (first)) (ok_law_L3 (draws) (n) (circuit) (letters) (clauses) (runs) (first)) (ivs (0 : Int) letters) ())))))))))))))))))))))))
def sh_law (script : (List Int)) : Bool :=
goL (forL (sh_law_L1 (script)) (ivs (0 : Int) (2 : Int)) ()) (fun b_ => b_) fun j280_ =>
true
def ok_law (script : (List Int)) : Prop :=
okL (sh_law_L1 (script)) (ok_law_L1 (script)) (ivs (0 : Int) (2 : Int)) ()
end LawX

set_option maxHeartbeats 4000000
noncomputable section
namespace LawX
open PySem Ce Cs Pu Sh Pv
theorem o__law_cell {ns : List Int} {k : Int} (h0 : 0 ≤ k) : ok__law_cell ns k := by
  unfold ok__law_cell
  split
  · rename_i h
    exact ⟨by omega, by simpa using h⟩
  · trivial
theorem v__law_draws (z : Int) {c : Int} (h0 : 0 ≤ c) : ((sh__law_draws z c).length : Int) = c ∧ Pu.Drawn (sh__law_draws z c) := by
  have h := foldl_at (step := sh__law_draws_L1 (decide ((10 : Int) ^ 18 ≤ (z.natAbs : Int))) (z.natAbs : Int)) (xs := ivs 0 c) (s := ((z.natAbs : Int), [])) (fun p s => s.2.length = p.length ∧ Pu.Drawn s.2) ⟨rfl, by simp [Pu.Drawn]⟩ (by
    rintro p x q s e ⟨h1, h2⟩
    unfold sh__law_draws_L1
    simp only [letv]
    split
    · exact ⟨by simp [h1], drawn_add h2⟩
    · exact ⟨by simp [h1], drawn_add h2⟩)
  rw [ivs_length] at h
  have e : sh__law_draws z c = (List.foldl (sh__law_draws_L1 (decide ((10 : Int) ^ 18 ≤ (z.natAbs : Int))) (z.natAbs : Int)) ((z.natAbs : Int), []) (ivs 0 c)).2 := rfl
  rw [e]
  exact ⟨by rw [h.1]; omega, h.2⟩
theorem o__law_draws (z : Int) {c : Int} (h0 : 0 ≤ c) (h1 : c ≤ 1000) : ok__law_draws z c := by
  unfold ok__law_draws
  simp only [letv]
  refine ⟨rOk_of (by omega) (by omega) (by omega) (by omega), ?_⟩
  refine okF_at (fun p s => s.2.length = p.length) rfl ?_
  rintro p x q s e h
  have lp : p.length < 1000 := by
    have := congrArg List.length e
    rw [ivs_length] at this
    simp at this; omega
  refine ⟨?_, ?_⟩
  · unfold ok__law_draws_L1
    split
    · exact lim_lt (by omega)
    · simp only [letv]
      exact ⟨.inl ⟨by omega, by omega⟩, lim_lt (by omega)⟩
  · unfold sh__law_draws_L1
    simp only [letv]
    split <;> simp [h]
theorem v_is_ascending {xs : List Int} : sh_is_ascending xs = true ↔ Asc xs := rising_iff
theorem o_is_ascending {xs : List Int} (h : xs.length ≤ 1000000) : ok_is_ascending xs := by
  refine ⟨rOk_of (by omega) (by omega) (by omega) (by omega), fun i hi => ?_⟩
  obtain ⟨a, b⟩ := mem_ivs.mp hi
  exact ⟨gOk_of a (by omega), gOk_of (by omega) (by omega)⟩
end LawX

set_option maxHeartbeats 4000000
noncomputable section
namespace LawX
open PySem Ce Cs Pu Sh Pv
/-! loops that ask all, that seek, that gather pairs -/
theorem forL_all {α : Type} {step : Unit → α → Ctl Unit Bool} {q : α → Bool} {xs : List α} (h : ∀ x ∈ xs, step () x = if q x = true then .nx () else .rt false) : forL step xs () = if xs.all q = true then .nx () else .rt false := by
  induction xs with
  | nil => rfl
  | cons x xs ih =>
    rw [forL_cons, h x (by simp)]
    cases e : q x with
    | true =>
      simp only [if_true, List.all_cons, e, Bool.true_and]
      exact ih fun y hy => h y (by simp [hy])
    | false => simp [e]
theorem goL_all {α : Type} {step : Unit → α → Ctl Unit Bool} {q : α → Bool} {xs : List α} (h : ∀ x ∈ xs, step () x = if q x = true then .nx () else .rt false) : goL (forL step xs ()) (fun b => b) (fun _ => true) = xs.all q := by
  rw [forL_all h]
  cases xs.all q <;> rfl
def first2 {α β : Type} (xs : List α) (ys : List β) (c : α → β → Bool) : Option (α × β) := xs.findSome? fun x => ys.findSome? fun y => if c x y = true then some (x, y) else none
theorem some_map {α β : Type} (xs : List α) (F : α → Option β) : (xs.findSome? fun x => (F x).map some) = (xs.findSome? F).map some := by
  induction xs with
  | nil => rfl
  | cons x xs ih =>
    rw [List.findSome?_cons, List.findSome?_cons]
    cases F x with
    | none => simpa using ih
    | some b => rfl
theorem seek2 {α β : Type} {xs : List α} {ys : List β} {c : α → β → Bool} {s2 : α → Unit → β → Ctl Unit (Option (α × β))} {s1 : Unit → α → Ctl Unit (Option (α × β))} (h2 : ∀ x y, s2 x () y = if c x y = true then .rt (some (x, y)) else .nx ()) (h1 : ∀ x, s1 () x = goL (forL (s2 x) ys ()) .rt fun _ => .nx ()) :
    goL (forL s1 xs ()) (fun b => b) (fun _ => none) = first2 xs ys c := by
  have k2 : ∀ x, forL (s2 x) ys () = match (ys.findSome? fun y => (if c x y = true then some (x, y) else none).map some) with | some b => .rt b | none => .nx () := fun x => by
    rw [forL_find (p := fun y => (if c x y = true then some (x, y) else none).map some)]
    · generalize List.findSome? _ ys = z
      cases z <;> rfl
    · intro y _
      rw [h2]
      by_cases q : c x y = true <;> simp [q]
  rw [forL_find (p := fun x => (ys.findSome? fun y => if c x y = true then some (x, y) else none).map some), some_map]
  · unfold first2
    cases xs.findSome? fun x => ys.findSome? fun y => if c x y = true then some (x, y) else none <;> rfl
  · intro x _
    rw [h1, k2, some_map]
    cases ys.findSome? fun y => if c x y = true then some (x, y) else none <;> rfl
/-- the pairs -/
def prs {α β : Type} (xs : List α) (ys : List β) (c : α → β → Bool) : List (α × β) := xs.flatMap fun x => (ys.filter (c x)).map fun y => (x, y)
theorem mem_prs {α β : Type} {xs : List α} {ys : List β} {c : α → β → Bool} {p : α × β} : p ∈ prs xs ys c ↔ p.1 ∈ xs ∧ p.2 ∈ ys ∧ c p.1 p.2 = true := by
  unfold prs
  rw [List.mem_flatMap]
  constructor
  · rintro ⟨x, hx, h⟩
    obtain ⟨y, hy, rfl⟩ := List.mem_map.mp h
    exact ⟨hx, (List.mem_filter.mp hy).1, (List.mem_filter.mp hy).2⟩
  · rintro ⟨h1, h2, h3⟩
    exact ⟨p.1, h1, List.mem_map.mpr ⟨p.2, List.mem_filter.mpr ⟨h2, h3⟩, rfl⟩⟩
theorem first_row {α β : Type} (x : α) (ys : List β) (c : β → Bool) : (ys.findSome? fun y => if c y = true then some (x, y) else none) = ((ys.filter c).map fun y => (x, y)).head? := by
  induction ys with
  | nil => rfl
  | cons y ys ih =>
    rw [List.findSome?_cons, List.filter_cons]
    cases e : c y with
    | true => rfl
    | false => simpa [e] using ih
theorem first2_prs {α β : Type} (xs : List α) (ys : List β) (c : α → β → Bool) : first2 xs ys c = (prs xs ys c).head? := by
  unfold first2 prs
  induction xs with
  | nil => rfl
  | cons x xs ih =>
    rw [List.findSome?_cons, List.flatMap_cons, first_row]
    cases e : (ys.filter (c x)).map fun y => (x, y) with
    | nil => simpa using ih
    | cons p ps => rfl
theorem prs_congr {α β : Type} {xs : List α} {ys : List β} {c d : α → β → Bool} (h : ∀ x ∈ xs, ∀ y ∈ ys, c x y = d x y) : prs xs ys c = prs xs ys d := by
  unfold prs
  rw [List.flatMap_def, List.flatMap_def]
  congr 1
  apply List.map_congr_left
  intro x hx
  congr 1
  exact List.filter_congr fun y hy => h x hx y hy
theorem head_if {α : Type} [Inhabited α] (ps : List α) : ps.head? = if decide ((0 : Int) < (ps.length : Int)) = true then some (gi ps 0) else none := by
  cases ps with
  | nil => rfl
  | cons p ps =>
    have : decide ((0 : Int) < ((p :: ps).length : Int)) = true := by rw [decide_eq_true_eq, List.length_cons]; omega
    rw [this]; rfl
/-! cases: texts of n and y -/
def csF : Nat → List Tx
  | 0 => [[]]
  | n + 1 => (csF n).flatMap fun t => [t ++ [110], t ++ [121]]
def NY (t : Tx) : Prop := ∀ c ∈ t, c = 110 ∨ c = 121
theorem mem_csF : ∀ {n : Nat} {t : Tx}, t ∈ csF n ↔ t.length = n ∧ NY t
  | 0, t => by
    unfold csF NY
    rw [List.mem_singleton, List.length_eq_zero_iff]
    constructor
    · rintro rfl; exact ⟨rfl, by simp⟩
    · exact fun h => h.1
  | n + 1, t => by
    unfold csF
    rw [List.mem_flatMap]
    constructor
    · rintro ⟨s, hs, ht⟩
      obtain ⟨h1, h2⟩ := mem_csF.mp hs
      simp only [List.mem_cons, List.not_mem_nil, or_false] at ht
      rcases ht with rfl | rfl
      · exact ⟨by simp [h1], fun c hc => by
          rcases List.mem_append.mp hc with hc | hc
          · exact h2 c hc
          · simp at hc; exact .inl hc⟩
      · exact ⟨by simp [h1], fun c hc => by
          rcases List.mem_append.mp hc with hc | hc
          · exact h2 c hc
          · simp at hc; exact .inr hc⟩
    · rintro ⟨h1, h2⟩
      have hne : t ≠ [] := fun e => by subst e; cases h1
      have e := List.dropLast_concat_getLast hne
      refine ⟨t.dropLast, mem_csF.mpr ⟨by simp [h1], fun c hc => h2 c ((List.dropLast_prefix t).subset hc)⟩, ?_⟩
      rcases h2 _ (List.getLast_mem hne) with h | h
      · rw [h] at e; rw [← e]; simp
      · rw [h] at e; rw [← e]; simp
theorem csF_length : ∀ n : Nat, (csF n).length = 2 ^ n
  | 0 => rfl
  | n + 1 => by
    have : ∀ xs : List Tx, (xs.flatMap fun t => [t ++ [110], t ++ [121]]).length = 2 * xs.length := by
      intro xs
      induction xs with
      | nil => rfl
      | cons x xs ih => rw [List.flatMap_cons, List.length_append, ih]; simp; omega
    unfold csF
    rw [this, csF_length n, Nat.pow_succ]; omega
theorem csF_len {n : Nat} (h : n ≤ 7) : (csF n).length ≤ 128 := by
  rw [csF_length]
  exact Nat.le_trans (Nat.pow_le_pow_right (by omega) h) (by decide)
theorem ivs_len' (n : Nat) : (ivs 0 (n : Int)).length = n := by rw [ivs_length]; omega
theorem sgs_ny : sgs ([110, 121] : Tx) = [[110], [121]] := rfl
theorem fit_step (s : List Tx) (x : Int) : sh_fitting_cases_L1 s x = s.flatMap fun t => [t ++ [110], t ++ [121]] := rfl
theorem fit_texts (n : Nat) : (ivs 0 (n : Int)).foldl sh_fitting_cases_L1 [[]] = csF n := by
  have h := foldl_at (step := sh_fitting_cases_L1) (xs := ivs 0 (n : Int)) (s := [([] : Tx)]) (fun p s => s = csF p.length) rfl (by
    rintro p x q s e rfl
    rw [fit_step, List.length_append]; rfl)
  rw [ivs_len'] at h
  exact h
/-- the conditions of cases -/
theorem okcases {n : Nat} (h : n ≤ 7) {step : List Tx → Int → List Tx} {ok : List Tx → Int → Prop} (hs : ∀ s x, step s x = s.flatMap fun t => [t ++ [110], t ++ [121]]) (ho : ∀ s : List Tx, s.length ≤ 128 → (∀ t ∈ s, t.length ≤ 7) → ∀ x, ok s x) : okF step ok (ivs 0 (n : Int)) [[]] := by
  refine okF_at (fun p s => s = csF p.length) rfl ?_
  rintro p x q s e rfl
  have lp := congrArg List.length e
  rw [ivs_len'] at lp
  simp at lp
  refine ⟨ho _ (csF_len (by omega)) (fun t ht => by have := (mem_csF.mp ht).1; omega) x, ?_⟩
  rw [hs, List.length_append]; rfl
/-! clauses -/
/-- all letters are there -/
def Cl (n : Nat) (cl : List (List Int)) : Prop := ∀ c ∈ cl, ∀ z ∈ c, 1 ≤ z.natAbs ∧ z.natAbs ≤ n
def fit1 (z : Int) (t : Tx) : Bool := decide (gi t ((z.natAbs : Int) - 1) = if 0 < z then 121 else 110)
def fits (cl : List (List Int)) (t : Tx) : Bool := cl.all fun c => c.any fun z => fit1 z t
theorem one_if (z : Int) (t : Tx) : decide ([gi t ((z.natAbs : Int) - 1)] = (if decide ((0 : Int) < z) = true then ([121] : Tx) else [110])) = fit1 z t := by
  unfold fit1
  by_cases h : 0 < z <;> simp [h]
theorem v_fit1 (z : Int) (t : Tx) : sh_fits_number z t = fit1 z t := one_if z t
theorem v_fits (cl : List (List Int)) (t : Tx) : sh_fits_all cl t = fits cl t := by
  unfold sh_fits_all fits
  simp only [v_fit1]
theorem o_fit1 {n : Nat} (hn : n ≤ 7) {t : Tx} (ht : t.length = n) {z : Int} (hz : 1 ≤ z.natAbs ∧ z.natAbs ≤ n) : t.length ≤ LIM ∧ gOk t ((z.natAbs : Int) - 1) := ⟨lim_ok (by omega), gOk_of (by omega) (by omega)⟩
theorem o_fits {n : Nat} (hn : n ≤ 7) {cl : List (List Int)} (h : Cl n cl) {t : Tx} (ht : t.length = n) : ok_fits_all cl t := fun c hc z hz => o_fit1 hn ht (h c hc z hz)
/-- the cases that fit -/
def fcs (n : Nat) (cl : List (List Int)) : List Tx := (csF n).filter (fits cl)
theorem v_fcs (n : Nat) (cl : List (List Int)) : sh_fitting_cases n cl = fcs n cl := by
  unfold sh_fitting_cases fcs
  simp only [letv, v_fits, fit_texts]
theorem mem_fcs {n : Nat} {cl : List (List Int)} {t : Tx} : t ∈ fcs n cl ↔ (t.length = n ∧ NY t) ∧ fits cl t = true := by
  unfold fcs
  rw [List.mem_filter, mem_csF]
theorem fcs_len {n : Nat} (h : n ≤ 7) (cl : List (List Int)) : (fcs n cl).length ≤ 128 := filter_len (csF_len h)
theorem o_fcs {n : Nat} (hn : n ≤ 7) {cl : List (List Int)} (h : Cl n cl) : ok_fitting_cases n cl := by
  unfold ok_fitting_cases
  simp only [letv, fit_texts]
  refine ⟨rOk_of (by omega) (by omega) (by omega) (by omega), okcases hn fit_step fun s hs ht x => ⟨fun t h1 g h2 => ?_, ?_⟩, lim_ok (by have := csF_len hn; omega), fun t ht => o_fits hn h (mem_csF.mp ht).1⟩
  · rw [sgs_ny] at h2
    have := ht t h1
    simp only [List.mem_cons, List.not_mem_nil, or_false] at h2
    rcases h2 with rfl | rfl <;> exact lim_ok (by simp; omega)
  · rw [sgs_ny]
    have : ∀ xs : List Tx, (xs.flatMap fun t => [[110], [121]].map fun g : Tx => t ++ g).length = 2 * xs.length := by
      intro xs
      induction xs with
      | nil => rfl
      | cons x xs ih => rw [List.flatMap_cons, List.length_append, ih]; simp; omega
    rw [this]
    exact lim_ok (by omega)
theorem fits_mem {a b : List (List Int)} (h : ∀ c, c ∈ a ↔ c ∈ b) (t : Tx) : fits a t = fits b t := by
  unfold fits
  rw [Bool.eq_iff_iff, List.all_eq_true, List.all_eq_true]
  exact ⟨fun k c hc => k c ((h c).mpr hc), fun k c hc => k c ((h c).mp hc)⟩
theorem fits_app (a b : List (List Int)) (t : Tx) : fits (a ++ b) t = (fits a t && fits b t) := by
  unfold fits; rw [List.all_append]
theorem mem_setT {nss : List (List Int)} {x : List Int} : x ∈ setT nss ↔ x ∈ nss := by
  unfold setT
  rw [List.mem_mergeSort, mem_nub]
theorem setT_len (nss : List (List Int)) : (setT nss).length ≤ nss.length := by
  unfold setT
  rw [List.length_mergeSort]
  exact nub_len nss
theorem Cl.setT {n : Nat} {cl : List (List Int)} (h : Cl n cl) : Cl n (setT cl) := fun c hc => h c (mem_setT.mp hc)
/-! drawn clauses -/
/-! places -/
def Wd (n : Nat) (ws : List Int) : Prop := ws.length ≤ 8 ∧ ∀ w ∈ ws, 1 ≤ w ∧ w ≤ (n : Int)
def sgn (ws : List Int) (t : Tx) : Tx := ws.map fun w => gi t (w - 1)
def plB (s : Int) (bs : List Bool) : Int := bs.foldl (fun s b => 2 * s + if b = true then 1 else 0) s
def plF (ws : List Int) (t : Tx) : Int := plB 0 (ws.map fun w => decide (gi t (w - 1) = 121))
theorem plB_inj : ∀ (a b : List Bool) (s r : Int), a.length = b.length → plB s a = plB r b → s = r ∧ a = b
  | [], [], s, r, _, h => ⟨h, rfl⟩
  | [], _ :: _, _, _, h, _ => by cases h
  | _ :: _, [], _, _, h, _ => by cases h
  | x :: a, y :: b, s, r, hl, h => by
    obtain ⟨h1, h2⟩ := plB_inj a b (2 * s + if x = true then 1 else 0) (2 * r + if y = true then 1 else 0) (by simpa using hl) h
    cases x <;> cases y <;> simp at h1 <;> first | (exfalso; omega) | (refine ⟨by omega, by rw [h2]⟩)
theorem plB_bd : ∀ (a : List Bool) (s : Int), 0 ≤ s → 0 ≤ plB s a ∧ plB s a < (s + 1) * 2 ^ a.length
  | [], s, h => ⟨h, by show s < _; simp; omega⟩
  | x :: a, s, h => by
    obtain ⟨h1, h2⟩ := plB_bd a (2 * s + if x = true then 1 else 0) (by split <;> omega)
    refine ⟨h1, Int.lt_of_lt_of_le h2 ?_⟩
    rw [List.length_cons, Int.pow_succ, Int.mul_comm (2 ^ a.length : Int) 2, ← Int.mul_assoc]
    exact Int.mul_le_mul_of_nonneg_right (by split <;> omega) (Int.le_of_lt (Int.pow_pos (by omega)))
theorem plF_bd (ws : List Int) (t : Tx) : 0 ≤ plF ws t ∧ plF ws t < 2 ^ ws.length := by
  have h := plB_bd (ws.map fun w => decide (gi t (w - 1) = 121)) 0 (by omega)
  rw [List.length_map, Int.zero_add, Int.one_mul] at h
  exact h
theorem pl_sgn {n : Nat} {ws : List Int} (hw : Wd n ws) {a b : Tx} (ha : a.length = n ∧ NY a) (hb : b.length = n ∧ NY b) : plF ws a = plF ws b ↔ sgn ws a = sgn ws b := by
  unfold plF sgn
  constructor
  · intro h
    have h2 := (plB_inj _ _ 0 0 (by simp) h).2
    rw [List.map_inj_left] at h2 ⊢
    intro w hm
    obtain ⟨w0, w1⟩ := hw.2 w hm
    have e := h2 w hm
    have ea := ha.2 _ (gi_mem (xs := a) (i := w - 1) (by omega) (by omega))
    have eb := hb.2 _ (gi_mem (xs := b) (i := w - 1) (by omega) (by omega))
    rcases ea with ea | ea <;> rcases eb with eb | eb <;> rw [ea, eb] at e ⊢ <;> simp at e
  · intro h
    rw [List.map_inj_left] at h
    congr 1
    rw [List.map_inj_left]
    intro w hm
    rw [h w hm]
theorem joinS_one (cs : List Ch) : joinS [] (cs.map fun c => [c]) = cs := by
  induction cs with
  | nil => rfl
  | cons c cs ih =>
    cases cs with
    | nil => rfl
    | cons d cs =>
      rw [List.map_cons, List.map_cons, joinS]
      rw [List.map_cons] at ih
      rw [ih]; rfl
theorem joinOk_one {cs : List Ch} (h : cs.length ≤ 1000) : joinOk [] (cs.map fun c => ([c] : Tx)) := by
  have sum_one : ∀ cs : List Ch, ((cs.map fun c => ([c] : Tx)).map (·.length)).sum = cs.length := by
    intro cs
    induction cs with
    | nil => rfl
    | cons c cs ih => rw [List.map_cons, List.map_cons, List.sum_cons, ih]; simp; omega
  unfold joinOk
  rw [sum_one]
  simp; omega
theorem sgn_one (ws : List Int) (t : Tx) : (ws.map fun w => ([gi t (w - 1)] : Tx)) = (sgn ws t).map fun c => [c] := by
  unfold sgn; rw [List.map_map]; rfl
theorem v_sgn (ws : List Int) (t : Tx) : sh_signs_at ws t = sgn ws t := by
  unfold sh_signs_at
  rw [sgn_one, joinS_one]
theorem v_place (ws : List Int) (t : Tx) : sh_place_of_signs (sgn ws t) = plF ws t := by
  unfold sh_place_of_signs plF plB sgn sgs
  simp only [letv]
  rw [List.foldl_map, List.foldl_map, List.foldl_map]
  congr 1
  funext s w
  unfold sh_place_of_signs_L1
  simp [letv]
theorem o_sgn {n : Nat} (hn : n ≤ 7) {ws : List Int} (hw : Wd n ws) {t : Tx} (ht : t.length = n) : ok_signs_at ws t := by
  refine ⟨lim_ok (by have := hw.1; omega), fun w hm => ⟨lim_ok (by omega), gOk_of (by have := hw.2 w hm; omega) (by have := hw.2 w hm; omega)⟩, ?_⟩
  rw [sgn_one]
  exact joinOk_one (by unfold sgn; rw [List.length_map]; have := hw.1; omega)
/-! junctions -/
theorem v_junction (n : Nat) (f g : List (List Int)) (ws : List Int) : sh_told_junction n f g ws = first2 (fcs n f) (fcs n g) fun a b => decide (sgn ws a = sgn ws b) := by
  unfold sh_told_junction
  rw [v_fcs]
  exact seek2 (s2 := sh_told_junction_L2 ws) (fun x y => by
    unfold sh_told_junction_L2
    rw [v_sgn, v_sgn]) fun x => by
    unfold sh_told_junction_L1
    rw [v_fcs]
theorem o_junction {n : Nat} (hn : n ≤ 7) {f g : List (List Int)} (hf : Cl n f) (hg : Cl n g) {ws : List Int} (hw : Wd n ws) : ok_told_junction n f g ws := by
  refine ⟨o_fcs hn hf, ?_⟩
  rw [v_fcs]
  refine okL_unit fun x hx => ⟨o_fcs hn hg, ?_⟩
  rw [v_fcs]
  exact okL_unit fun y hy => ⟨o_sgn hn hw (mem_fcs.mp hx).1.1, o_sgn hn hw (mem_fcs.mp hy).1.1⟩
/-! texts of bits -/
def bitT (m : Nat) (S : List Int) : Tx := (ivs 0 ((2 ^ m : Nat) : Int)).map fun k => if k ∈ S then 49 else 48
theorem bit_one (m : Nat) (S : List Int) : ((ivs 0 ((2 ^ m : Nat) : Int)).map fun k => if decide (k ∈ S) = true then ([49] : Tx) else [48]) = (bitT m S).map fun c => [c] := by
  unfold bitT
  rw [List.map_map]
  apply List.map_congr_left
  intro k _
  by_cases h : k ∈ S <;> simp [h]
theorem bitT_len (m : Nat) (S : List Int) : (bitT m S).length = 2 ^ m := by
  unfold bitT; rw [List.length_map, ivs_len']
theorem pow_cast (m : Nat) : (1 : Int) * 2 ^ ((m : Int)).toNat = ((2 ^ m : Nat) : Int) := by simp
theorem pow_le {m : Nat} (h : m ≤ 8) : 2 ^ m ≤ 256 := Nat.le_trans (Nat.pow_le_pow_right (by omega) h) (by decide)
theorem v_goB (n : Nat) (f g : List (List Int)) (ws : List Int) : sh_told_go_between n f g ws = if (first2 (fcs n f) (fcs n g) fun a b => decide (sgn ws a = sgn ws b)).isSome = true then none else some (bitT ws.length ((fcs n f).map fun t => plF ws t)) := by
  unfold sh_told_go_between
  simp only [letv]
  rw [v_junction, v_fcs, pow_cast]
  have : ((fcs n f).map fun t => sh_place_of_signs (sh_signs_at ws t)) = (fcs n f).map fun t => plF ws t := by simp only [v_sgn, v_place]
  rw [this, bit_one, joinS_one]
theorem o_goB {n : Nat} (hn : n ≤ 7) {f g : List (List Int)} (hf : Cl n f) (hg : Cl n g) {ws : List Int} (hw : Wd n ws) : ok_told_go_between n f g ws := by
  refine ⟨o_junction hn hf hg hw, ?_⟩
  split
  · trivial
  · simp only [letv]
    rw [v_fcs, pow_cast, bit_one]
    have := pow_le hw.1
    exact ⟨o_fcs hn hf, lim_ok (by have := fcs_len hn f; omega), fun t ht => o_sgn hn hw (mem_fcs.mp ht).1.1, ⟨by omega, by have := hw.1; omega, by decide⟩, rOk_of (by omega) (by omega) (by generalize 2 ^ ws.length = N at this ⊢; omega) (by generalize 2 ^ ws.length = N at this ⊢; omega), joinOk_one (by rw [bitT_len]; omega)⟩
/-- is text a text of bits of the size -/
def Bits (m : Nat) (t : Tx) : Bool := decide (t.length = 2 ^ m) && t.all fun c => decide (c = 48) || decide (c = 49)
theorem v_bits (m : Nat) (t : Tx) : sh_is_bits m t = Bits m t := by
  unfold sh_is_bits Bits sgs
  rw [pow_cast, List.all_map]
  congr 1
  · rw [Bool.eq_iff_iff, decide_eq_true_eq, decide_eq_true_eq]; omega
  · congr 1
    funext c
    simp
theorem v_goes (n : Nat) (f g : List (List Int)) (ws : List Int) (t : Tx) : sh_is_go_between n f g ws t = (Bits ws.length t && (((fcs n f).all fun a => decide (gi t (plF ws a) = 49)) && (fcs n g).all fun a => decide (gi t (plF ws a) = 48))) := by
  unfold sh_is_go_between
  rw [v_bits]
  cases Bits ws.length t with
  | false => rfl
  | true =>
    simp only [Bool.not_true, Bool.false_eq_true, if_false, Bool.true_and]
    have inner : ∀ (cl : List (List Int)) (c : Ch), forL (sh_is_go_between_L2 ws t [c]) (sh_fitting_cases n cl) () = if ((fcs n cl).all fun a => decide (gi t (plF ws a) = c)) = true then .nx () else .rt false := fun cl c => by
      rw [v_fcs]
      exact forL_all fun a _ => by
        unfold sh_is_go_between_L2
        rw [v_sgn, v_place]
        by_cases h : gi t (plF ws a) = c <;> simp [h]
    rw [goL_all (q := fun p : List (List Int) × Tx => (fcs n p.1).all fun a => decide ([gi t (plF ws a)] = p.2))]
    · simp
    · intro p hp
      unfold sh_is_go_between_L1
      simp only [List.mem_cons, List.not_mem_nil, or_false] at hp
      rcases hp with rfl | rfl
      · dsimp only
        rw [inner]
        simp only [List.cons.injEq, and_true]
        cases (fcs n f).all fun a => decide (gi t (plF ws a) = 49) <;> rfl
      · dsimp only
        rw [inner]
        simp only [List.cons.injEq, and_true]
        cases (fcs n g).all fun a => decide (gi t (plF ws a) = 48) <;> rfl
theorem bits_len {m : Nat} {t : Tx} (h : Bits m t = true) : t.length = 2 ^ m := by
  unfold Bits at h
  rw [Bool.and_eq_true, decide_eq_true_eq] at h
  exact h.1
theorem pl_ok {ws : List Int} {t : Tx} (h : t.length = 2 ^ ws.length) (hw : ws.length ≤ 8) (a : Tx) : t.length ≤ LIM ∧ gOk t (plF ws a) := by
  obtain ⟨h1, h2⟩ := plF_bd ws a
  have := pow_le hw
  have e : ((2 ^ ws.length : Nat) : Int) = 2 ^ ws.length := by simp
  exact ⟨lim_ok (by omega), gOk_of h1 (by omega)⟩
theorem o_goes {n : Nat} (hn : n ≤ 7) {f g : List (List Int)} (hf : Cl n f) (hg : Cl n g) {ws : List Int} (hw : Wd n ws) {t : Tx} (ht : t.length ≤ 1000) : ok_is_go_between n f g ws t := by
  refine ⟨⟨lim_ok (by omega), by omega, by have := hw.1; omega, by decide⟩, ?_⟩
  rw [v_bits]
  cases hb : Bits ws.length t with
  | false => exact trivial
  | true =>
    have hl := bits_len hb
    simp only [Bool.not_true, Bool.false_eq_true, if_false]
    refine okL_unit fun p hp => ?_
    have hc : Cl n p.1 := by
      simp only [List.mem_cons, List.not_mem_nil, or_false] at hp
      rcases hp with rfl | rfl
      · exact hf
      · exact hg
    refine ⟨o_fcs hn hc, ?_⟩
    rw [v_fcs]
    refine okL_unit fun a ha => ⟨o_sgn hn hw (mem_fcs.mp ha).1.1, ?_⟩
    rw [v_sgn, v_place]
    exact pl_ok hl hw.1 a
/-! bent texts -/
theorem ite_ok {c : Prop} [Decidable c] {A : Prop} (h : A) : if c then True else A := by
  split
  · trivial
  · exact h

end LawX

set_option maxHeartbeats 4000000
noncomputable section
namespace LawX
open PySem Ce Cs Pu Sh Pv
/-! circuits -/
inductive Cir (n : Nat) : List (Int × Int) → Prop
  | nil : Cir n []
  | snoc {C : List (Int × Int)} {p : Int × Int} : Cir n C → 0 ≤ p.1 → p.1 ≤ p.2 → p.2 < ((n + C.length : Nat) : Int) → Cir n (C ++ [p])
theorem enm_snoc {α : Type} (xs : List α) (x : α) : enm (xs ++ [x]) = enm xs ++ [((xs.length : Int), x)] := by
  simp [enm, List.mapIdx_append]
theorem cir_mem {n : Nat} {C : List (Int × Int)} (h : Cir n C) : ∀ q ∈ enm C, 0 ≤ q.1 ∧ q.1 < C.length ∧ 0 ≤ q.2.1 ∧ q.2.1 ≤ q.2.2 ∧ q.2.2 < (n : Int) + q.1 := by
  induction h with
  | nil => intro q hq; simp [enm] at hq
  | @snoc C p hC h1 h2 h3 ih =>
    intro q hq
    rw [enm_snoc] at hq
    rcases List.mem_append.mp hq with hq | hq
    · have := ih q hq
      rw [List.length_append]
      simp only [List.length_cons, List.length_nil]
      omega
    · rw [List.mem_singleton] at hq
      subst hq
      rw [List.length_append]
      simp only [List.length_cons, List.length_nil]
      omega
/-! answers -/
def ansF : Nat → List (List Int)
  | 0 => [[]]
  | n + 1 => (ansF n).flatMap fun a => [a ++ [0], a ++ [1]]
def B01 (a : List Int) : Prop := ∀ x ∈ a, x = 0 ∨ x = 1
def ny (b : Int) : Ch := gi ([110, 121] : Tx) b
theorem ny0 : ny 0 = 110 := rfl
theorem ny1 : ny 1 = 121 := rfl
def nyT (a : List Int) : Tx := a.map ny
theorem mem_ansF : ∀ {n : Nat} {a : List Int}, a ∈ ansF n → a.length = n ∧ B01 a
  | 0, a, h => by
    unfold ansF at h
    rw [List.mem_singleton] at h
    subst h
    exact ⟨rfl, by unfold B01; simp⟩
  | n + 1, a, h => by
    unfold ansF at h
    obtain ⟨b, hb, h⟩ := List.mem_flatMap.mp h
    obtain ⟨h1, h2⟩ := mem_ansF hb
    simp only [List.mem_cons, List.not_mem_nil, or_false] at h
    rcases h with rfl | rfl
    · exact ⟨by simp [h1], fun x hx => by
        rcases List.mem_append.mp hx with hx | hx
        · exact h2 x hx
        · simp at hx; exact .inl hx⟩
    · exact ⟨by simp [h1], fun x hx => by
        rcases List.mem_append.mp hx with hx | hx
        · exact h2 x hx
        · simp at hx; exact .inr hx⟩
theorem csF_ans : ∀ n : Nat, csF n = (ansF n).map nyT
  | 0 => rfl
  | n + 1 => by
    unfold csF ansF
    rw [csF_ans n, List.flatMap_map, List.map_flatMap]
    congr 1
    funext a
    simp [nyT, ny0, ny1]
theorem ansF_length (n : Nat) : (ansF n).length = 2 ^ n := by
  have := csF_length n
  rw [csF_ans, List.length_map] at this
  exact this
theorem lans_step (s : List (List Int)) (x : Int) : sh__law_answers_L1 s x = s.flatMap fun a => [a ++ [0], a ++ [1]] := by
  unfold sh__law_answers_L1
  simp only [letv]
  rw [foldl_flat (g := fun a : List Int => [a ++ [(0 : Int)], a ++ [1]])]
  · rfl
  · intro a _ s; rfl
theorem v_lans (n : Nat) : sh__law_answers n = ansF n := by
  unfold sh__law_answers
  simp only [letv]
  have h := foldl_at (step := sh__law_answers_L1) (xs := ivs 0 (n : Int)) (s := [([] : List Int)]) (fun p s => s = ansF p.length) rfl (by
    rintro p x q s e rfl
    rw [lans_step, List.length_append]; rfl)
  rw [ivs_len'] at h
  exact h
theorem ans_step (s : List (List Int)) (x : Int) : sh_answers_in_order_L1 s x = s.flatMap fun a => [a ++ [0], a ++ [1]] := rfl
theorem v_ans (n : Nat) : sh_answers_in_order n = ansF n := by
  unfold sh_answers_in_order
  simp only [letv]
  have h := foldl_at (step := sh_answers_in_order_L1) (xs := ivs 0 (n : Int)) (s := [([] : List Int)]) (fun p s => s = ansF p.length) rfl (by
    rintro p x q s e rfl
    rw [ans_step, List.length_append]; rfl)
  rw [ivs_len'] at h
  exact h
theorem ans_len {n : Nat} (h : n ≤ 3) : (ansF n).length ≤ 8 := by
  rw [ansF_length]
  exact Nat.le_trans (Nat.pow_le_pow_right (by omega) h) (by decide)
theorem okans {n : Nat} (h : n ≤ 3) {step : List (List Int) → Int → List (List Int)} {ok : List (List Int) → Int → Prop} (hs : ∀ s x, step s x = s.flatMap fun t => [t ++ [0], t ++ [1]]) (ho : ∀ s : List (List Int), s.length ≤ 8 → (∀ t ∈ s, t.length ≤ 3) → ∀ x, ok s x) : okF step ok (ivs 0 (n : Int)) [[]] := by
  refine okF_at (fun p s => s = ansF p.length) rfl ?_
  rintro p x q s e rfl
  have lp := congrArg List.length e
  rw [ivs_len'] at lp
  simp at lp
  refine ⟨ho _ (ans_len (by omega)) (fun t ht => by have := (mem_ansF ht).1; omega) x, ?_⟩
  rw [hs, List.length_append]; rfl
theorem flat2_len (xs : List (List Int)) : (xs.flatMap fun a => [a ++ [0], a ++ [(1 : Int)]]).length = 2 * xs.length := by
  induction xs with
  | nil => rfl
  | cons x xs ih => rw [List.flatMap_cons, List.length_append, ih]; simp; omega
theorem o_lans {n : Nat} (h : n ≤ 3) : ok__law_answers n := by
  unfold ok__law_answers
  simp only [letv]
  refine ⟨rOk_of (by omega) (by omega) (by omega) (by omega), okans h lans_step fun s hs ht x => ?_⟩
  unfold ok__law_answers_L1
  simp only [letv]
  refine okF_at (fun p (s : List (List Int)) => s.length = 2 * p.length) rfl ?_
  rintro p t q r e hr
  have lp := congrArg List.length e
  simp at lp
  have := ht t (by rw [e]; simp)
  refine ⟨⟨lim_ok (by simp; omega), lim_ok (by simp; omega), lim_ok (by simp; omega)⟩, ?_⟩
  unfold sh__law_answers_L2
  simp only [letv]
  simp [hr]; omega
theorem o_ans {n : Nat} (h : n ≤ 3) : ok_answers_in_order n := by
  unfold ok_answers_in_order
  simp only [letv]
  refine ⟨rOk_of (by omega) (by omega) (by omega) (by omega), okans h ans_step fun s hs ht x => ⟨fun t h1 g h2 => ?_, ?_⟩⟩
  · have := ht t h1
    exact lim_ok (by simp; omega)
  · have := flat2_len s
    have e : (s.flatMap fun answers : List Int => [(0 : Int), 1].map fun bit => answers ++ [bit]).length = 2 * s.length := this
    rw [e]
    exact lim_ok (by omega)
/-! runs -/
def gv (t : Tx) (p : Int × Int) : Ch := if gi t p.1 = 121 ∧ gi t p.2 = 121 then 110 else 121
def ext (C : List (Int × Int)) (t : Tx) : Tx := C.foldl (fun t p => t ++ [gv t p]) t
def lb (C : List (Int × Int)) (a : List Int) : List Int := C.foldl (fun s p => s ++ [if (decide (gi s p.1 = 1) && decide (gi s p.2 = 1)) = true then (0 : Int) else 1]) a
theorem ext_snoc (C : List (Int × Int)) (p : Int × Int) (t : Tx) : ext (C ++ [p]) t = ext C t ++ [gv (ext C t) p] := by unfold ext; rw [List.foldl_append]; rfl
theorem lb_snoc (C : List (Int × Int)) (p : Int × Int) (a : List Int) : lb (C ++ [p]) a = lb C a ++ [if (decide (gi (lb C a) p.1 = 1) && decide (gi (lb C a) p.2 = 1)) = true then (0 : Int) else 1] := by unfold lb; rw [List.foldl_append]; rfl
theorem gv_ny (t : Tx) (p : Int × Int) : gv t p = 110 ∨ gv t p = 121 := by
  unfold gv
  split
  · exact .inl rfl
  · exact .inr rfl
theorem ext_facts {n : Nat} {C : List (Int × Int)} (h : Cir n C) {t : Tx} (h1 : t.length = n) (h2 : NY t) : (ext C t).length = n + C.length ∧ NY (ext C t) ∧ (ext C t).take n = t := by
  induction h with
  | nil => exact ⟨by simpa [ext] using h1, h2, by show t.take n = t; rw [← h1, List.take_length]⟩
  | @snoc C p hC a b c ih =>
    obtain ⟨i1, i2, i3⟩ := ih
    rw [ext_snoc]
    refine ⟨by simp [i1]; omega, fun x hx => ?_, by rw [List.take_append_of_le_length (by omega)]; exact i3⟩
    rcases List.mem_append.mp hx with hx | hx
    · exact i2 x hx
    · rw [List.mem_singleton] at hx
      subst hx
      exact gv_ny _ _
theorem gi_map {α β : Type} [Inhabited α] [Inhabited β] {f : α → β} {xs : List α} {i : Int} (h0 : 0 ≤ i) (h1 : i < xs.length) : gi (xs.map f) i = f (gi xs i) := by
  obtain ⟨j, rfl⟩ : ∃ j : Nat, i = j := ⟨i.toNat, by omega⟩
  rw [gi_at (by rw [List.length_map]; omega), gi_at (by omega), List.getElem_map]
theorem ny_eq {x : Int} (h : x = 0 ∨ x = 1) : ny x = 121 ↔ x = 1 := by
  rcases h with rfl | rfl
  · rw [ny0]; decide
  · rw [ny1]; decide
theorem lb_facts {n : Nat} {C : List (Int × Int)} (h : Cir n C) {a : List Int} (h1 : a.length = n) (h2 : B01 a) : (lb C a).length = n + C.length ∧ B01 (lb C a) ∧ nyT (lb C a) = ext C (nyT a) ∧ sh_run_wires C a = lb C a := by
  induction h with
  | nil => exact ⟨by simpa [lb] using h1, h2, rfl, rfl⟩
  | @snoc C p hC x y z ih =>
    obtain ⟨i1, i2, i3, i4⟩ := ih
    rw [lb_snoc]
    have m1 := i2 _ (gi_mem (xs := lb C a) (i := p.1) x (by omega))
    have m2 := i2 _ (gi_mem (xs := lb C a) (i := p.2) (by omega) (by omega))
    have g1 : gi (nyT (lb C a)) p.1 = ny (gi (lb C a) p.1) := gi_map x (by omega)
    have g2 : gi (nyT (lb C a)) p.2 = ny (gi (lb C a) p.2) := gi_map (by omega) (by omega)
    refine ⟨by simp [i1]; omega, fun w hw => ?_, ?_, ?_⟩
    · rcases List.mem_append.mp hw with hw | hw
      · exact i2 w hw
      · rw [List.mem_singleton] at hw
        subst hw
        split
        · exact .inl rfl
        · exact .inr rfl
    · rw [ext_snoc, ← i3]
      unfold nyT at g1 g2 ⊢
      rw [List.map_append]
      congr 1
      simp only [List.map_cons, List.map_nil, List.cons.injEq, and_true]
      unfold gv
      simp only [g1, g2]
      rcases m1 with m1 | m1 <;> rcases m2 with m2 | m2 <;> simp only [m1, m2] <;> decide
    · unfold sh_run_wires at i4 ⊢
      simp only [letv] at i4 ⊢
      rw [List.foldl_append, i4]
      show lb C a ++ [1 - gi (lb C a) p.1 * gi (lb C a) p.2] = _
      rcases m1 with m1 | m1 <;> rcases m2 with m2 | m2 <;> rw [m1, m2] <;> rfl
theorem v_lbits (C : List (Int × Int)) (a : List Int) : sh__law_bits C a = lb C a := rfl
theorem v_lrun {n : Nat} {C : List (Int × Int)} (h : Cir n C) {a : List Int} (h1 : a.length = n) (h2 : B01 a) : sh__law_run C a = ext C (nyT a) := by
  unfold sh__law_run
  rw [v_lbits]
  have : ((lb C a).map fun bit => ([gi ([110, 121] : Tx) bit] : Tx)) = (nyT (lb C a)).map fun c => [c] := by
    unfold nyT
    rw [List.map_map]; rfl
  rw [this, joinS_one, (lb_facts h h1 h2).2.2.1]
def runsF (n : Nat) (C : List (Int × Int)) : List Tx := (csF n).map (ext C)
theorem v_runs {n : Nat} {C : List (Int × Int)} (h : Cir n C) : ((sh__law_answers n).map fun a => sh__law_run C a) = runsF n C := by
  unfold runsF
  rw [v_lans, csF_ans, List.map_map]
  apply List.map_congr_left
  intro a ha
  exact v_lrun h (mem_ansF ha).1 (mem_ansF ha).2
/-! the clauses of a circuit -/
def gcs (n : Nat) (q : Int × (Int × Int)) : List (List Int) := [[q.2.1 + 1, (n : Int) + q.1 + 1], [q.2.2 + 1, (n : Int) + q.1 + 1], if q.2.1 = q.2.2 then [0 - ((n : Int) + q.1 + 1), 0 - q.2.1 - 1] else [0 - ((n : Int) + q.1 + 1), 0 - q.2.2 - 1, 0 - q.2.1 - 1]]
def CL (n : Nat) (C : List (Int × Int)) : List (List Int) := (enm C).flatMap (gcs n)
theorem CL_snoc (n : Nat) (C : List (Int × Int)) (p : Int × Int) : CL n (C ++ [p]) = CL n C ++ gcs n ((C.length : Int), p) := by
  unfold CL
  rw [enm_snoc, List.flatMap_append]
  simp
theorem v_due (n : Nat) (C : List (Int × Int)) : sh__law_clauses_due n C = setT (CL n C) := by
  unfold sh__law_clauses_due CL
  simp only [letv]
  rw [foldl_flat (g := gcs n)]
  · rfl
  · intro q _ s
    unfold sh__law_clauses_due_L1 gcs
    simp only [letv]
    by_cases h : q.2.1 = q.2.2 <;> simp [h]
theorem third {i j l : Int} (h0 : 0 ≤ i) (h1 : i ≤ j) (h2 : j + 1 < l) : setI [-(i + 1), -(j + 1), -l] = if i = j then [0 - l, 0 - i - 1] else [0 - l, 0 - j - 1, 0 - i - 1] := by
  refine asc_lt_ext (setI_asc _) ?_ fun z => ?_
  · unfold Asc
    split
    · simp; omega
    · simp; omega
  · rw [mem_setI']
    split
    · simp; omega
    · simp; omega
theorem v_clauses {n : Nat} {C : List (Int × Int)} (h : Cir n C) : sh_clauses_of_circuit n C = setT (CL n C) := by
  unfold sh_clauses_of_circuit CL
  simp only [letv]
  rw [foldl_flat (g := gcs n)]
  · rfl
  · intro q hq s
    obtain ⟨a, b, c, d, e⟩ := cir_mem h q hq
    unfold sh_clauses_of_circuit_L1 gcs
    simp only [letv]
    rw [third c d (by omega)]
    simp
theorem CL_len (n : Nat) (C : List (Int × Int)) : (CL n C).length = 3 * C.length := by
  unfold CL
  have : ∀ xs : List (Int × (Int × Int)), (xs.flatMap (gcs n)).length = 3 * xs.length := by
    intro xs
    induction xs with
    | nil => rfl
    | cons x xs ih => rw [List.flatMap_cons, List.length_append, ih]; simp [gcs]; omega
  rw [this]
  simp [enm]
theorem CL_mem {n : Nat} {C : List (Int × Int)} (h : Cir n C) {c : List Int} (hc : c ∈ CL n C) : ∃ i j l : Int, 0 ≤ i ∧ i ≤ j ∧ j + 1 < l ∧ l ≤ ((n + C.length : Nat) : Int) ∧ (c = [i + 1, l] ∨ c = [j + 1, l] ∨ c = (if i = j then [0 - l, 0 - i - 1] else [0 - l, 0 - j - 1, 0 - i - 1])) := by
  unfold CL at hc
  obtain ⟨q, hq, hc⟩ := List.mem_flatMap.mp hc
  obtain ⟨a, b, c', d, e⟩ := cir_mem h q hq
  unfold gcs at hc
  simp only [List.mem_cons, List.not_mem_nil, or_false] at hc
  exact ⟨q.2.1, q.2.2, (n : Int) + q.1 + 1, c', d, by omega, by omega, hc⟩
theorem CL_cl {n : Nat} {C : List (Int × Int)} (h : Cir n C) : Cl (n + C.length) (CL n C) := fun c hc z hz => by
  obtain ⟨i, j, l, h0, h1, h2, h3, e⟩ := CL_mem h hc
  have : z = i + 1 ∨ z = j + 1 ∨ z = l ∨ z = 0 - l ∨ z = 0 - i - 1 ∨ z = 0 - j - 1 := by
    rcases e with rfl | rfl | rfl
    · simp at hz; omega
    · simp at hz; omega
    · split at hz <;> simp at hz <;> omega
  omega
theorem fits_app1 {m : Nat} {cl : List (List Int)} (h : Cl m cl) {t : Tx} (ht : t.length = m) (c : Ch) : fits cl (t ++ [c]) = fits cl t := by
  unfold fits
  rw [Bool.eq_iff_iff, List.all_eq_true, List.all_eq_true]
  have key : ∀ x ∈ cl, ∀ z ∈ x, fit1 z (t ++ [c]) = fit1 z t := fun x hx z hz => by
    have := h x hx z hz
    unfold fit1
    have e : gi (t ++ [c]) ((z.natAbs : Int) - 1) = gi t ((z.natAbs : Int) - 1) := by
      obtain ⟨j, hj⟩ : ∃ j : Nat, (z.natAbs : Int) - 1 = j := ⟨((z.natAbs : Int) - 1).toNat, by omega⟩
      rw [hj, gi_at (by simp; omega), gi_at (by omega), List.getElem_append_left (by omega)]
    rw [e]
  constructor
  · intro k x hx
    obtain ⟨z, hz, hv⟩ := List.any_eq_true.mp (k x hx)
    exact List.any_eq_true.mpr ⟨z, hz, by rw [← key x hx z hz]; exact hv⟩
  · intro k x hx
    obtain ⟨z, hz, hv⟩ := List.any_eq_true.mp (k x hx)
    exact List.any_eq_true.mpr ⟨z, hz, by rw [key x hx z hz]; exact hv⟩
theorem gi_app1 {t : Tx} {c : Ch} {i : Int} (h0 : 0 ≤ i) (h1 : i < t.length) : gi (t ++ [c]) i = gi t i := by
  obtain ⟨j, rfl⟩ : ∃ j : Nat, i = j := ⟨i.toNat, by omega⟩
  rw [gi_at (by simp; omega), gi_at (by omega), List.getElem_append_left (by omega)]
theorem gi_last1 (t : Tx) (c : Ch) : gi (t ++ [c]) (t.length : Int) = c := by
  rw [gi_at (by simp)]
  simp
theorem fit_gate {m n : Nat} {p : Int × Int} {t : Tx} (ht : t.length = n + m) (hn : NY t) (h0 : 0 ≤ p.1) (h1 : p.1 ≤ p.2) (h2 : p.2 < ((n + m : Nat) : Int)) {c : Ch} (hc : c = 110 ∨ c = 121) : fits (gcs n ((m : Int), p)) (t ++ [c]) = decide (c = gv t p) := by
  have a1 := hn _ (gi_mem (xs := t) (i := p.1) h0 (by omega))
  have a2 := hn _ (gi_mem (xs := t) (i := p.2) (by omega) (by omega))
  have f1 : fit1 (p.1 + 1) (t ++ [c]) = decide (gi t p.1 = 121) := by
    unfold fit1
    rw [if_pos (by omega), show ((p.1 + 1).natAbs : Int) - 1 = p.1 by omega, gi_app1 h0 (by omega)]
  have f2 : fit1 (p.2 + 1) (t ++ [c]) = decide (gi t p.2 = 121) := by
    unfold fit1
    rw [if_pos (by omega), show ((p.2 + 1).natAbs : Int) - 1 = p.2 by omega, gi_app1 (by omega) (by omega)]
  have f3 : fit1 ((n : Int) + m + 1) (t ++ [c]) = decide (c = 121) := by
    unfold fit1
    rw [if_pos (by omega), show (((n : Int) + m + 1).natAbs : Int) - 1 = (t.length : Int) by omega, gi_last1]
  have f4 : fit1 (0 - ((n : Int) + m + 1)) (t ++ [c]) = decide (c = 110) := by
    unfold fit1
    rw [if_neg (by omega), show ((0 - ((n : Int) + m + 1)).natAbs : Int) - 1 = (t.length : Int) by omega, gi_last1]
  have f5 : fit1 (0 - p.1 - 1) (t ++ [c]) = decide (gi t p.1 = 110) := by
    unfold fit1
    rw [if_neg (by omega), show ((0 - p.1 - 1).natAbs : Int) - 1 = p.1 by omega, gi_app1 h0 (by omega)]
  have f6 : fit1 (0 - p.2 - 1) (t ++ [c]) = decide (gi t p.2 = 110) := by
    unfold fit1
    rw [if_neg (by omega), show ((0 - p.2 - 1).natAbs : Int) - 1 = p.2 by omega, gi_app1 (by omega) (by omega)]
  unfold gcs fits gv
  dsimp only
  by_cases e : p.1 = p.2
  · rw [if_pos e]
    simp only [List.all_cons, List.all_nil, List.any_cons, List.any_nil, f1, f2, f3, f4, f5, f6, ← e]
    rcases a1 with a1 | a1 <;> rcases hc with rfl | rfl <;> rw [a1] <;> decide
  · rw [if_neg e]
    simp only [List.all_cons, List.all_nil, List.any_cons, List.any_nil, f1, f2, f3, f4, f5, f6]
    rcases a1 with a1 | a1 <;> rcases a2 with a2 | a2 <;> rcases hc with rfl | rfl <;> rw [a1, a2] <;> decide
theorem filter_two {xs : List Tx} {P Q : Tx → Bool} {h : Tx → Ch} (k : ∀ t ∈ xs, (h t = 110 ∨ h t = 121) ∧ P (t ++ [110]) = (Q t && decide (110 = h t)) ∧ P (t ++ [121]) = (Q t && decide (121 = h t))) : (xs.flatMap fun t => [t ++ [110], t ++ [121]]).filter P = (xs.filter Q).map fun t => t ++ [h t] := by
  induction xs with
  | nil => rfl
  | cons x xs ih =>
    obtain ⟨a, b, c⟩ := k x (by simp)
    rw [List.flatMap_cons, List.filter_append, ih fun t ht => k t (by simp [ht])]
    cases q : Q x with
    | false =>
      rw [q] at b c
      simp [b, c, q]
    | true =>
      rw [q] at b c
      rcases a with a | a
      · rw [a] at b c
        have c' : P (x ++ [121]) = false := by rw [c]; decide
        have b' : P (x ++ [110]) = true := by rw [b]; decide
        simp [b', c', a, q]
      · rw [a] at b c
        have c' : P (x ++ [121]) = true := by rw [c]; decide
        have b' : P (x ++ [110]) = false := by rw [b]; decide
        simp [b', c', a, q]
theorem main {n : Nat} {C : List (Int × Int)} (h : Cir n C) : fcs (n + C.length) (CL n C) = runsF n C := by
  induction h with
  | nil =>
    unfold fcs runsF CL
    have : (csF n).map (ext []) = csF n := by
      have : ext [] = id := rfl
      rw [this]; simp
    rw [this]
    simp [enm, fits]
  | @snoc C p hC a b c ih =>
    have e : n + (C ++ [p]).length = (n + C.length) + 1 := by simp; omega
    rw [e, CL_snoc]
    unfold fcs at ih ⊢
    show ((csF (n + C.length)).flatMap fun t => [t ++ [110], t ++ [121]]).filter _ = _
    rw [filter_two (Q := fits (CL n C)) (h := fun t => gv t p)]
    · rw [ih]
      unfold runsF
      rw [List.map_map]
      apply List.map_congr_left
      intro t _
      exact (ext_snoc C p t).symm
    · intro t ht
      obtain ⟨t1, t2⟩ := mem_csF.mp ht
      have cl := CL_cl hC
      refine ⟨gv_ny t p, ?_, ?_⟩
      · rw [fits_app, fits_app1 cl t1, fit_gate t1 t2 a b c (.inl rfl)]
      · rw [fits_app, fits_app1 cl t1, fit_gate t1 t2 a b c (.inr rfl)]
theorem fcs_set (m : Nat) (cl : List (List Int)) : fcs m (setT cl) = fcs m cl := by
  unfold fcs
  apply List.filter_congr
  intro t _
  exact fits_mem (fun c => mem_setT) t
theorem fcs_runs {n : Nat} {C : List (Int × Int)} (h : Cir n C) : fcs (n + C.length) (setT (CL n C)) = runsF n C := by rw [fcs_set, main h]
theorem mem_runs {n : Nat} {C : List (Int × Int)} (h : Cir n C) {t : Tx} : t ∈ runsF n C ↔ ∃ s ∈ csF n, ext C s = t := by
  unfold runsF; rw [List.mem_map]
theorem run_facts {n : Nat} {C : List (Int × Int)} (h : Cir n C) {t : Tx} (ht : t ∈ runsF n C) : t.length = n + C.length ∧ NY t ∧ t.take n ∈ csF n ∧ ext C (t.take n) = t := by
  obtain ⟨s, hs, rfl⟩ := (mem_runs h).mp ht
  obtain ⟨s1, s2⟩ := mem_csF.mp hs
  obtain ⟨a, b, c⟩ := ext_facts h s1 s2
  exact ⟨a, b, by rw [c]; exact hs, by rw [c]⟩
theorem runs_len (n : Nat) (C : List (Int × Int)) : (runsF n C).length = 2 ^ n := by
  unfold runsF; rw [List.length_map, csF_length]
end LawX

set_option maxHeartbeats 4000000
noncomputable section
namespace LawX
open PySem Ce Cs Pu Sh Pv
/-! the clause of one letter -/
theorem fits_with (cl : List (List Int)) (z : Int) (t : Tx) : fits (sh_with_clause cl z) t = (fits cl t && fit1 z t) := by
  unfold sh_with_clause
  rw [fits_mem (fun c => mem_setT) t, fits_app]
  simp [fits]
theorem fcs_with (n : Nat) (cl : List (List Int)) (z : Int) : fcs n (sh_with_clause cl z) = (fcs n cl).filter fun t => fit1 z t := by
  unfold fcs
  rw [List.filter_filter]
  apply List.filter_congr
  intro t _
  rw [fits_with, Bool.and_comm]
theorem cl_with {n : Nat} {cl : List (List Int)} (h : Cl n cl) {z : Int} (hz : 1 ≤ z.natAbs ∧ z.natAbs ≤ n) : Cl n (sh_with_clause cl z) := by
  unfold sh_with_clause
  refine Cl.setT fun c hc => ?_
  rcases List.mem_append.mp hc with hc | hc
  · exact h c hc
  · rw [List.mem_singleton] at hc
    subst hc
    intro y hy
    rw [List.mem_singleton] at hy
    subst hy
    exact hz
theorem o_with {cl : List (List Int)} (h : cl.length ≤ 50) (z : Int) : ok_with_clause cl z := ⟨lim_ok (by simp; omega), by simp; omega⟩
def isC (l : Int) (c : Ch) (t : Tx) : Bool := decide (gi t (l - 1) = c)
theorem fit_pos {l : Int} (h : 1 ≤ l) (t : Tx) : fit1 l t = isC l 121 t := by
  unfold fit1 isC
  rw [if_pos (by omega), show (l.natAbs : Int) = l by omega]
theorem fit_neg {l : Int} (h : 1 ≤ l) (t : Tx) : fit1 (-l) t = isC l 110 t := by
  unfold fit1 isC
  rw [if_neg (by omega), show ((-l).natAbs : Int) = l by omega]
def Ys (n : Nat) (C : List (Int × Int)) (l : Int) : List Tx := (runsF n C).filter (isC l 121)
def Ns (n : Nat) (C : List (Int × Int)) (l : Int) : List Tx := (runsF n C).filter (isC l 110)
theorem fcs_Y {n : Nat} {C : List (Int × Int)} (hC : Cir n C) {l : Int} (h : 1 ≤ l) : fcs (n + C.length) (sh_with_clause (setT (CL n C)) l) = Ys n C l := by
  rw [fcs_with, fcs_runs hC]; unfold Ys
  apply List.filter_congr
  intro t _
  exact fit_pos h t
theorem fcs_N {n : Nat} {C : List (Int × Int)} (hC : Cir n C) {l : Int} (h : 1 ≤ l) : fcs (n + C.length) (sh_with_clause (setT (CL n C)) (-l)) = Ns n C l := by
  rw [fcs_with, fcs_runs hC]; unfold Ns
  apply List.filter_congr
  intro t _
  exact fit_neg h t
/-! the places of the first letters -/
def vT (t : Tx) : Int := plB 0 (t.map fun c => decide (c = 121))
theorem sgn_first {n : Nat} {t : Tx} (h : n ≤ t.length) : sgn (ivs 1 ((n : Int) + 1)) t = t.take n := by
  unfold sgn
  apply List.ext_getElem
  · rw [List.length_map, ivs_length, List.length_take]; omega
  · intro i h1 h2
    rw [List.getElem_map]
    have hi : i < n := by rw [List.length_take] at h2; omega
    have e : (ivs 1 ((n : Int) + 1))[i]'(by rw [ivs_length]; omega) = 1 + (i : Int) := by simp [ivs]
    rw [e, show (1 : Int) + i - 1 = (i : Int) by omega, gi_at (by omega), List.getElem_take]
theorem pl_first {n : Nat} {t : Tx} (h : n ≤ t.length) : plF (ivs 1 ((n : Int) + 1)) t = vT (t.take n) := by
  rw [← sgn_first h]
  unfold plF vT sgn
  rw [List.map_map]
  rfl
theorem vT_snoc (s : Tx) (c : Ch) : vT (s ++ [c]) = 2 * vT s + if c = 121 then 1 else 0 := by
  unfold vT plB
  rw [List.map_append, List.foldl_append]
  simp
theorem ivs_double : ∀ m : Nat, (ivs 0 (m : Int)).flatMap (fun v => [2 * v, 2 * v + 1]) = ivs 0 ((2 * m : Nat) : Int)
  | 0 => rfl
  | m + 1 => by
    rw [show ((m + 1 : Nat) : Int) = (m : Int) + 1 by omega, ivs_succ, List.flatMap_append, ivs_double m, show ((2 * (m + 1) : Nat) : Int) = ((2 * m + 1 : Nat) : Int) + 1 by omega, ivs_succ, show ((2 * m + 1 : Nat) : Int) = ((2 * m : Nat) : Int) + 1 by omega, ivs_succ]
    simp
theorem csF_vT : ∀ n : Nat, (csF n).map vT = ivs 0 ((2 ^ n : Nat) : Int)
  | 0 => rfl
  | n + 1 => by
    unfold csF
    rw [List.map_flatMap]
    have : ((csF n).flatMap fun t => [t ++ [110], t ++ [121]].map vT) = ((csF n).map vT).flatMap fun v => [2 * v, 2 * v + 1] := by
      rw [List.flatMap_map]
      congr 1
      funext t
      simp only [List.map_cons, List.map_nil, vT_snoc]
      simp
    rw [this, csF_vT n, ivs_double, Nat.pow_succ, Nat.mul_comm]
theorem vT_at {n k : Nat} (h : k < (csF n).length) : vT ((csF n)[k]) = k := by
  have e := csF_vT n
  have : ((csF n).map vT)[k]'(by rw [List.length_map]; exact h) = (k : Int) := by
    simp only [e]
    simp [ivs]
  rw [List.getElem_map] at this
  exact this
theorem vT_inj {n : Nat} {s r : Tx} (hs : s ∈ csF n) (hr : r ∈ csF n) (e : vT s = vT r) : s = r := by
  obtain ⟨i, hi, rfl⟩ := List.getElem_of_mem hs
  obtain ⟨j, hj, rfl⟩ := List.getElem_of_mem hr
  rw [vT_at hi, vT_at hj] at e
  have : i = j := by omega
  subst this
  rfl
theorem ext_take {n : Nat} {C : List (Int × Int)} (hC : Cir n C) {s : Tx} (hs : s ∈ csF n) : (ext C s).take n = s ∧ n ≤ (ext C s).length ∧ ext C s ∈ runsF n C := by
  obtain ⟨s1, s2⟩ := mem_csF.mp hs
  obtain ⟨a, b, c⟩ := ext_facts hC s1 s2
  exact ⟨c, by omega, (mem_runs hC).mpr ⟨s, hs, rfl⟩⟩
theorem run_same {n : Nat} {C : List (Int × Int)} (hC : Cir n C) {a b : Tx} (ha : a ∈ runsF n C) (hb : b ∈ runsF n C) (e : sgn (ivs 1 ((n : Int) + 1)) a = sgn (ivs 1 ((n : Int) + 1)) b) : a = b := by
  have fa := run_facts hC ha
  have fb := run_facts hC hb
  rw [sgn_first (by omega), sgn_first (by omega)] at e
  rw [← fa.2.2.2, ← fb.2.2.2, e]
/-! functions of wires -/
def fnT (n : Nat) (C : List (Int × Int)) (w : Int) : Tx := (runsF n C).map fun t => if gi t w = 121 then (49 : Ch) else 48
theorem fnT_len (n : Nat) (C : List (Int × Int)) (w : Int) : (fnT n C w).length = 2 ^ n := by
  unfold fnT; rw [List.length_map, runs_len]
theorem fn_one (n : Nat) (C : List (Int × Int)) (w : Int) : ((runsF n C).map fun some => if decide ([gi some w] = ([121] : Tx)) = true then ([49] : Tx) else [48]) = (fnT n C w).map fun c => [c] := by
  unfold fnT
  rw [List.map_map]
  apply List.map_congr_left
  intro t _
  by_cases h : gi t w = 121 <;> simp [h]
theorem no_pair {n : Nat} {C : List (Int × Int)} (hC : Cir n C) {l : Int} {c d : Ch} (hcd : c ≠ d) : (first2 ((runsF n C).filter (isC l c)) ((runsF n C).filter (isC l d)) fun a b => decide (sgn (ivs 1 ((n : Int) + 1)) a = sgn (ivs 1 ((n : Int) + 1)) b)) = none := by
  rw [first2_prs]
  cases q : prs ((runsF n C).filter (isC l c)) ((runsF n C).filter (isC l d)) fun a b => decide (sgn (ivs 1 ((n : Int) + 1)) a = sgn (ivs 1 ((n : Int) + 1)) b) with
  | nil => rfl
  | cons p ps =>
    exfalso
    have hp : p ∈ prs ((runsF n C).filter (isC l c)) ((runsF n C).filter (isC l d)) fun a b => decide (sgn (ivs 1 ((n : Int) + 1)) a = sgn (ivs 1 ((n : Int) + 1)) b) := by rw [q]; simp
    obtain ⟨h1, h2, h3⟩ := mem_prs.mp hp
    rw [decide_eq_true_eq] at h3
    obtain ⟨a1, a2⟩ := List.mem_filter.mp h1
    obtain ⟨b1, b2⟩ := List.mem_filter.mp h2
    have e := run_same hC a1 b1 h3
    unfold isC at a2 b2
    rw [decide_eq_true_eq] at a2 b2
    rw [e] at a2
    exact hcd (a2.symm.trans b2)
theorem len_first (n : Nat) : (ivs 1 ((n : Int) + 1)).length = n := by rw [ivs_length]; omega
theorem mem_val {n : Nat} {C : List (Int × Int)} (hC : Cir n C) {w : Int} {s : Tx} (hs : s ∈ csF n) : vT s ∈ (Ys n C (w + 1)).map (fun t => plF (ivs 1 ((n : Int) + 1)) t) ↔ gi (ext C s) w = 121 := by
  obtain ⟨e1, e2, e3⟩ := ext_take hC hs
  rw [List.mem_map]
  constructor
  · rintro ⟨y, hy, e⟩
    obtain ⟨y1, y2⟩ := List.mem_filter.mp hy
    obtain ⟨r, hr, rfl⟩ := (mem_runs hC).mp y1
    obtain ⟨f1, f2, f3⟩ := ext_take hC hr
    rw [pl_first f2, f1] at e
    have := vT_inj hr hs e
    subst this
    unfold isC at y2
    rw [decide_eq_true_eq, show w + 1 - 1 = w by omega] at y2
    exact y2
  · intro h
    refine ⟨ext C s, List.mem_filter.mpr ⟨e3, ?_⟩, by rw [pl_first e2, e1]⟩
    unfold isC
    rw [decide_eq_true_eq, show w + 1 - 1 = w by omega]
    exact h
theorem bit_fn {n : Nat} {C : List (Int × Int)} (hC : Cir n C) (w : Int) : bitT n ((Ys n C (w + 1)).map fun t => plF (ivs 1 ((n : Int) + 1)) t) = fnT n C w := by
  unfold bitT fnT runsF
  rw [← csF_vT, List.map_map, List.map_map]
  apply List.map_congr_left
  intro s hs
  simp only [Function.comp_apply]
  have := mem_val hC (w := w) hs
  by_cases h : gi (ext C s) w = 121
  · rw [if_pos (this.mpr h), if_pos h]
  · rw [if_neg (fun z => h (this.mp z)), if_neg h]
theorem v_def {n : Nat} {C : List (Int × Int)} (hC : Cir n C) {w : Int} (h0 : 0 ≤ w) : sh_told_definition ((n + C.length : Nat) : Int) (setT (CL n C)) (ivs 1 ((n : Int) + 1)) (w + 1) = some (fnT n C w) := by
  unfold sh_told_definition
  rw [v_goB, fcs_Y hC (by omega), fcs_N hC (by omega)]
  have := no_pair hC (l := w + 1) (c := 121) (d := 110) (by decide)
  unfold Ys Ns
  rw [this]
  simp only [Option.isSome_none, Bool.false_eq_true, if_false]
  rw [len_first]
  have := bit_fn hC w
  unfold Ys at this
  rw [this]
theorem v_double {n : Nat} {C : List (Int × Int)} (hC : Cir n C) {w : Int} (h0 : 0 ≤ w) : sh_told_double ((n + C.length : Nat) : Int) (setT (CL n C)) (ivs 1 ((n : Int) + 1)) (w + 1) = none := by
  unfold sh_told_double
  rw [v_junction, fcs_N hC (l := w + 1) (by omega), fcs_Y hC (l := w + 1) (by omega)]
  exact no_pair hC (by decide)
theorem fn_at {n : Nat} {C : List (Int × Int)} (hC : Cir n C) (w : Int) {s : Tx} (hs : s ∈ csF n) : gi (fnT n C w) (vT s) = if gi (ext C s) w = 121 then (49 : Ch) else 48 := by
  obtain ⟨k, hk, rfl⟩ := List.getElem_of_mem hs
  rw [vT_at hk, gi_at (by rw [fnT_len, ← csF_length]; exact hk)]
  unfold fnT runsF
  rw [List.getElem_map, List.getElem_map]
theorem v_isdef {n : Nat} {C : List (Int × Int)} (hC : Cir n C) {w : Int} (h0 : 0 ≤ w) (h1 : w < ((n + C.length : Nat) : Int)) (t : Tx) : sh_is_definition ((n + C.length : Nat) : Int) (setT (CL n C)) (ivs 1 ((n : Int) + 1)) (w + 1) t = decide (t = fnT n C w) := by
  unfold sh_is_definition
  rw [v_goes, fcs_Y hC (by omega), fcs_N hC (by omega), len_first]
  rw [Bool.eq_iff_iff, Bool.and_eq_true, Bool.and_eq_true, List.all_eq_true, List.all_eq_true, decide_eq_true_eq]
  constructor
  · rintro ⟨hb, hY, hN⟩
    have hl := bits_len hb
    apply List.ext_getElem
    · rw [hl, fnT_len]
    · intro k k1 k2
      have hk : k < (csF n).length := by rw [csF_length, ← hl]; exact k1
      have hs : (csF n)[k] ∈ csF n := List.getElem_mem hk
      obtain ⟨e1, e2, e3⟩ := ext_take hC hs
      have fa := fn_at hC w hs
      rw [vT_at hk, gi_at k2] at fa
      rw [fa]
      have pl : plF (ivs 1 ((n : Int) + 1)) (ext C (csF n)[k]) = k := by rw [pl_first e2, e1, vT_at hk]
      have rf := run_facts hC e3
      have ny := rf.2.1 _ (gi_mem (xs := ext C (csF n)[k]) (i := w) h0 (by omega))
      by_cases hc : gi (ext C (csF n)[k]) w = 121
      · rw [if_pos hc]
        have := hY (ext C (csF n)[k]) (List.mem_filter.mpr ⟨e3, by unfold isC; rw [decide_eq_true_eq, show w + 1 - 1 = w by omega]; exact hc⟩)
        rw [decide_eq_true_eq, pl, gi_at k1] at this
        exact this
      · rw [if_neg hc]
        have := hN (ext C (csF n)[k]) (List.mem_filter.mpr ⟨e3, by unfold isC; rw [decide_eq_true_eq, show w + 1 - 1 = w by omega]; exact ny.resolve_right hc⟩)
        rw [decide_eq_true_eq, pl, gi_at k1] at this
        exact this
  · rintro rfl
    refine ⟨?_, fun y hy => ?_, fun y hy => ?_⟩
    · unfold Bits
      rw [fnT_len, Bool.and_eq_true, decide_eq_true_eq, List.all_eq_true]
      refine ⟨rfl, fun c hc => ?_⟩
      unfold fnT at hc
      obtain ⟨t, _, rfl⟩ := List.mem_map.mp hc
      split <;> decide
    · obtain ⟨y1, y2⟩ := List.mem_filter.mp hy
      obtain ⟨r, hr, rfl⟩ := (mem_runs hC).mp y1
      obtain ⟨f1, f2, f3⟩ := ext_take hC hr
      unfold isC at y2
      rw [decide_eq_true_eq, show w + 1 - 1 = w by omega] at y2
      rw [pl_first f2, f1, fn_at hC w hr, if_pos y2]
      rfl
    · obtain ⟨y1, y2⟩ := List.mem_filter.mp hy
      obtain ⟨r, hr, rfl⟩ := (mem_runs hC).mp y1
      obtain ⟨f1, f2, f3⟩ := ext_take hC hr
      unfold isC at y2
      rw [decide_eq_true_eq, show w + 1 - 1 = w by omega] at y2
      rw [pl_first f2, f1, fn_at hC w hr, y2]
      rfl
theorem strI01 : strI 0 = [48] ∧ strI 1 = [49] := by decide +kernel
theorem wire_one {n : Nat} {C : List (Int × Int)} (hC : Cir n C) {w : Int} (h0 : 0 ≤ w) (h1 : w < ((n + C.length : Nat) : Int)) : ((ansF n).map fun answers => strI (gi (sh_run_wires C answers) w)) = (fnT n C w).map fun c => [c] := by
  unfold fnT runsF
  rw [csF_ans, List.map_map, List.map_map, List.map_map]
  apply List.map_congr_left
  intro a ha
  obtain ⟨a1, a2⟩ := mem_ansF ha
  obtain ⟨b1, b2, b3, b4⟩ := lb_facts hC a1 a2
  simp only [Function.comp_apply]
  rw [b4, ← b3]
  have e : gi (nyT (lb C a)) w = ny (gi (lb C a) w) := gi_map h0 (by omega)
  rw [e]
  rcases b2 _ (gi_mem (xs := lb C a) (i := w) h0 (by omega)) with h | h
  · rw [h, strI01.1]; decide
  · rw [h, strI01.2]; decide
theorem v_wire {n : Nat} {C : List (Int × Int)} (hC : Cir n C) {w : Int} (h0 : 0 ≤ w) (h1 : w < ((n + C.length : Nat) : Int)) : sh_wire_function n C w = fnT n C w := by
  unfold sh_wire_function
  rw [v_ans, wire_one hC h0 h1, joinS_one]
theorem place_val : ∀ (a : List Int) (s : Int), B01 a → a.foldl sh_place_of_L1 s = plB s ((nyT a).map fun c => decide (c = 121))
  | [], s, _ => rfl
  | x :: a, s, h => by
    rw [List.foldl_cons, place_val a _ (fun y hy => h y (by simp [hy]))]
    unfold nyT
    rw [List.map_cons, List.map_cons]
    unfold plB
    rw [List.foldl_cons]
    congr 1
    unfold sh_place_of_L1
    simp only [letv]
    rcases h x (by simp) with rfl | rfl
    · rw [ny0]; simp
    · rw [ny1]; simp
theorem v_placeA {a : List Int} (h : B01 a) : sh_place_of a = vT (nyT a) := by
  unfold sh_place_of vT
  simp only [letv]
  exact place_val a 0 h
theorem ans_at {n k : Nat} (h : k < (ansF n).length) : (ansF n)[k].length = n ∧ sh_place_of ((ansF n)[k]) = k := by
  obtain ⟨a1, a2⟩ := mem_ansF (List.getElem_mem h)
  refine ⟨a1, ?_⟩
  rw [v_placeA a2]
  have hc : k < (csF n).length := by rw [csF_ans, List.length_map]; exact h
  have e : (csF n)[k] = nyT ((ansF n)[k]) := by
    have := csF_ans n
    simp only [this, List.getElem_map]
  rw [← e, vT_at hc]
theorem cut_whole {a : List Int} {n : Nat} (h : a.length = n) : cut a none (some (n : Int)) = a := by
  rw [cut_to (by omega) (by omega), Int.toNat_natCast, ← h, List.take_length]
theorem v_value {n k : Nat} (h : k < (ansF n).length) (f : Tx) : sh_value_at n f (gi (ansF n) k) = [gi f k] := by
  obtain ⟨a1, a2⟩ := ans_at h
  unfold sh_value_at
  rw [gi_at h, cut_whole a1, a2]
/-! clauses in order -/
theorem v_isclause {n : Nat} {C : List (Int × Int)} (hC : Cir n C) {c : List Int} (hc : c ∈ setT (CL n C)) : sh_is_clause c = true ∧ c.length ≤ 3 := by
  obtain ⟨i, j, l, h0, h1, h2, h3, e⟩ := CL_mem hC (mem_setT.mp hc)
  have key : ∀ c : List Int, Asc c → (0 : Int) ∉ c → (∀ z ∈ c, -z ∉ c) → sh_is_clause c = true := by
    intro c a1 a2 a3
    unfold sh_is_clause
    rw [v_is_ascending.mpr a1]
    simp only [a2, decide_false, Bool.not_true, Bool.or_false, Bool.false_eq_true, if_false, Bool.not_eq_true', List.any_eq_false, decide_eq_true_eq]
    exact a3
  rcases e with rfl | rfl | rfl
  · exact ⟨key _ (by unfold Asc; simp; omega) (by simp; omega) (by simp; omega), by simp⟩
  · exact ⟨key _ (by unfold Asc; simp; omega) (by simp; omega) (by simp; omega), by simp⟩
  · split
    · exact ⟨key _ (by unfold Asc; simp; omega) (by simp; omega) (by simp; omega), by simp⟩
    · exact ⟨key _ (by unfold Asc; simp; omega) (by simp; omega) (by simp; omega), by simp⟩
/-! a letter that is turned -/
def turn1 (t : Tx) (k : Nat) : Tx := t.take k ++ [if gi t k = 121 then (110 : Ch) else 121] ++ t.drop (k + 1)
theorem turn_len {t : Tx} {k : Nat} (h : k < t.length) : (turn1 t k).length = t.length := by
  unfold turn1; simp; omega
theorem turned {n : Nat} {C : List (Int × Int)} (hC : Cir n C) {t : Tx} (ht : t ∈ runsF n C) {k : Nat} (h0 : n ≤ k) (h1 : k < n + C.length) : fits (setT (CL n C)) (turn1 t k) = false := by
  obtain ⟨a, b, c, d⟩ := run_facts hC ht
  cases q : fits (setT (CL n C)) (turn1 t k) with
  | false => rfl
  | true =>
    exfalso
    have hN : NY (turn1 t k) := fun x hx => by
      unfold turn1 at hx
      rcases List.mem_append.mp hx with hx | hx
      · rcases List.mem_append.mp hx with hx | hx
        · exact b x (List.mem_of_mem_take hx)
        · rw [List.mem_singleton] at hx
          subst hx
          split
          · exact .inl rfl
          · exact .inr rfl
      · exact b x (List.mem_of_mem_drop hx)
    have hm : turn1 t k ∈ fcs (n + C.length) (setT (CL n C)) := mem_fcs.mpr ⟨⟨by rw [turn_len (by omega), a], hN⟩, q⟩
    rw [fcs_runs hC] at hm
    have f := run_facts hC hm
    have e : (turn1 t k).take n = t.take n := by
      unfold turn1
      rw [List.append_assoc, List.take_append_of_le_length (by rw [List.length_take]; omega), List.take_take, Nat.min_eq_left h0]
    rw [e, d] at f
    have e2 := f.2.2.2
    have e3 : gi (turn1 t k) (k : Int) = if gi t k = 121 then (110 : Ch) else 121 := by
      unfold turn1
      rw [gi_at (by simp; omega), List.getElem_append_left (by simp; omega), List.getElem_append_right (by rw [List.length_take]; omega)]
      simp
    rw [← e2] at e3
    split at e3
    · rename_i h; rw [h] at e3; exact absurd e3 (by decide)
    · rename_i h; exact h e3
end LawX

set_option maxHeartbeats 4000000
noncomputable section
namespace LawX
open PySem Ce Cs Pu Sh Pv
/-! drawn circuits -/
theorem v_circuit {ds : List Int} (hd : Pu.Drawn ds) {n : Nat} (hn : 1 ≤ n) {cnt : Int} (h0 : 0 ≤ cnt) (hl : 2 * cnt ≤ ds.length) : Cir n (sh__law_circuit ds n cnt) ∧ ((sh__law_circuit ds n cnt).length : Int) = cnt := by
  have h := foldl_at (step := sh__law_circuit_L1 ds n) (xs := ivs 0 cnt) (s := ([] : List (Int × Int))) (fun p s => Cir n s ∧ s.length = p.length) ⟨.nil, rfl⟩ (by
    rintro p x q s e ⟨h1, h2⟩
    obtain ⟨rfl, e2, _⟩ := ivs_split e
    unfold sh__law_circuit_L1
    delta letv
    dsimp only
    have b1 := Int.emod_nonneg (gi ds (2 * (p.length : Int))) (show (n : Int) + p.length ≠ 0 by omega)
    have b2 := Int.emod_lt_of_pos (gi ds (2 * (p.length : Int))) (show 0 < (n : Int) + p.length by omega)
    have b3 := Int.emod_nonneg (gi ds (2 * (p.length : Int) + 1)) (show (n : Int) + p.length ≠ 0 by omega)
    have b4 := Int.emod_lt_of_pos (gi ds (2 * (p.length : Int) + 1)) (show 0 < (n : Int) + p.length by omega)
    generalize gi ds (2 * (p.length : Int)) % ((n : Int) + p.length) = i at b1 b2
    have b5 : 0 ≤ (if decide (gi ds (2 * (p.length : Int) + 1) % 3 = 0) = true then (n : Int) + p.length - 1 else gi ds (2 * (p.length : Int) + 1) % ((n : Int) + p.length)) ∧ (if decide (gi ds (2 * (p.length : Int) + 1) % 3 = 0) = true then (n : Int) + p.length - 1 else gi ds (2 * (p.length : Int) + 1) % ((n : Int) + p.length)) < (n : Int) + p.length := by
      split <;> omega
    generalize (if decide (gi ds (2 * (p.length : Int) + 1) % 3 = 0) = true then (n : Int) + p.length - 1 else gi ds (2 * (p.length : Int) + 1) % ((n : Int) + p.length)) = j at b5
    exact ⟨.snoc h1 (by dsimp only; omega) (by dsimp only; omega) (by dsimp only; omega), by simp [h2]⟩)
  rw [ivs_length] at h
  exact ⟨h.1, by have := h.2; unfold sh__law_circuit; simp only [letv]; omega⟩
theorem o_circuit {ds : List Int} {n : Nat} (hn : 1 ≤ n) {cnt : Int} (h0 : 0 ≤ cnt) (h1 : cnt ≤ 20) (hl : 2 * cnt ≤ ds.length) : ok__law_circuit ds n cnt := by
  unfold ok__law_circuit
  simp only [letv]
  refine ⟨rOk_of (by omega) (by omega) (by omega) (by omega), okF_at (fun p (s : List (Int × Int)) => s.length = p.length) rfl ?_⟩
  rintro p x q s e hs
  obtain ⟨rfl, e2, _⟩ := ivs_split e
  unfold ok__law_circuit_L1 sh__law_circuit_L1
  delta letv
  dsimp only
  exact ⟨⟨gOk_of (by omega) (by omega), by omega, gOk_of (by omega) (by omega), fun _ => ⟨gOk_of (by omega) (by omega), by omega⟩, lim_lt (by omega)⟩, by simp [hs]⟩
/-! conditions -/
theorem enm_len {α : Type} (xs : List α) : (enm xs).length = xs.length := by simp [enm]
theorem o_due {n : Nat} {C : List (Int × Int)} (h : C.length ≤ 4) : ok__law_clauses_due n C := by
  unfold ok__law_clauses_due
  simp only [letv]
  have st : ∀ (s : List (List Int)) (q : Int × (Int × Int)), (sh__law_clauses_due_L1 n s q).length = s.length + 3 := by
    intro s q
    unfold sh__law_clauses_due_L1
    simp only [letv]
    split <;> simp
  have fl : ∀ (xs : List (Int × (Int × Int))) (s : List (List Int)), (xs.foldl (sh__law_clauses_due_L1 n) s).length = s.length + 3 * xs.length := by
    intro xs
    induction xs with
    | nil => intro s; simp
    | cons x xs ih => intro s; rw [List.foldl_cons, ih, st, List.length_cons]; omega
  refine ⟨okF_at (fun p (s : List (List Int)) => s.length = 3 * p.length) rfl ?_, by rw [fl, enm_len]; simp; omega⟩
  rintro p q r s e hs
  have lp := congrArg List.length e
  rw [enm_len] at lp
  simp at lp
  refine ⟨?_, by rw [st]; simp; omega⟩
  unfold ok__law_clauses_due_L1
  simp only [letv]
  refine ⟨lim_ok (by simp; omega), ?_⟩
  split <;> exact lim_lt (by simp; omega)
theorem o_clauses {n : Nat} {C : List (Int × Int)} (h : C.length ≤ 4) : ok_clauses_of_circuit n C := by
  unfold ok_clauses_of_circuit
  simp only [letv]
  have st : ∀ (s : List (List Int)) (q : Int × (Int × Int)), (sh_clauses_of_circuit_L1 n s q).length = s.length + 3 := by
    intro s q
    unfold sh_clauses_of_circuit_L1
    simp only [letv]
    simp
  have fl : ∀ (xs : List (Int × (Int × Int))) (s : List (List Int)), (xs.foldl (sh_clauses_of_circuit_L1 n) s).length = s.length + 3 * xs.length := by
    intro xs
    induction xs with
    | nil => intro s; simp
    | cons x xs ih => intro s; rw [List.foldl_cons, ih, st, List.length_cons]; omega
  refine ⟨okF_at (fun p (s : List (List Int)) => s.length = 3 * p.length) rfl ?_, by rw [fl, enm_len]; simp; omega⟩
  rintro p q r s e hs
  have lp := congrArg List.length e
  rw [enm_len] at lp
  simp at lp
  refine ⟨?_, by rw [st]; simp; omega⟩
  unfold ok_clauses_of_circuit_L1
  simp only [letv]
  exact ⟨lim_ok (by simp; omega), by simp, lim_lt (by simp; omega)⟩
theorem o_lbits {n : Nat} {C : List (Int × Int)} (hC : Cir n C) {a : List Int} (h1 : a.length = n) (hn : n ≤ 3) (hl : C.length ≤ 4) : ok__law_bits C a := by
  unfold ok__law_bits
  simp only [letv]
  have key : ∀ {C : List (Int × Int)}, Cir n C → ∀ (D : List (Int × Int)), C = D → ∀ p q r, D = p ++ q :: r → 0 ≤ q.1 ∧ q.1 ≤ q.2 ∧ q.2 < ((n + p.length : Nat) : Int) := by
    intro C hC
    induction hC with
    | nil => intro D e p q r e2; subst e; simp at e2
    | @snoc C x hC a b c ih =>
      intro D e p q r e2
      subst e
      rcases List.eq_nil_or_concat r with rfl | ⟨r', y, rfl⟩
      · have e3 : C ++ [x] = p ++ [q] := e2
        obtain ⟨e4, e5⟩ := List.append_inj' e3 rfl
        rw [List.cons.injEq] at e5
        obtain ⟨rfl, _⟩ := e5
        subst e4
        exact ⟨a, b, c⟩
      · have e3 : C ++ [x] = (p ++ q :: r') ++ [y] := by rw [e2]; simp
        obtain ⟨e4, _⟩ := List.append_inj' e3 rfl
        exact ih C rfl p q r' e4
  refine okF_at (fun p (s : List Int) => s.length = n + p.length) (by simpa using h1) ?_
  rintro p q r s e hs
  obtain ⟨a0, a1, a2⟩ := key hC C rfl p q r e
  have lp := congrArg List.length e
  simp at lp
  refine ⟨⟨gOk_of a0 (by omega), fun _ => gOk_of (by omega) (by omega), lim_lt (by omega)⟩, ?_⟩
  unfold sh__law_bits_L1
  simp only [letv]
  simp [hs]; omega
theorem o_run_wires {n : Nat} {C : List (Int × Int)} (hC : Cir n C) {a : List Int} (h1 : a.length = n) (h2 : B01 a) (hn : n ≤ 3) (hl : C.length ≤ 4) : ok_run_wires C a := by
  unfold ok_run_wires
  simp only [letv]
  have key : ∀ {C : List (Int × Int)}, Cir n C → ∀ p q r, C = p ++ q :: r → Cir n p ∧ 0 ≤ q.1 ∧ q.1 ≤ q.2 ∧ q.2 < ((n + p.length : Nat) : Int) := by
    intro C hC
    induction hC with
    | nil => intro p q r e2; simp at e2
    | @snoc C x hC a b c ih =>
      intro p q r e2
      rcases List.eq_nil_or_concat r with rfl | ⟨r', y, rfl⟩
      · have e3 : C ++ [x] = p ++ [q] := e2
        obtain ⟨e4, e5⟩ := List.append_inj' e3 rfl
        rw [List.cons.injEq] at e5
        obtain ⟨rfl, _⟩ := e5
        subst e4
        exact ⟨hC, a, b, c⟩
      · have e3 : C ++ [x] = (p ++ q :: r') ++ [y] := by rw [e2]; simp
        obtain ⟨e4, _⟩ := List.append_inj' e3 rfl
        exact ih p q r' e4
  refine okF_at (fun p (s : List Int) => Cir n p → s = lb p a) (fun _ => rfl) ?_
  rintro p q r s e hs
  obtain ⟨c0, a0, a1, a2⟩ := key hC p q r e
  have hs := hs c0
  obtain ⟨l1, l2, l3, l4⟩ := lb_facts c0 h1 h2
  have lp := congrArg List.length e
  simp at lp
  subst hs
  have m1 := l2 _ (gi_mem (xs := lb p a) (i := q.1) a0 (by omega))
  refine ⟨⟨gOk_of a0 (by omega), gOk_of (by omega) (by omega), .inl (by omega), lim_lt (by omega)⟩, fun c1 => ?_⟩
  have f := (lb_facts c1 h1 h2).2.2.2
  rw [← f]
  unfold sh_run_wires
  simp only [letv]
  rw [List.foldl_append]
  have g : p.foldl sh_run_wires_L1 a = lb p a := l4
  rw [g]
  rfl
theorem o_lrun {n : Nat} {C : List (Int × Int)} (hC : Cir n C) {a : List Int} (h1 : a.length = n) (h2 : B01 a) (hn : n ≤ 3) (hl : C.length ≤ 4) : ok__law_run C a := by
  obtain ⟨l1, l2, l3, l4⟩ := lb_facts hC h1 h2
  refine ⟨o_lbits hC h1 hn hl, by rw [v_lbits]; exact lim_ok (by omega), fun b hb => ⟨lim_ok (by decide), ?_⟩, ?_⟩
  · rw [v_lbits] at hb
    rcases l2 b hb with rfl | rfl <;> exact ⟨by decide, by decide⟩
  · have : ((sh__law_bits C a).map fun bit => ([gi ([110, 121] : Tx) bit] : Tx)) = (nyT (lb C a)).map fun c => [c] := by
      unfold nyT
      rw [List.map_map]; rfl
    rw [this]
    exact joinOk_one (by unfold nyT; rw [List.length_map]; omega)
theorem v_met (z : Int) (t : Tx) : sh_is_met_by z t = fit1 z t := one_if z t
theorem v_ismet (cl : List (List Int)) (t : Tx) : sh_is_met cl t = fits cl t := by
  unfold sh_is_met fits
  simp only [v_met]
theorem all_step (s : List Tx) (x : Int) : sh_all_cases_L1 s x = s.flatMap fun t => [t ++ [110], t ++ [121]] := rfl
theorem v_allc (n : Nat) : sh_all_cases n = csF n := by
  unfold sh_all_cases
  simp only [letv]
  have h := foldl_at (step := sh_all_cases_L1) (xs := ivs 0 (n : Int)) (s := [([] : Tx)]) (fun p s => s = csF p.length) rfl (by
    rintro p x q s e rfl
    rw [all_step, List.length_append]; rfl)
  rw [ivs_len'] at h
  exact h
theorem v_goodc (n : Nat) (cl : List (List Int)) : sh_good_cases n cl = fcs n cl := by
  unfold sh_good_cases fcs
  rw [v_allc]
  simp only [v_ismet]
theorem v_toldc (n : Nat) (cl : List (List Int)) : sh_told_case n cl = (fcs n cl).head? := by
  unfold sh_told_case
  simp only [letv]
  rw [v_goodc]
  cases fcs n cl <;> rfl
theorem v_number (n : Nat) (cl : List (List Int)) : sh_number_of_cases n cl = ((fcs n cl).length : Int) := by
  unfold sh_number_of_cases; rw [v_goodc]
theorem o_ismet {n : Nat} (hn : n ≤ 7) {cl : List (List Int)} (h : Cl n cl) {t : Tx} (ht : t.length = n) : ok_is_met cl t := fun c hc z hz => o_fit1 hn ht (h c hc z hz)
theorem o_goodc {n : Nat} (hn : n ≤ 7) {cl : List (List Int)} (h : Cl n cl) : ok_good_cases n cl := by
  have c := csF_len (n := n) hn
  refine ⟨⟨rOk_of (by omega) (by omega) (by omega) (by omega), okcases hn all_step fun s hs ht x => ⟨fun t h1 g h2 => ?_, ?_⟩⟩, ?_, fun t ht => ?_⟩
  · rw [sgs_ny] at h2
    have := ht t h1
    simp only [List.mem_cons, List.not_mem_nil, or_false] at h2
    rcases h2 with rfl | rfl <;> exact lim_ok (by simp; omega)
  · rw [sgs_ny]
    have : ∀ xs : List Tx, (xs.flatMap fun t => [[110], [121]].map fun g : Tx => t ++ g).length = 2 * xs.length := by
      intro xs
      induction xs with
      | nil => rfl
      | cons x xs ih => rw [List.flatMap_cons, List.length_append, ih]; simp; omega
    rw [this]
    exact lim_ok (by omega)
  · rw [v_allc]; exact lim_ok (by omega)
  · rw [v_allc] at ht
    exact o_ismet hn h (mem_csF.mp ht).1
theorem o_toldc {n : Nat} (hn : n ≤ 7) {cl : List (List Int)} (h : Cl n cl) : ok_told_case n cl := by
  unfold ok_told_case
  simp only [letv]
  refine ⟨o_goodc hn h, fun hx => ?_⟩
  rw [v_goodc] at hx ⊢
  cases e : fcs n cl with
  | nil => rw [e] at hx; simp at hx
  | cons x xs => exact gOk_of (by omega) (by rw [List.length_cons]; omega)
theorem ite_nx {a b : Bool} (h : a = b) : (if (!decide (a = b)) = true then (Ctl.rt false : Ctl Unit Bool) else .nx ()) = .nx () := by
  subst h; simp
/-! the two asked at the last letter -/
theorem L2_ok {n : Nat} {C : List (Int × Int)} (hC : Cir n C) (hn : n ≤ 3) (hn1 : 1 ≤ n) (hl : C.length ≤ 4) {q : Int × Tx} (hq : q = (((n + C.length : Nat) : Int), ([121] : Tx)) ∨ q = (0 - ((n + C.length : Nat) : Int), ([110] : Tx))) :
    ok_law_L2 ((n + C.length : Nat) : Int) (setT (CL n C)) (runsF n C) () q ∧ sh_law_L2 ((n + C.length : Nat) : Int) (setT (CL n C)) (runsF n C) () q = .nx () := by
  have cl := (CL_cl hC).setT
  have len : (setT (CL n C)).length ≤ 12 := by
    have := setT_len (CL n C)
    rw [CL_len] at this; omega
  have rl : (runsF n C).length ≤ 8 := by
    rw [runs_len]
    exact Nat.le_trans (Nat.pow_le_pow_right (by omega) hn) (by decide)
  have e1 : fcs (n + C.length) (sh__law_more (setT (CL n C)) q.1) = (runsF n C).filter fun some => decide ([gi some (((n + C.length : Nat) : Int) - 1)] = q.2) := by
    show fcs (n + C.length) (sh_with_clause (setT (CL n C)) q.1) = _
    rw [fcs_with, fcs_runs hC]
    apply List.filter_congr
    intro t _
    rcases hq with rfl | rfl
    · rw [fit_pos (by dsimp only; omega)]
      unfold isC
      simp
    · rw [Int.zero_sub, fit_neg (by omega)]
      unfold isC
      simp
  have cl2 : Cl (n + C.length) (sh__law_more (setT (CL n C)) q.1) := cl_with cl (by rcases hq with rfl | rfl <;> dsimp only <;> omega)
  constructor
  · unfold ok_law_L2
    delta letv
    dsimp only
    refine ⟨lim_ok (by omega), fun t ht => ?_, ⟨lim_ok (by simp; omega), by simp; omega⟩, o_goodc (by omega) cl2, ite_ok ⟨o_toldc (by omega) cl2, fun hx => gOk_of (by omega) (by simpa using hx), ?_⟩⟩
    · have := (run_facts hC ht).1
      exact ⟨lim_ok (by omega), gOk_of (by omega) (by omega)⟩
    · rw [pl_O]
      intro x _
      exact pl_S x
  · unfold sh_law_L2
    delta letv
    dsimp only
    rw [v_number, v_toldc, e1, head_if]
    simp
/-! the wires -/
theorem L3_ok {ds : List Int} (hd : ds.length = 30) {n : Nat} {C : List (Int × Int)} (hC : Cir n C) (hn : n ≤ 3) (hn1 : 1 ≤ n) (hl : C.length ≤ 4) {w : Int} (h0 : 0 ≤ w) (h1 : w < ((n + C.length : Nat) : Int)) :
    ok_law_L3 ds n C ((n + C.length : Nat) : Int) (setT (CL n C)) (runsF n C) (ivs 1 ((n : Int) + 1)) () w ∧ sh_law_L3 ds n C ((n + C.length : Nat) : Int) (setT (CL n C)) (runsF n C) (ivs 1 ((n : Int) + 1)) () w = .nx () := by
  have cl := (CL_cl hC).setT
  have len : (setT (CL n C)).length ≤ 12 := by
    have := setT_len (CL n C)
    rw [CL_len] at this; omega
  have p8 : 2 ^ n ≤ 8 := Nat.le_trans (Nat.pow_le_pow_right (by omega) hn) (by decide)
  have p0 : 0 < 2 ^ n := Nat.pos_of_ne_zero (by simp)
  have rl := runs_len n C
  have fl := fnT_len n C w
  have wd : Wd (n + C.length) (ivs 1 ((n : Int) + 1)) := ⟨by rw [len_first]; omega, fun x hx => by
    obtain ⟨a, b⟩ := mem_ivs.mp hx
    omega⟩
  have cw1 : Cl (n + C.length) (sh_with_clause (setT (CL n C)) (w + 1)) := cl_with cl (by omega)
  have cw2 : Cl (n + C.length) (sh_with_clause (setT (CL n C)) (-(w + 1))) := cl_with cl (by omega)
  have pk := Int.emod_nonneg (gi ds (20 + w)) (show ((runsF n C).length : Int) ≠ 0 by rw [rl]; omega)
  have pk2 := Int.emod_lt_of_pos (gi ds (20 + w)) (show 0 < ((runsF n C).length : Int) by rw [rl]; omega)
  obtain ⟨k, hk⟩ : ∃ k : Nat, gi ds (20 + w) % ((runsF n C).length : Int) = k := ⟨(gi ds (20 + w) % ((runsF n C).length : Int)).toNat, by omega⟩
  have kl : k < 2 ^ n := by omega
  have ka : k < (ansF n).length := by rw [ansF_length]; exact kl
  unfold ok_law_L3 sh_law_L3
  delta letv
  dsimp only
  rw [fn_one, joinS_one, v_wire hC h0 h1, v_def hC h0, v_double hC h0, hk, v_lans, v_value ka]
  generalize hO : (cut (fnT n C w) none (some (k : Int)) ++ if decide ([gi (fnT n C w) (k : Int)] = ([49] : Tx)) = true then ([48] : Tx) else [49]) ++ cut (fnT n C w) (some ((k : Int) + 1)) none = other
  have ol : other.length ≤ 20 := by
    have c1 := Pu.cut_length (fnT n C w) none (some (k : Int))
    have c2 := Pu.cut_length (fnT n C w) (some ((k : Int) + 1)) none
    rw [← hO, List.length_append, List.length_append]
    have : (if decide ([gi (fnT n C w) (k : Int)] = ([49] : Tx)) = true then ([48] : Tx) else [49]).length = 1 := by split <;> rfl
    omega
  have e4 : ∀ X : Tx, forL (sh_law_L4 ((n + C.length : Nat) : Int) (setT (CL n C)) (ivs 1 ((n : Int) + 1)) w (fnT n C w)) [fnT n C w, other, X] () = .nx () := fun X => forL_unit fun t _ => by
    unfold sh_law_L4
    exact ite_nx (v_isdef hC h0 h1 t)
  rw [e4]
  have odef : ∀ t : Tx, t.length ≤ 100 → ok_is_definition ((n + C.length : Nat) : Int) (setT (CL n C)) (ivs 1 ((n : Int) + 1)) (w + 1) t := fun t ht => ⟨o_with (by omega) _, o_with (by omega) _, o_goes (by omega) cw1 cw2 wd (by omega)⟩
  have c1 := Pu.cut_length (fnT n C w) none (some (k : Int))
  have c2 := Pu.cut_length (fnT n C w) (some ((k : Int) + 1)) none
  have il : (if decide ([gi (fnT n C w) (k : Int)] = ([49] : Tx)) = true then ([48] : Tx) else [49]).length = 1 := by split <;> rfl
  refine ⟨⟨lim_ok (by omega), fun t ht => ?_, joinOk_one (by omega), ⟨o_ans hn, by rw [v_ans, ansF_length]; exact lim_ok (by omega), fun a ha => ?_, ?_⟩, pl_S _, ite_ok ⟨⟨o_with (by omega) _, o_with (by omega) _, o_goB (by omega) cw1 cw2 wd⟩, ?_, ite_ok ⟨⟨o_with (by omega) _, o_with (by omega) _, o_junction (by omega) cw2 cw1 wd⟩, ?_, ite_ok ⟨gOk_of (by omega) (by omega), by omega, lim_ok (by omega), ⟨lim_ok (by omega), gOk_of (by omega) (by omega)⟩, lim_ok (by rw [il]; omega), lim_ok (by omega), lim_ok (by rw [List.length_append, il]; omega), lim_ok (by simp; omega), okL_unit fun t ht => ?_, o_lans hn, gOk_of (by omega) (by omega), ?_, ⟨lim_ok (by omega), gOk_of (by omega) (by omega)⟩, pl_S _⟩⟩⟩⟩, ?_⟩
  · have := (run_facts hC ht).1
    exact ⟨lim_ok (by omega), gOk_of (by omega) (by omega)⟩
  · rw [v_ans] at ha
    obtain ⟨a1, a2⟩ := mem_ansF ha
    obtain ⟨b1, b2, b3, b4⟩ := lb_facts hC a1 a2
    rw [b4]
    refine ⟨o_run_wires hC a1 a2 hn hl, gOk_of h0 (by omega), ?_⟩
    rcases b2 _ (gi_mem (xs := lb C a) (i := w) h0 (by omega)) with h | h <;> rw [h] <;> decide
  · rw [v_ans, wire_one hC h0 h1]
    exact joinOk_one (by omega)
  · rw [pl_O]
    intro x _
    exact pl_S x
  · rw [pl_O]
    intro x hx
    cases hx
  · simp only [List.mem_cons, List.not_mem_nil, or_false] at ht
    rcases ht with rfl | rfl | rfl
    · exact odef _ (by omega)
    · exact odef _ (by omega)
    · exact odef _ (by rw [List.length_append]; simp; omega)
  · obtain ⟨a1, a2⟩ := ans_at ka
    unfold ok_value_at
    rw [gi_at ka, cut_whole a1, a2]
    exact ⟨lim_ok (by omega), gOk_of (by omega) (by omega)⟩
  · simp
theorem turn_eq {t : Tx} {k : Nat} (h : k < t.length) : (cut t none (some (k : Int)) ++ if decide ([gi t (k : Int)] = ([121] : Tx)) = true then ([110] : Tx) else [121]) ++ cut t (some ((k : Int) + 1)) none = turn1 t k := by
  unfold turn1
  rw [cut_to (by omega) (by omega), cut_fr (by omega), Int.toNat_natCast, show ((k : Int) + 1).toNat = k + 1 by omega]
  by_cases q : gi t (k : Int) = 121 <;> simp [q]
theorem turn_ok {ns : List Int} {t : Int} (h0 : 0 ≤ t) : ok_law_L1 ns () t ∧ sh_law_L1 ns () t = .nx () := by
  obtain ⟨dl, dr⟩ := v__law_draws (sh__law_cell ns t) (c := 30) (by omega)
  have od := o__law_draws (sh__law_cell ns t) (c := 30) (by omega) (by omega)
  unfold ok_law_L1 sh_law_L1
  delta letv
  dsimp only
  generalize sh__law_draws (sh__law_cell ns t) 30 = ds at dl dr
  have dl' : ds.length = 30 := by omega
  obtain ⟨n, hn⟩ : ∃ n : Nat, 1 + gi ds 0 % 3 = n := ⟨(1 + gi ds 0 % 3).toNat, by omega⟩
  have n1 : 1 ≤ n := by omega
  have n3 : n ≤ 3 := by omega
  rw [hn]
  have lc : (cut ds (some 4) none).length = 26 := by rw [cut_fr (by omega), List.length_drop]; omega
  obtain ⟨c1, c2⟩ := v_circuit (ds := cut ds (some 4) none) (cut_drawn dr _ _) n1 (cnt := 1 + gi ds 1 % 4) (by omega) (by omega)
  have oc := o_circuit (ds := cut ds (some 4) none) n1 (cnt := 1 + gi ds 1 % 4) (by omega) (by omega) (by omega)
  generalize sh__law_circuit (cut ds (some 4) none) n (1 + gi ds 1 % 4) = C at c1 c2 oc
  have l4 : C.length ≤ 4 := by omega
  have l1 : 1 ≤ C.length := by omega
  rw [show (n : Int) + (C.length : Int) = ((n + C.length : Nat) : Int) by omega]
  rw [v_due, v_clauses c1, v_runs c1, v_number, v_toldc, fcs_runs c1]
  have cl := (CL_cl c1).setT
  have len : (setT (CL n C)).length ≤ 12 := by
    have := setT_len (CL n C)
    rw [CL_len] at this; omega
  have p8 : 2 ^ n ≤ 8 := Nat.le_trans (Nat.pow_le_pow_right (by omega) n3) (by decide)
  have p0 : 0 < 2 ^ n := Nat.pos_of_ne_zero (by simp)
  have rl := runs_len n C
  have hd : (runsF n C).head? = some (gi (runsF n C) 0) := by
    rw [head_if, if_pos (by rw [decide_eq_true_eq, rl]; omega)]
  rw [hd]
  have rm : gOk (runsF n C) (gi ds 2 % ((runsF n C).length : Int)) := gOk_of (Int.emod_nonneg _ (by rw [rl]; omega)) (Int.emod_lt_of_pos _ (by rw [rl]; omega))
  have run := gi_mem' rm
  generalize gi (runsF n C) (gi ds 2 % ((runsF n C).length : Int)) = R at run
  have rf := run_facts c1 run
  have ak := Int.emod_nonneg (gi ds 3) (show (C.length : Int) ≠ 0 by omega)
  have ak2 := Int.emod_lt_of_pos (gi ds 3) (show 0 < (C.length : Int) by omega)
  obtain ⟨k, hk⟩ : ∃ k : Nat, (n : Int) + gi ds 3 % (C.length : Int) = k := ⟨((n : Int) + gi ds 3 % (C.length : Int)).toNat, by omega⟩
  rw [hk]
  have k0 : n ≤ k := by omega
  have k1 : k < n + C.length := by omega
  rw [turn_eq (by omega)]
  have em : ∀ t, sh_is_met (setT (CL n C)) t = fits (setT (CL n C)) t := v_ismet _
  have e1 : (((runsF n C).map fun run => decide (sh_is_met (setT (CL n C)) run = true)).all id) = true := by
    rw [all_id, List.all_eq_true]
    intro r hr
    rw [← fcs_runs c1] at hr
    rw [decide_eq_true_eq, em]
    exact (mem_fcs.mp hr).2
  have e2 : (((setT (CL n C)).map fun clause => decide (sh_is_clause clause = true)).all id) = true := by
    rw [all_id, List.all_eq_true]
    intro c hc
    rw [decide_eq_true_eq]
    exact (v_isclause c1 hc).1
  have e3 : sh_is_met (setT (CL n C)) (turn1 R k) = false := by rw [em]; exact turned c1 run k0 k1
  have e4 : forL (sh_law_L2 ((n + C.length : Nat) : Int) (setT (CL n C)) (runsF n C)) [(((n + C.length : Nat) : Int), ([121] : Tx)), (0 - ((n + C.length : Nat) : Int), ([110] : Tx))] () = .nx () := forL_unit fun q hq => by
    simp only [List.mem_cons, List.not_mem_nil, or_false] at hq
    exact (L2_ok c1 n3 n1 l4 hq).2
  have e5 : forL (sh_law_L3 ds n C ((n + C.length : Nat) : Int) (setT (CL n C)) (runsF n C) (ivs 1 ((n : Int) + 1))) (ivs 0 ((n + C.length : Nat) : Int)) () = .nx () := forL_unit fun w hw => by
    obtain ⟨a, b⟩ := mem_ivs.mp hw
    exact (L3_ok dl' c1 n3 n1 l4 a b).2
  rw [e1, e2, e3, e4, e5]
  simp only [decide_true, Bool.not_true, Bool.false_eq_true, if_false, goL_nx, goP_nx]
  have q1 := Pu.cut_length R none (some (k : Int))
  have q2 := Pu.cut_length R (some ((k : Int) + 1)) none
  have il : (if decide ([gi R (k : Int)] = ([121] : Tx)) = true then ([110] : Tx) else [121]).length = 1 := by split <;> rfl
  refine ⟨⟨o__law_cell h0, od, gOk_of (by omega) (by omega), gOk_of (by omega) (by omega), oc, o_due l4, o_clauses l4, ?_, o_lans n3, by rw [v_lans, ansF_length]; exact lim_ok (by omega), fun a ha => ?_, o_goodc (by omega) cl, o_toldc (by omega) cl, gOk_of (by omega) (by omega), pl_S _, lim_ok (by omega), fun r hr => o_ismet (by omega) cl (run_facts c1 hr).1, lim_ok (by omega), fun c hc => o_is_ascending (by have := (v_isclause c1 hc).2; omega), gOk_of (by omega) (by omega), by omega, rm, gOk_of (by omega) (by omega), by omega, lim_ok (by omega), ⟨lim_ok (by omega), gOk_of (by omega) (by omega)⟩, lim_ok (by rw [il]; omega), lim_ok (by omega), lim_ok (by rw [List.length_append, il]; omega), o_ismet (by omega) cl (by rw [turn_len (by omega)]; exact rf.1), okL_unit fun q hq => ?_, rOk_of (by omega) (by omega) (by omega) (by omega), rOk_of (by omega) (by omega) (by omega) (by omega), okL_unit fun w hw => ?_⟩, trivial⟩
  · rw [pl_T]
    refine ⟨by omega, fun c hc => ?_⟩
    rw [pl_T]
    exact ⟨by have := (v_isclause c1 hc).2; omega, fun z _ => pl_I z⟩
  · rw [v_lans] at ha
    exact o_lrun c1 (mem_ansF ha).1 (mem_ansF ha).2 n3 l4
  · simp only [List.mem_cons, List.not_mem_nil, or_false] at hq
    exact (L2_ok c1 n3 n1 l4 hq).1
  · obtain ⟨a, b⟩ := mem_ivs.mp hw
    exact (L3_ok dl' c1 n3 n1 l4 a b).1
theorem law_holds (ns : List Int) (_ : ns.length ≤ 63) : ok_law ns ∧ sh_law ns = true := by
  constructor
  · exact okL_unit fun t ht => (turn_ok (mem_ivs.mp ht).1).1
  · unfold sh_law
    rw [forL_unit fun t ht => (turn_ok (mem_ivs.mp ht).1).2]
    rfl
end LawX

set_option maxHeartbeats 8000000
noncomputable section
namespace LawX
open PySem PySem.Spec PyProof.Rows L2 GxR Ce Gx Cs
def b_answers_in_order_L1 : Sms :=
(.cons (.asg (.nm 1) (.lc2 (.bin .add (.var 3) (.tup (.cons (.var 4) .nil))) (.nm 3) (.ex (.var 1)) .no (.nm 4) (.ex (.tup (.cons (.int 0) (.cons (.int 1) .nil)))) .no))
.nil)
def b_answers_in_order : Sms :=
(.cons (.asg (.nm 1) (.lst (.cons (.tup .nil) .nil)))
(.cons (.for (.nm 2) (.rng1 (.var 0)) b_answers_in_order_L1)
(.cons (.ret (.var 1))
.nil)))
def d_answers_in_order : CD := ⟨1, ["n", "found", "_", "answers", "bit"], ["n"], b_answers_in_order⟩
def b_run_wires_L1 : Sms :=
(.cons (.app 2 (.bin .sub (.int 1) (.bin .mul (.sub (.var 2) (.var 3)) (.sub (.var 2) (.var 4)))))
.nil)
def b_run_wires : Sms :=
(.cons (.own 2 (.bi .list (.var 1)))
(.cons (.for (.tp (.cons (.nm 3) (.cons (.nm 4) .nil))) (.ex (.var 0)) b_run_wires_L1)
(.cons (.frz [2] (.ret (.var 2)))
.nil)))
def d_run_wires : CD := ⟨2, ["circuit", "answers", "bits", "i", "j"], ["circuit", "answers"], b_run_wires⟩
def b_wire_function : Sms :=
(.cons (.ret (.mt .join (.str "") (.lc (.b1 .str (.sub (.call 1 (.cons (.var 1) (.cons (.var 3) .nil))) (.var 2))) (.nm 3) (.ex (.call 0 (.cons (.var 0) .nil))) .no)))
.nil)
def d_wire_function : CD := ⟨3, ["n", "circuit", "wire", "answers"], ["n", "circuit", "wire"], b_wire_function⟩
def b_clauses_of_circuit_L1 : Sms :=
(.cons (.asg (.nm 6) (.bin .add (.bin .add (.var 0) (.var 3)) (.int 1)))
(.cons (.ext 2 (.lst (.cons (.tup (.cons (.bin .add (.var 4) (.int 1)) (.cons (.var 6) .nil))) (.cons (.tup (.cons (.bin .add (.var 5) (.int 1)) (.cons (.var 6) .nil))) .nil))))
(.cons (.app 2 (.bi .tuple (.st false (.lst (.cons (.neg (.bin .add (.var 4) (.int 1))) (.cons (.neg (.bin .add (.var 5) (.int 1))) (.cons (.neg (.var 6)) .nil)))))))
.nil)))
def b_clauses_of_circuit : Sms :=
(.cons (.own 2 (.lst .nil))
(.cons (.for (.tp (.cons (.nm 3) (.cons (.tp (.cons (.nm 4) (.cons (.nm 5) .nil))) .nil))) (.enum (.var 1)) b_clauses_of_circuit_L1)
(.cons (.ret (.bi .tuple (.st false (.var 2))))
.nil)))
def d_clauses_of_circuit : CD := ⟨4, ["n", "circuit", "found", "at", "i", "j", "letter"], ["n", "circuit"], b_clauses_of_circuit⟩
def b_is_ascending : Sms :=
(.cons (.ret (.gen true (.cmp .lt (.sub (.var 0) (.var 1)) (.sub (.var 0) (.bin .add (.var 1) (.int 1)))) (.nm 1) (.rng1 (.bin .sub (.b1 .len (.var 0)) (.int 1))) .no))
.nil)
def d_is_ascending : CD := ⟨6, ["items", "at"], ["items"], b_is_ascending⟩
def b_is_clause : Sms :=
(.cons (.ife (.or (.not (.call 4 (.cons (.var 0) .nil))) (.cmp .isin (.int 0) (.var 0)))
(.cons (.ret (.bool false))
.nil)
.nil)
(.cons (.ret (.not (.gen false (.cmp .isin (.neg (.var 1)) (.var 0)) (.nm 1) (.ex (.var 0)) .no)))
.nil))
def d_is_clause : CD := ⟨8, ["numbers", "number"], ["numbers"], b_is_clause⟩
def b_is_met_by : Sms :=
(.cons (.ret (.cmp .eq (.sub (.var 1) (.bin .sub (.b1 .abs (.var 0)) (.int 1))) (.ife (.cmp .gt (.var 0) (.int 0)) (.str "y") (.str "n"))))
.nil)
def d_is_met_by : CD := ⟨9, ["number", "case"], ["number", "case"], b_is_met_by⟩
def b_is_met : Sms :=
(.cons (.ret (.gen true (.gen false (.call 6 (.cons (.var 3) (.cons (.var 1) .nil))) (.nm 3) (.ex (.var 2)) .no) (.nm 2) (.ex (.var 0)) .no))
.nil)
def d_is_met : CD := ⟨10, ["clauses", "case", "clause", "number"], ["clauses", "case"], b_is_met⟩
def b_all_cases_L1 : Sms :=
(.cons (.asg (.nm 1) (.lc2 (.bin .add (.var 3) (.var 4)) (.nm 3) (.ex (.var 1)) .no (.nm 4) (.ex (.str "ny")) .no))
.nil)
def b_all_cases : Sms :=
(.cons (.asg (.nm 1) (.lst (.cons (.str "") .nil)))
(.cons (.for (.nm 2) (.rng1 (.var 0)) b_all_cases_L1)
(.cons (.ret (.var 1))
.nil)))
def d_all_cases : CD := ⟨11, ["n", "found", "_", "case", "sign"], ["n"], b_all_cases⟩
def b_good_cases : Sms :=
(.cons (.ret (.lc (.var 2) (.nm 2) (.ex (.call 8 (.cons (.var 0) .nil))) (.yes (.call 7 (.cons (.var 1) (.cons (.var 2) .nil))))))
.nil)
def d_good_cases : CD := ⟨12, ["n", "clauses", "case"], ["n", "clauses"], b_good_cases⟩
def b_told_case : Sms :=
(.cons (.asg (.nm 2) (.call 9 (.cons (.var 0) (.cons (.var 1) .nil))))
(.cons (.ret (.ife (.var 2) (.sub (.var 2) (.int 0)) .non))
.nil))
def d_told_case : CD := ⟨13, ["n", "clauses", "found"], ["n", "clauses"], b_told_case⟩
def b_number_of_cases : Sms :=
(.cons (.ret (.b1 .len (.call 9 (.cons (.var 0) (.cons (.var 1) .nil)))))
.nil)
def d_number_of_cases : CD := ⟨14, ["n", "clauses"], ["n", "clauses"], b_number_of_cases⟩
def b_fits_number : Sms :=
(.cons (.ret (.cmp .eq (.sub (.var 1) (.bin .sub (.b1 .abs (.var 0)) (.int 1))) (.ife (.cmp .gt (.var 0) (.int 0)) (.str "y") (.str "n"))))
.nil)
def d_fits_number : CD := ⟨16, ["number", "case"], ["number", "case"], b_fits_number⟩
def b_fits_all : Sms :=
(.cons (.ret (.gen true (.gen false (.call 12 (.cons (.var 3) (.cons (.var 1) .nil))) (.nm 3) (.ex (.var 2)) .no) (.nm 2) (.ex (.var 0)) .no))
.nil)
def d_fits_all : CD := ⟨17, ["clauses", "case", "clause", "number"], ["clauses", "case"], b_fits_all⟩
def b_fitting_cases_L1 : Sms :=
(.cons (.asg (.nm 2) (.lc2 (.bin .add (.var 4) (.var 5)) (.nm 4) (.ex (.var 2)) .no (.nm 5) (.ex (.str "ny")) .no))
.nil)
def b_fitting_cases : Sms :=
(.cons (.asg (.nm 2) (.lst (.cons (.str "") .nil)))
(.cons (.for (.nm 3) (.rng1 (.var 0)) b_fitting_cases_L1)
(.cons (.ret (.lc (.var 4) (.nm 4) (.ex (.var 2)) (.yes (.call 13 (.cons (.var 1) (.cons (.var 4) .nil))))))
.nil)))
def d_fitting_cases : CD := ⟨18, ["n", "clauses", "texts", "_", "text", "sign"], ["n", "clauses"], b_fitting_cases⟩
def b_signs_at : Sms :=
(.cons (.ret (.mt .join (.str "") (.lc (.sub (.var 1) (.bin .sub (.var 2) (.int 1))) (.nm 2) (.ex (.var 0)) .no)))
.nil)
def d_signs_at : CD := ⟨19, ["words", "case", "letter"], ["words", "case"], b_signs_at⟩
def b_place_of_signs_L1 : Sms :=
(.cons (.asg (.nm 1) (.bin .add (.bin .mul (.int 2) (.var 1)) (.ife (.cmp .eq (.var 2) (.str "y")) (.int 1) (.int 0))))
.nil)
def b_place_of_signs : Sms :=
(.cons (.asg (.nm 1) (.int 0))
(.cons (.for (.nm 2) (.ex (.var 0)) b_place_of_signs_L1)
(.cons (.ret (.var 1))
.nil)))
def d_place_of_signs : CD := ⟨20, ["signs", "place", "sign"], ["signs"], b_place_of_signs⟩
def b_is_bits : Sms :=
(.cons (.ret (.and (.cmp .eq (.b1 .len (.var 1)) (.bin .shl (.int 1) (.var 0))) (.gen true (.cmp .isin (.var 2) (.tup (.cons (.str "0") (.cons (.str "1") .nil)))) (.nm 2) (.ex (.var 1)) .no)))
.nil)
def d_is_bits : CD := ⟨21, ["size", "text", "sign"], ["size", "text"], b_is_bits⟩
def b_told_junction_L1 : Sms :=
(.cons (.ife (.cmp .eq (.call 15 (.cons (.var 3) (.cons (.var 4) .nil))) (.call 15 (.cons (.var 3) (.cons (.var 5) .nil))))
(.cons (.ret (.tup (.cons (.var 4) (.cons (.var 5) .nil))))
.nil)
.nil)
.nil)
def b_told_junction_L2 : Sms :=
(.cons (.for (.nm 5) (.ex (.call 14 (.cons (.var 0) (.cons (.var 2) .nil)))) b_told_junction_L1)
.nil)
def b_told_junction : Sms :=
(.cons (.for (.nm 4) (.ex (.call 14 (.cons (.var 0) (.cons (.var 1) .nil)))) b_told_junction_L2)
(.cons (.ret .non)
.nil))
def d_told_junction : CD := ⟨22, ["n", "first", "second", "words", "one", "other"], ["n", "first", "second", "words"], b_told_junction⟩
def b_is_go_between_L1 : Sms :=
(.cons (.ife (.cmp .ne (.sub (.var 4) (.call 16 (.cons (.call 15 (.cons (.var 3) (.cons (.var 7) .nil))) .nil))) (.var 6))
(.cons (.ret (.bool false))
.nil)
.nil)
.nil)
def b_is_go_between_L2 : Sms :=
(.cons (.for (.nm 7) (.ex (.call 14 (.cons (.var 0) (.cons (.var 5) .nil)))) b_is_go_between_L1)
.nil)
def b_is_go_between : Sms :=
(.cons (.ife (.not (.call 17 (.cons (.b1 .len (.var 3)) (.cons (.var 4) .nil))))
(.cons (.ret (.bool false))
.nil)
.nil)
(.cons (.for (.tp (.cons (.nm 5) (.cons (.nm 6) .nil))) (.ex (.tup (.cons (.tup (.cons (.var 1) (.cons (.str "1") .nil))) (.cons (.tup (.cons (.var 2) (.cons (.str "0") .nil))) .nil)))) b_is_go_between_L2)
(.cons (.ret (.bool true))
.nil)))
def d_is_go_between : CD := ⟨23, ["n", "first", "second", "words", "text", "clauses", "sign", "case"], ["n", "first", "second", "words", "text"], b_is_go_between⟩
def b_told_go_between : Sms :=
(.cons (.ife (.nisn (.call 18 (.cons (.var 0) (.cons (.var 1) (.cons (.var 2) (.cons (.var 3) .nil))))))
(.cons (.ret .non)
.nil)
.nil)
(.cons (.asg (.nm 5) (.lc (.call 16 (.cons (.call 15 (.cons (.var 3) (.cons (.var 4) .nil))) .nil)) (.nm 4) (.ex (.call 14 (.cons (.var 0) (.cons (.var 1) .nil)))) .no))
(.cons (.ret (.mt .join (.str "") (.lc (.ife (.cmp .isin (.var 6) (.var 5)) (.str "1") (.str "0")) (.nm 6) (.rng1 (.bin .shl (.int 1) (.b1 .len (.var 3)))) .no)))
.nil)))
def d_told_go_between : CD := ⟨24, ["n", "first", "second", "words", "case", "places", "place"], ["n", "first", "second", "words"], b_told_go_between⟩
def b_with_clause : Sms :=
(.cons (.ret (.bi .tuple (.st false (.bin .add (.var 0) (.tup (.cons (.tup (.cons (.var 1) .nil)) .nil))))))
.nil)
def d_with_clause : CD := ⟨25, ["clauses", "number"], ["clauses", "number"], b_with_clause⟩
def b_told_definition : Sms :=
(.cons (.ret (.call 20 (.cons (.var 0) (.cons (.call 21 (.cons (.var 1) (.cons (.var 3) .nil))) (.cons (.call 21 (.cons (.var 1) (.cons (.neg (.var 3)) .nil))) (.cons (.var 2) .nil))))))
.nil)
def d_told_definition : CD := ⟨26, ["n", "clauses", "words", "letter"], ["n", "clauses", "words", "letter"], b_told_definition⟩
def b_is_definition : Sms :=
(.cons (.ret (.call 19 (.cons (.var 0) (.cons (.call 21 (.cons (.var 1) (.cons (.var 3) .nil))) (.cons (.call 21 (.cons (.var 1) (.cons (.neg (.var 3)) .nil))) (.cons (.var 2) (.cons (.var 4) .nil)))))))
.nil)
def d_is_definition : CD := ⟨27, ["n", "clauses", "words", "letter", "text"], ["n", "clauses", "words", "letter", "text"], b_is_definition⟩
def b_told_double : Sms :=
(.cons (.ret (.call 18 (.cons (.var 0) (.cons (.call 21 (.cons (.var 1) (.cons (.neg (.var 3)) .nil))) (.cons (.call 21 (.cons (.var 1) (.cons (.var 3) .nil))) (.cons (.var 2) .nil))))))
.nil)
def d_told_double : CD := ⟨28, ["n", "clauses", "words", "letter"], ["n", "clauses", "words", "letter"], b_told_double⟩
def b_place_of_L1 : Sms :=
(.cons (.asg (.nm 1) (.bin .add (.bin .mul (.int 2) (.var 1)) (.var 2)))
.nil)
def b_place_of : Sms :=
(.cons (.asg (.nm 1) (.int 0))
(.cons (.for (.nm 2) (.ex (.var 0)) b_place_of_L1)
(.cons (.ret (.var 1))
.nil)))
def d_place_of : CD := ⟨30, ["answers", "place", "answer"], ["answers"], b_place_of⟩
def b_value_at : Sms :=
(.cons (.ret (.sub (.var 1) (.call 25 (.cons (.sl (.var 2) .no (.yes (.var 0))) .nil))))
.nil)
def d_value_at : CD := ⟨31, ["n", "function", "answers"], ["n", "function", "answers"], b_value_at⟩
def b__law_cell : Sms :=
(.cons (.ife (.cmp .lt (.var 1) (.b1 .len (.var 0)))
(.cons (.ret (.sub (.var 0) (.var 1)))
.nil)
.nil)
(.cons (.ret (.bin .add (.bin .mul (.int 5) (.var 1)) (.int 3)))
.nil))
def d__law_cell : CD := ⟨33, ["script", "k"], ["script", "k"], b__law_cell⟩
def b__law_draws_L1 : Sms :=
(.cons (.ife (.and (.var 3) (.cmp .gt (.var 2) (.int 0)))
(.cons (.app 5 (.bin .mod (.b1 .int (.var 2)) (.int 5040)))
(.cons (.asg (.nm 2) (.bin .fdiv (.var 2) (.int 5040)))
.nil))
(.cons (.asg (.nm 7) (.bin .mod (.b1 .int (.bin .add (.bin .add (.bin .mul (.var 4) (.int 48271)) (.bin .mul (.bin .add (.var 6) (.int 1)) (.int 69621))) (.int 11))) (.int 2147483647)))
(.cons (.asg (.nm 7) (.bin .mod (.b1 .int (.bin .add (.bin .mul (.var 7) (.var 7)) (.bin .mul (.int 40692) (.bin .add (.var 6) (.int 3))))) (.int 2147483399)))
(.cons (.app 5 (.bin .mod (.b1 .int (.bin .fdiv (.var 7) (.int 64))) (.int 5040)))
.nil))))
.nil)
def b__law_draws : Sms :=
(.cons (.asg (.nm 2) (.b1 .abs (.b1 .int (.var 0))))
(.cons (.asg (.nm 3) (.cmp .ge (.var 2) (.bin .pow (.int 10) (.int 18))))
(.cons (.asg (.nm 4) (.var 2))
(.cons (.own 5 (.lst .nil))
(.cons (.for (.nm 6) (.rng1 (.var 1)) b__law_draws_L1)
(.cons (.frz [5] (.ret (.var 5)))
.nil))))))
def d__law_draws : CD := ⟨34, ["cell", "count", "rest", "digits", "seed", "draws", "k", "mixed"], ["cell", "count"], b__law_draws⟩
def b__law_is_integer : Sms :=
(.cons (.ret (.and (.isi .int (.var 0)) (.not (.isi .bool (.var 0)))))
.nil)
def d__law_is_integer : CD := ⟨35, ["value"], ["value"], b__law_is_integer⟩
def b__law_is : Sms :=
(.cons (.ife (.isn (.var 1))
(.cons (.ret (.isn (.var 0)))
.nil)
.nil)
(.cons (.ife (.isi .bool (.var 1))
(.cons (.ret (.and (.isi .bool (.var 0)) (.cmp .eq (.var 0) (.var 1))))
.nil)
.nil)
(.cons (.ife (.isi .int (.var 1))
(.cons (.ret (.and (.call 29 (.cons (.var 0) .nil)) (.cmp .eq (.var 0) (.var 1))))
.nil)
.nil)
(.cons (.ife (.isi .str (.var 1))
(.cons (.ret (.and (.isi .str (.var 0)) (.cmp .eq (.var 0) (.var 1))))
.nil)
.nil)
(.cons (.ife (.or (.not (.isi .tuple (.var 0))) (.cmp .ne (.b1 .len (.var 0)) (.b1 .len (.var 1))))
(.cons (.ret (.bool false))
.nil)
.nil)
(.cons (.ret (.bi .all (.lc (.call 30 (.cons (.sub (.var 0) (.var 2)) (.cons (.sub (.var 1) (.var 2)) .nil))) (.nm 2) (.rng1 (.b1 .len (.var 1))) .no)))
.nil))))))
def d__law_is : CD := ⟨36, ["value", "due", "at"], ["value", "due"], b__law_is⟩
def b__law_circuit_L1 : Sms :=
(.cons (.asg (.nm 5) (.bin .mod (.b1 .int (.sub (.var 0) (.bin .mul (.int 2) (.var 4)))) (.bin .add (.var 1) (.var 4))))
(.cons (.asg (.nm 6) (.ife (.cmp .eq (.bin .mod (.b1 .int (.sub (.var 0) (.bin .add (.bin .mul (.int 2) (.var 4)) (.int 1)))) (.int 3)) (.int 0)) (.bin .sub (.bin .add (.var 1) (.var 4)) (.int 1)) (.bin .mod (.b1 .int (.sub (.var 0) (.bin .add (.bin .mul (.int 2) (.var 4)) (.int 1)))) (.bin .add (.var 1) (.var 4)))))
(.cons (.app 3 (.tup (.cons (.b2 .min (.var 5) (.var 6)) (.cons (.b2 .max (.var 5) (.var 6)) .nil))))
.nil)))
def b__law_circuit : Sms :=
(.cons (.own 3 (.lst .nil))
(.cons (.for (.nm 4) (.rng1 (.var 2)) b__law_circuit_L1)
(.cons (.ret (.bi .tuple (.var 3)))
.nil)))
def d__law_circuit : CD := ⟨37, ["draws", "n", "count", "found", "at", "i", "j"], ["draws", "n", "count"], b__law_circuit⟩
def b__law_answers_L1 : Sms :=
(.cons (.asg (.nm 3) (.bin .add (.var 3) (.lst (.cons (.bin .add (.var 4) (.tup (.cons (.int 0) .nil))) (.cons (.bin .add (.var 4) (.tup (.cons (.int 1) .nil))) .nil)))))
.nil)
def b__law_answers_L2 : Sms :=
(.cons (.asg (.nm 3) (.lst .nil))
(.cons (.for (.nm 4) (.ex (.var 1)) b__law_answers_L1)
(.cons (.asg (.nm 1) (.var 3))
.nil)))
def b__law_answers : Sms :=
(.cons (.asg (.nm 1) (.lst (.cons (.tup .nil) .nil)))
(.cons (.for (.nm 2) (.rng1 (.var 0)) b__law_answers_L2)
(.cons (.ret (.var 1))
.nil)))
def d__law_answers : CD := ⟨38, ["n", "found", "turn", "longer", "answers"], ["n"], b__law_answers⟩
def b__law_bits_L1 : Sms :=
(.cons (.app 2 (.ife (.and (.cmp .eq (.sub (.var 2) (.var 3)) (.int 1)) (.cmp .eq (.sub (.var 2) (.var 4)) (.int 1))) (.int 0) (.int 1)))
.nil)
def b__law_bits : Sms :=
(.cons (.own 2 (.bi .list (.var 1)))
(.cons (.for (.tp (.cons (.nm 3) (.cons (.nm 4) .nil))) (.ex (.var 0)) b__law_bits_L1)
(.cons (.frz [2] (.ret (.var 2)))
.nil)))
def d__law_bits : CD := ⟨39, ["circuit", "answers", "bits", "i", "j"], ["circuit", "answers"], b__law_bits⟩
def b__law_clauses_due_L1 : Sms :=
(.cons (.asg (.nm 5) (.bin .add (.bin .add (.var 0) (.var 3)) (.int 1)))
(.cons (.own 2 (.bin .add (.var 2) (.lst (.cons (.tup (.cons (.bin .add (.sub (.var 4) (.int 0)) (.int 1)) (.cons (.var 5) .nil))) (.cons (.tup (.cons (.bin .add (.sub (.var 4) (.int 1)) (.int 1)) (.cons (.var 5) .nil))) .nil)))))
(.cons (.ife (.cmp .eq (.sub (.var 4) (.int 0)) (.sub (.var 4) (.int 1)))
(.cons (.app 2 (.tup (.cons (.bin .sub (.int 0) (.var 5)) (.cons (.bin .sub (.bin .sub (.int 0) (.sub (.var 4) (.int 0))) (.int 1)) .nil))))
.nil)
(.cons (.app 2 (.tup (.cons (.bin .sub (.int 0) (.var 5)) (.cons (.bin .sub (.bin .sub (.int 0) (.sub (.var 4) (.int 1))) (.int 1)) (.cons (.bin .sub (.bin .sub (.int 0) (.sub (.var 4) (.int 0))) (.int 1)) .nil)))))
.nil))
.nil)))
def b__law_clauses_due : Sms :=
(.cons (.own 2 (.lst .nil))
(.cons (.for (.tp (.cons (.nm 3) (.cons (.nm 4) .nil))) (.enum (.var 1)) b__law_clauses_due_L1)
(.cons (.ret (.bi .tuple (.st false (.var 2))))
.nil)))
def d__law_clauses_due : CD := ⟨40, ["n", "circuit", "found", "at", "pair", "letter"], ["n", "circuit"], b__law_clauses_due⟩
def b__law_run : Sms :=
(.cons (.ret (.mt .join (.str "") (.lc (.sub (.str "ny") (.var 2)) (.nm 2) (.ex (.call 33 (.cons (.var 0) (.cons (.var 1) .nil)))) .no)))
.nil)
def d__law_run : CD := ⟨41, ["circuit", "answers", "bit"], ["circuit", "answers"], b__law_run⟩
def b__law_more : Sms :=
(.cons (.ret (.bi .tuple (.st false (.bin .add (.var 0) (.tup (.cons (.tup (.cons (.var 1) .nil)) .nil))))))
.nil)
def d__law_more : CD := ⟨42, ["clauses", "number"], ["clauses", "number"], b__law_more⟩
def b_law_L1 : Sms :=
(.cons (.ife (.not (.call 30 (.cons (.call 23 (.cons (.var 5) (.cons (.var 6) (.cons (.var 18) (.cons (.bin .add (.var 19) (.int 1)) (.cons (.var 23) .nil)))))) (.cons (.cmp .eq (.var 23) (.var 20)) .nil))))
(.cons (.ret (.bool false))
.nil)
.nil)
.nil)
def b_law_L2 : Sms :=
(.cons (.asg (.nm 20) (.mt .join (.str "") (.lc (.ife (.cmp .eq (.sub (.var 15) (.var 19)) (.str "y")) (.str "1") (.str "0")) (.nm 15) (.ex (.var 8)) .no)))
(.cons (.ife (.not (.call 30 (.cons (.call 2 (.cons (.var 3) (.cons (.var 4) (.cons (.var 19) .nil)))) (.cons (.var 20) .nil))))
(.cons (.ret (.bool false))
.nil)
.nil)
(.cons (.ife (.not (.call 30 (.cons (.call 22 (.cons (.var 5) (.cons (.var 6) (.cons (.var 18) (.cons (.bin .add (.var 19) (.int 1)) .nil))))) (.cons (.var 20) .nil))))
(.cons (.ret (.bool false))
.nil)
.nil)
(.cons (.ife (.not (.call 30 (.cons (.call 24 (.cons (.var 5) (.cons (.var 6) (.cons (.var 18) (.cons (.bin .add (.var 19) (.int 1)) .nil))))) (.cons .non .nil))))
(.cons (.ret (.bool false))
.nil)
.nil)
(.cons (.asg (.nm 21) (.bin .mod (.b1 .int (.sub (.var 2) (.bin .add (.int 20) (.var 19)))) (.b1 .len (.var 8))))
(.cons (.asg (.nm 22) (.bin .add (.bin .add (.sl (.var 20) .no (.yes (.var 21))) (.ife (.cmp .eq (.sub (.var 20) (.var 21)) (.str "1")) (.str "0") (.str "1"))) (.sl (.var 20) (.yes (.bin .add (.var 21) (.int 1))) .no)))
(.cons (.for (.nm 23) (.ex (.tup (.cons (.var 20) (.cons (.var 22) (.cons (.bin .add (.var 20) (.str "0")) .nil))))) b_law_L1)
(.cons (.ife (.not (.call 30 (.cons (.call 26 (.cons (.var 3) (.cons (.var 20) (.cons (.sub (.call 32 (.cons (.var 3) .nil)) (.var 21)) .nil)))) (.cons (.sub (.var 20) (.var 21)) .nil))))
(.cons (.ret (.bool false))
.nil)
.nil)
.nil))))))))
def b_law_L3 : Sms :=
(.cons (.asg (.nm 16) (.lc (.var 15) (.nm 15) (.ex (.var 8)) (.yes (.cmp .eq (.sub (.var 15) (.bin .sub (.var 5) (.int 1))) (.var 14)))))
(.cons (.asg (.nm 17) (.call 36 (.cons (.var 6) (.cons (.var 13) .nil))))
(.cons (.ife (.not (.call 30 (.cons (.call 11 (.cons (.var 5) (.cons (.var 17) .nil))) (.cons (.b1 .len (.var 16)) .nil))))
(.cons (.ret (.bool false))
.nil)
.nil)
(.cons (.ife (.not (.call 30 (.cons (.call 10 (.cons (.var 5) (.cons (.var 17) .nil))) (.cons (.ife (.cmp .gt (.b1 .len (.var 16)) (.int 0)) (.sub (.var 16) (.int 0)) .non) .nil))))
(.cons (.ret (.bool false))
.nil)
.nil)
.nil))))
def b_law_L4 : Sms :=
(.cons (.asg (.nm 2) (.call 28 (.cons (.call 27 (.cons (.var 0) (.cons (.var 1) .nil))) (.cons (.int 30) .nil))))
(.cons (.asg (.nm 3) (.bin .add (.int 1) (.bin .mod (.b1 .int (.sub (.var 2) (.int 0))) (.int 3))))
(.cons (.asg (.nm 4) (.call 31 (.cons (.sl (.var 2) (.yes (.int 4)) .no) (.cons (.var 3) (.cons (.bin .add (.int 1) (.bin .mod (.b1 .int (.sub (.var 2) (.int 1))) (.int 4))) .nil)))))
(.cons (.asg (.nm 5) (.bin .add (.var 3) (.b1 .len (.var 4))))
(.cons (.asg (.nm 6) (.call 34 (.cons (.var 3) (.cons (.var 4) .nil))))
(.cons (.ife (.not (.call 30 (.cons (.call 3 (.cons (.var 3) (.cons (.var 4) .nil))) (.cons (.var 6) .nil))))
(.cons (.ret (.bool false))
.nil)
.nil)
(.cons (.asg (.nm 8) (.lc (.call 35 (.cons (.var 4) (.cons (.var 7) .nil))) (.nm 7) (.ex (.call 32 (.cons (.var 3) .nil))) .no))
(.cons (.ife (.not (.call 30 (.cons (.call 11 (.cons (.var 5) (.cons (.var 6) .nil))) (.cons (.b1 .len (.var 8)) .nil))))
(.cons (.ret (.bool false))
.nil)
.nil)
(.cons (.ife (.not (.call 30 (.cons (.call 10 (.cons (.var 5) (.cons (.var 6) .nil))) (.cons (.sub (.var 8) (.int 0)) .nil))))
(.cons (.ret (.bool false))
.nil)
.nil)
(.cons (.ife (.not (.bi .all (.lc (.call 30 (.cons (.call 7 (.cons (.var 6) (.cons (.var 9) .nil))) (.cons (.bool true) .nil))) (.nm 9) (.ex (.var 8)) .no)))
(.cons (.ret (.bool false))
.nil)
.nil)
(.cons (.ife (.not (.bi .all (.lc (.call 30 (.cons (.call 5 (.cons (.var 10) .nil)) (.cons (.bool true) .nil))) (.nm 10) (.ex (.var 6)) .no)))
(.cons (.ret (.bool false))
.nil)
.nil)
(.cons (.asg (.nm 9) (.sub (.var 8) (.bin .mod (.b1 .int (.sub (.var 2) (.int 2))) (.b1 .len (.var 8)))))
(.cons (.asg (.nm 11) (.bin .add (.var 3) (.bin .mod (.b1 .int (.sub (.var 2) (.int 3))) (.b1 .len (.var 4)))))
(.cons (.asg (.nm 12) (.bin .add (.bin .add (.sl (.var 9) .no (.yes (.var 11))) (.ife (.cmp .eq (.sub (.var 9) (.var 11)) (.str "y")) (.str "n") (.str "y"))) (.sl (.var 9) (.yes (.bin .add (.var 11) (.int 1))) .no)))
(.cons (.ife (.not (.call 30 (.cons (.call 7 (.cons (.var 6) (.cons (.var 12) .nil))) (.cons (.bool false) .nil))))
(.cons (.ret (.bool false))
.nil)
.nil)
(.cons (.for (.tp (.cons (.nm 13) (.cons (.nm 14) .nil))) (.ex (.tup (.cons (.tup (.cons (.var 5) (.cons (.str "y") .nil))) (.cons (.tup (.cons (.bin .sub (.int 0) (.var 5)) (.cons (.str "n") .nil))) .nil)))) b_law_L3)
(.cons (.asg (.nm 18) (.conv false (.rng2 (.int 1) (.bin .add (.var 3) (.int 1)))))
(.cons (.for (.nm 19) (.rng1 (.var 5)) b_law_L2)
.nil))))))))))))))))))
def b_law : Sms :=
(.cons (.for (.nm 1) (.rng1 (.int 2)) b_law_L4)
(.cons (.ret (.bool true))
.nil))
def d_law : CD := ⟨43, ["script", "turn", "draws", "n", "circuit", "letters", "clauses", "answers", "runs", "run", "clause", "at", "turned", "number", "sign", "some", "good", "more", "first", "wire", "function", "place", "other", "text"], ["script"], b_law⟩
def D : List CD := [d_answers_in_order, d_run_wires, d_wire_function, d_clauses_of_circuit, d_is_ascending, d_is_clause, d_is_met_by, d_is_met, d_all_cases, d_good_cases, d_told_case, d_number_of_cases, d_fits_number, d_fits_all, d_fitting_cases, d_signs_at, d_place_of_signs, d_is_bits, d_told_junction, d_is_go_between, d_told_go_between, d_with_clause, d_told_definition, d_is_definition, d_told_double, d_place_of, d_value_at, d__law_cell, d__law_draws, d__law_is_integer, d__law_is, d__law_circuit, d__law_answers, d__law_bits, d__law_clauses_due, d__law_run, d__law_more, d_law]
abbrev P0 : Program := PySem.Challenge.pw_kindhall_k41_whole_circuits_and_clauses
theorem ok_answers_in_order_d : DOk P0 D d_answers_in_order := ⟨by kernel_rfl, ⟨by kernel_rfl, by kernel_rfl, by kernel_rfl, by decide +kernel, by decide +kernel, by decide +kernel, by decide +kernel⟩, fun _ _ _ _ _ _ us hl => match us, hl with | [_], _ => rfl⟩
theorem ok_run_wires_d : DOk P0 D d_run_wires := ⟨by kernel_rfl, ⟨by kernel_rfl, by kernel_rfl, by kernel_rfl, by decide +kernel, by decide +kernel, by decide +kernel, by decide +kernel⟩, fun _ _ _ _ _ _ us hl => match us, hl with | [_, _], _ => rfl⟩
theorem ok_wire_function_d : DOk P0 D d_wire_function := ⟨by kernel_rfl, ⟨by kernel_rfl, by kernel_rfl, by kernel_rfl, by decide +kernel, by decide +kernel, by decide +kernel, by decide +kernel⟩, fun _ _ _ _ _ _ us hl => match us, hl with | [_, _, _], _ => rfl⟩
theorem ok_clauses_of_circuit_d : DOk P0 D d_clauses_of_circuit := ⟨by kernel_rfl, ⟨by kernel_rfl, by kernel_rfl, by kernel_rfl, by decide +kernel, by decide +kernel, by decide +kernel, by decide +kernel⟩, fun _ _ _ _ _ _ us hl => match us, hl with | [_, _], _ => rfl⟩
theorem ok_is_ascending_d : DOk P0 D d_is_ascending := ⟨by kernel_rfl, ⟨by kernel_rfl, by kernel_rfl, by kernel_rfl, by decide +kernel, by decide +kernel, by decide +kernel, by decide +kernel⟩, fun _ _ _ _ _ _ us hl => match us, hl with | [_], _ => rfl⟩
theorem ok_is_clause_d : DOk P0 D d_is_clause := ⟨by kernel_rfl, ⟨by kernel_rfl, by kernel_rfl, by kernel_rfl, by decide +kernel, by decide +kernel, by decide +kernel, by decide +kernel⟩, fun _ _ _ _ _ _ us hl => match us, hl with | [_], _ => rfl⟩
theorem ok_is_met_by_d : DOk P0 D d_is_met_by := ⟨by kernel_rfl, ⟨by kernel_rfl, by kernel_rfl, by kernel_rfl, by decide +kernel, by decide +kernel, by decide +kernel, by decide +kernel⟩, fun _ _ _ _ _ _ us hl => match us, hl with | [_, _], _ => rfl⟩
theorem ok_is_met_d : DOk P0 D d_is_met := ⟨by kernel_rfl, ⟨by kernel_rfl, by kernel_rfl, by kernel_rfl, by decide +kernel, by decide +kernel, by decide +kernel, by decide +kernel⟩, fun _ _ _ _ _ _ us hl => match us, hl with | [_, _], _ => rfl⟩
theorem ok_all_cases_d : DOk P0 D d_all_cases := ⟨by kernel_rfl, ⟨by kernel_rfl, by kernel_rfl, by kernel_rfl, by decide +kernel, by decide +kernel, by decide +kernel, by decide +kernel⟩, fun _ _ _ _ _ _ us hl => match us, hl with | [_], _ => rfl⟩
theorem ok_good_cases_d : DOk P0 D d_good_cases := ⟨by kernel_rfl, ⟨by kernel_rfl, by kernel_rfl, by kernel_rfl, by decide +kernel, by decide +kernel, by decide +kernel, by decide +kernel⟩, fun _ _ _ _ _ _ us hl => match us, hl with | [_, _], _ => rfl⟩
theorem ok_told_case_d : DOk P0 D d_told_case := ⟨by kernel_rfl, ⟨by kernel_rfl, by kernel_rfl, by kernel_rfl, by decide +kernel, by decide +kernel, by decide +kernel, by decide +kernel⟩, fun _ _ _ _ _ _ us hl => match us, hl with | [_, _], _ => rfl⟩
theorem ok_number_of_cases_d : DOk P0 D d_number_of_cases := ⟨by kernel_rfl, ⟨by kernel_rfl, by kernel_rfl, by kernel_rfl, by decide +kernel, by decide +kernel, by decide +kernel, by decide +kernel⟩, fun _ _ _ _ _ _ us hl => match us, hl with | [_, _], _ => rfl⟩
theorem ok_fits_number_d : DOk P0 D d_fits_number := ⟨by kernel_rfl, ⟨by kernel_rfl, by kernel_rfl, by kernel_rfl, by decide +kernel, by decide +kernel, by decide +kernel, by decide +kernel⟩, fun _ _ _ _ _ _ us hl => match us, hl with | [_, _], _ => rfl⟩
theorem ok_fits_all_d : DOk P0 D d_fits_all := ⟨by kernel_rfl, ⟨by kernel_rfl, by kernel_rfl, by kernel_rfl, by decide +kernel, by decide +kernel, by decide +kernel, by decide +kernel⟩, fun _ _ _ _ _ _ us hl => match us, hl with | [_, _], _ => rfl⟩
theorem ok_fitting_cases_d : DOk P0 D d_fitting_cases := ⟨by kernel_rfl, ⟨by kernel_rfl, by kernel_rfl, by kernel_rfl, by decide +kernel, by decide +kernel, by decide +kernel, by decide +kernel⟩, fun _ _ _ _ _ _ us hl => match us, hl with | [_, _], _ => rfl⟩
theorem ok_signs_at_d : DOk P0 D d_signs_at := ⟨by kernel_rfl, ⟨by kernel_rfl, by kernel_rfl, by kernel_rfl, by decide +kernel, by decide +kernel, by decide +kernel, by decide +kernel⟩, fun _ _ _ _ _ _ us hl => match us, hl with | [_, _], _ => rfl⟩
theorem ok_place_of_signs_d : DOk P0 D d_place_of_signs := ⟨by kernel_rfl, ⟨by kernel_rfl, by kernel_rfl, by kernel_rfl, by decide +kernel, by decide +kernel, by decide +kernel, by decide +kernel⟩, fun _ _ _ _ _ _ us hl => match us, hl with | [_], _ => rfl⟩
theorem ok_is_bits_d : DOk P0 D d_is_bits := ⟨by kernel_rfl, ⟨by kernel_rfl, by kernel_rfl, by kernel_rfl, by decide +kernel, by decide +kernel, by decide +kernel, by decide +kernel⟩, fun _ _ _ _ _ _ us hl => match us, hl with | [_, _], _ => rfl⟩
theorem ok_told_junction_d : DOk P0 D d_told_junction := ⟨by kernel_rfl, ⟨by kernel_rfl, by kernel_rfl, by kernel_rfl, by decide +kernel, by decide +kernel, by decide +kernel, by decide +kernel⟩, fun _ _ _ _ _ _ us hl => match us, hl with | [_, _, _, _], _ => rfl⟩
theorem ok_is_go_between_d : DOk P0 D d_is_go_between := ⟨by kernel_rfl, ⟨by kernel_rfl, by kernel_rfl, by kernel_rfl, by decide +kernel, by decide +kernel, by decide +kernel, by decide +kernel⟩, fun _ _ _ _ _ _ us hl => match us, hl with | [_, _, _, _, _], _ => rfl⟩
theorem ok_told_go_between_d : DOk P0 D d_told_go_between := ⟨by kernel_rfl, ⟨by kernel_rfl, by kernel_rfl, by kernel_rfl, by decide +kernel, by decide +kernel, by decide +kernel, by decide +kernel⟩, fun _ _ _ _ _ _ us hl => match us, hl with | [_, _, _, _], _ => rfl⟩
theorem ok_with_clause_d : DOk P0 D d_with_clause := ⟨by kernel_rfl, ⟨by kernel_rfl, by kernel_rfl, by kernel_rfl, by decide +kernel, by decide +kernel, by decide +kernel, by decide +kernel⟩, fun _ _ _ _ _ _ us hl => match us, hl with | [_, _], _ => rfl⟩
theorem ok_told_definition_d : DOk P0 D d_told_definition := ⟨by kernel_rfl, ⟨by kernel_rfl, by kernel_rfl, by kernel_rfl, by decide +kernel, by decide +kernel, by decide +kernel, by decide +kernel⟩, fun _ _ _ _ _ _ us hl => match us, hl with | [_, _, _, _], _ => rfl⟩
theorem ok_is_definition_d : DOk P0 D d_is_definition := ⟨by kernel_rfl, ⟨by kernel_rfl, by kernel_rfl, by kernel_rfl, by decide +kernel, by decide +kernel, by decide +kernel, by decide +kernel⟩, fun _ _ _ _ _ _ us hl => match us, hl with | [_, _, _, _, _], _ => rfl⟩
theorem ok_told_double_d : DOk P0 D d_told_double := ⟨by kernel_rfl, ⟨by kernel_rfl, by kernel_rfl, by kernel_rfl, by decide +kernel, by decide +kernel, by decide +kernel, by decide +kernel⟩, fun _ _ _ _ _ _ us hl => match us, hl with | [_, _, _, _], _ => rfl⟩
theorem ok_place_of_d : DOk P0 D d_place_of := ⟨by kernel_rfl, ⟨by kernel_rfl, by kernel_rfl, by kernel_rfl, by decide +kernel, by decide +kernel, by decide +kernel, by decide +kernel⟩, fun _ _ _ _ _ _ us hl => match us, hl with | [_], _ => rfl⟩
theorem ok_value_at_d : DOk P0 D d_value_at := ⟨by kernel_rfl, ⟨by kernel_rfl, by kernel_rfl, by kernel_rfl, by decide +kernel, by decide +kernel, by decide +kernel, by decide +kernel⟩, fun _ _ _ _ _ _ us hl => match us, hl with | [_, _, _], _ => rfl⟩
theorem ok__law_cell_d : DOk P0 D d__law_cell := ⟨by kernel_rfl, ⟨by kernel_rfl, by kernel_rfl, by kernel_rfl, by decide +kernel, by decide +kernel, by decide +kernel, by decide +kernel⟩, fun _ _ _ _ _ _ us hl => match us, hl with | [_, _], _ => rfl⟩
theorem ok__law_draws_d : DOk P0 D d__law_draws := ⟨by kernel_rfl, ⟨by kernel_rfl, by kernel_rfl, by kernel_rfl, by decide +kernel, by decide +kernel, by decide +kernel, by decide +kernel⟩, fun _ _ _ _ _ _ us hl => match us, hl with | [_, _], _ => rfl⟩
theorem ok__law_is_integer_d : DOk P0 D d__law_is_integer := ⟨by kernel_rfl, ⟨by kernel_rfl, by kernel_rfl, by kernel_rfl, by decide +kernel, by decide +kernel, by decide +kernel, by decide +kernel⟩, fun _ _ _ _ _ _ us hl => match us, hl with | [_], _ => rfl⟩
theorem ok__law_is_d : DOk P0 D d__law_is := ⟨by kernel_rfl, ⟨by kernel_rfl, by kernel_rfl, by kernel_rfl, by decide +kernel, by decide +kernel, by decide +kernel, by decide +kernel⟩, fun _ _ _ _ _ _ us hl => match us, hl with | [_, _], _ => rfl⟩
theorem ok__law_circuit_d : DOk P0 D d__law_circuit := ⟨by kernel_rfl, ⟨by kernel_rfl, by kernel_rfl, by kernel_rfl, by decide +kernel, by decide +kernel, by decide +kernel, by decide +kernel⟩, fun _ _ _ _ _ _ us hl => match us, hl with | [_, _, _], _ => rfl⟩
theorem ok__law_answers_d : DOk P0 D d__law_answers := ⟨by kernel_rfl, ⟨by kernel_rfl, by kernel_rfl, by kernel_rfl, by decide +kernel, by decide +kernel, by decide +kernel, by decide +kernel⟩, fun _ _ _ _ _ _ us hl => match us, hl with | [_], _ => rfl⟩
theorem ok__law_bits_d : DOk P0 D d__law_bits := ⟨by kernel_rfl, ⟨by kernel_rfl, by kernel_rfl, by kernel_rfl, by decide +kernel, by decide +kernel, by decide +kernel, by decide +kernel⟩, fun _ _ _ _ _ _ us hl => match us, hl with | [_, _], _ => rfl⟩
theorem ok__law_clauses_due_d : DOk P0 D d__law_clauses_due := ⟨by kernel_rfl, ⟨by kernel_rfl, by kernel_rfl, by kernel_rfl, by decide +kernel, by decide +kernel, by decide +kernel, by decide +kernel⟩, fun _ _ _ _ _ _ us hl => match us, hl with | [_, _], _ => rfl⟩
theorem ok__law_run_d : DOk P0 D d__law_run := ⟨by kernel_rfl, ⟨by kernel_rfl, by kernel_rfl, by kernel_rfl, by decide +kernel, by decide +kernel, by decide +kernel, by decide +kernel⟩, fun _ _ _ _ _ _ us hl => match us, hl with | [_, _], _ => rfl⟩
theorem ok__law_more_d : DOk P0 D d__law_more := ⟨by kernel_rfl, ⟨by kernel_rfl, by kernel_rfl, by kernel_rfl, by decide +kernel, by decide +kernel, by decide +kernel, by decide +kernel⟩, fun _ _ _ _ _ _ us hl => match us, hl with | [_, _], _ => rfl⟩
theorem ok_law_d : DOk P0 D d_law := ⟨by kernel_rfl, ⟨by kernel_rfl, by kernel_rfl, by kernel_rfl, by decide +kernel, by decide +kernel, by decide +kernel, by decide +kernel⟩, fun _ _ _ _ _ _ us hl => match us, hl with | [_], _ => rfl⟩
theorem okD : ∀ d ∈ D, DOk P0 D d := by
  intro d hd
  simp only [D, List.mem_cons, List.not_mem_nil, or_false] at hd
  rcases hd with rfl | rfl | rfl | rfl | rfl | rfl | rfl | rfl | rfl | rfl | rfl | rfl | rfl | rfl | rfl | rfl | rfl | rfl | rfl | rfl | rfl | rfl | rfl | rfl | rfl | rfl | rfl | rfl | rfl | rfl | rfl | rfl | rfl | rfl | rfl | rfl | rfl | rfl
  · exact ok_answers_in_order_d
  · exact ok_run_wires_d
  · exact ok_wire_function_d
  · exact ok_clauses_of_circuit_d
  · exact ok_is_ascending_d
  · exact ok_is_clause_d
  · exact ok_is_met_by_d
  · exact ok_is_met_d
  · exact ok_all_cases_d
  · exact ok_good_cases_d
  · exact ok_told_case_d
  · exact ok_number_of_cases_d
  · exact ok_fits_number_d
  · exact ok_fits_all_d
  · exact ok_fitting_cases_d
  · exact ok_signs_at_d
  · exact ok_place_of_signs_d
  · exact ok_is_bits_d
  · exact ok_told_junction_d
  · exact ok_is_go_between_d
  · exact ok_told_go_between_d
  · exact ok_with_clause_d
  · exact ok_told_definition_d
  · exact ok_is_definition_d
  · exact ok_told_double_d
  · exact ok_place_of_d
  · exact ok_value_at_d
  · exact ok__law_cell_d
  · exact ok__law_draws_d
  · exact ok__law_is_integer_d
  · exact ok__law_is_d
  · exact ok__law_circuit_d
  · exact ok__law_answers_d
  · exact ok__law_bits_d
  · exact ok__law_clauses_due_d
  · exact ok__law_run_d
  · exact ok__law_more_d
  · exact ok_law_d
abbrev R : PySem.W.OpenRow := PySem.W.OpenLaw.row PySem.Challenge.rw_kindhall_k41_whole_circuits_and_clauses
abbrev hk : PySem.W.Hook := hkOf 4 P0 D
def ob (s : PySem.W.SharedT) : He.AlX := He.obsX 4 (faOf P0 D) (fnOfD P0 D) [] (tfOf P0 D) (fun _ => true) (HandSHeadRun.getT s)
theorem ob_eq (s : PySem.W.SharedT) : ob s = hk.obs s.abs := He.obsX_eq (HandSHeadRun.getT_eq s)
def loose : List Str := [Str.ofString "answers_in_order", Str.ofString "run_wires", Str.ofString "wire_function", Str.ofString "clauses_of_circuit", Str.ofString "is_ascending", Str.ofString "is_clause", Str.ofString "is_met_by", Str.ofString "is_met", Str.ofString "all_cases", Str.ofString "good_cases", Str.ofString "told_case", Str.ofString "number_of_cases", Str.ofString "fits_number", Str.ofString "fits_all", Str.ofString "fitting_cases", Str.ofString "signs_at", Str.ofString "place_of_signs", Str.ofString "is_bits", Str.ofString "told_junction", Str.ofString "is_go_between", Str.ofString "told_go_between", Str.ofString "with_clause", Str.ofString "told_definition", Str.ofString "is_definition", Str.ofString "told_double", Str.ofString "place_of", Str.ofString "value_at", Str.ofString "_law_cell", Str.ofString "_law_draws", Str.ofString "_law_is_integer", Str.ofString "_law_is", Str.ofString "_law_circuit", Str.ofString "_law_answers", Str.ofString "_law_bits", Str.ofString "_law_clauses_due", Str.ofString "_law_run", Str.ofString "_law_more", Str.ofString "__name__"]
theorem run (w : World) : HandSHeadRun.RunEq R (PySem.W.view R.prog [43]) hk ob 4000 loose w := by
  intro os
  kernel_rfl
end LawX

set_option maxHeartbeats 8000000
noncomputable section
namespace LawX
open PySem Ce Cs Pu Sh
theorem isD : IsD D Ws 30 := isD_of (j := 29) (k := 30) rfl rfl rfl rfl rfl rfl rfl rfl
theorem isInt_I {n : Nat} (hn : 1 ≤ n) {x : Int} : den Ws D n 29 [.int x] = some (.bool true) := by
  obtain ⟨m, rfl, _⟩ := dd hn
  exact (den_run (d := d__law_is_integer) rfl rfl).trans (isI_run (q := 0) (d := .int x) rfl)
theorem isInt_B {n : Nat} (hn : 1 ≤ n) {x : Bool} : den Ws D n 29 [.bool x] = some (.bool false) := by
  obtain ⟨m, rfl, _⟩ := dd hn
  exact (den_run (d := d__law_is_integer) rfl rfl).trans (isI_run (q := 0) (d := .bool x) rfl)
theorem t__law_cell {dp_ : Nat} (hn : 1 ≤ dp_) (script : (List Int)) (k : Int) (h : ok__law_cell script k) : den Ws D dp_ 27 [(tL tI) script, tI k] = some (tI (sh__law_cell script k)) := by
  obtain ⟨m_, rfl, hm_⟩ := dd hn
  unfold ok__law_cell at h
  refine (den_run (d := d__law_cell) rfl rfl).trans ?_
  show runD (den Ws D m_) Ws 2 b__law_cell _ = _
  refine SK.run (ρ := [.fz ((tL tI) script), .fz (tI k)]) rfl ?_
  refine SK.iteL (t := (decide (k < ((script).length : Int)))) (TS.bl (EV.cmp (dx := tI k) (dy := tI ((script).length : Int)) (EV.var rfl) (EV.lenL (e := tI) (EV.var rfl)) C.lt)) h (fun hq1_ h => ?_) (fun hq1_ h => ?_)
  · have h2_ := h
    exact SK.ret (d := tI (gi script k)) (EV.giL (e := tI) (EV.var rfl) (EV.var rfl) h2_) rfl
  · refine SK.done ?_
    exact SK.ret (d := tI (((5 : Int) * k) + (3 : Int))) (EV.add (EV.mul EV.int (EV.var rfl) (mOk.l (by decide))) EV.int) rfl
abbrev R__law_draws_L1 (digits : Bool) (seed : Int) : (Int × (List Int)) → Rho := fun s1_ => [.un, .un, .fz (tI s1_.1), .fz (tB digits), .fz (tI seed), .ow ((tL tI) s1_.2), .un, .un]
theorem t__law_draws_L1 {m_ : Nat} (hm_ : 0 ≤ m_) (digits : Bool) (seed : Int) (s1_ : Int × (List Int)) (k : Int) (h : ok__law_draws_L1 (digits) (seed) s1_ k) : SK (den Ws D m_) Ws [b__law_draws_L1] [.un, .un, .fz (tI s1_.1), .fz (tB digits), .fz (tI seed), .ow ((tL tI) s1_.2), .fz (tI k), .un] (NC (R__law_draws_L1 (digits) (seed)) (sh__law_draws_L1 (digits) (seed) s1_ k)) := by
  unfold ok__law_draws_L1 at h
  have h9_ := h
  refine SK.join (S := Int × (List Int)) (t := (digits && (decide ((0 : Int) < s1_.1)))) (R := fun j5_ => [.un, .un, .fz (tI j5_.1), .fz (tB digits), .fz (tI seed), .ow ((tL tI) j5_.2), .fz (tI k), .un]) (TS.bl (EV.and (EV.var rfl) (fun hq3_ => (EV.cmp (dx := tI s1_.1) (dy := tI (0 : Int)) (EV.var rfl) EV.int C.gt)))) h9_ (fun hq4_ h => ?_) (fun hq4_ h => ?_) (okk := fun _ => True) trivial ?_
  · have h6_ := h
    refine SK.appL (en := tI) (xs := s1_.2) (x := (s1_.1 % (5040 : Int))) (R := fun draws => [.un, .un, .fz (tI s1_.1), .fz (tB digits), .fz (tI seed), .ow ((tL tI) draws), .fz (tI k), .un]) (EV.mod (EV.toInt (EV.var rfl)) EV.int (by decide)) rfl h6_ (fun _ => rfl) (okk := fun _ => True) trivial ?_
    intro draws _
    refine SK.asgL (en := tI) (v := (s1_.1 / (5040 : Int))) (R := fun rest => [.un, .un, .fz (tI rest), .fz (tB digits), .fz (tI seed), .ow ((tL tI) draws), .fz (tI k), .un]) (EV.fdiv (EV.var rfl) EV.int (by decide)) (fun _ => rfl) (okk := fun _ => True) trivial ?_
    intro rest _
    exact SK.done (SK.nil fun _ l_ => Le.trans (by (repeat (first | exact Le.nil | refine Le.same ?_ | refine Le.un ?_))) l_)
  · refine SK.asgL (en := tI) (v := ((((seed * (48271 : Int)) + ((k + (1 : Int)) * (69621 : Int))) + (11 : Int)) % (2147483647 : Int))) (R := fun mixed => [.un, .un, .fz (tI s1_.1), .fz (tB digits), .fz (tI seed), .ow ((tL tI) s1_.2), .fz (tI k), .fz (tI mixed)]) (EV.mod (EV.toInt (EV.add (EV.add (EV.mul (EV.var rfl) EV.int (mOk.r (by decide))) (EV.mul (EV.add (EV.var rfl) EV.int) EV.int (mOk.r (by decide)))) EV.int)) EV.int (by decide)) (fun _ => rfl) h ?_
    intro mixed h
    obtain ⟨h8_, h⟩ := h
    refine SK.asgL (en := tI) (v := (((mixed * mixed) + ((40692 : Int) * (k + (3 : Int)))) % (2147483399 : Int))) (R := fun mixed => [.un, .un, .fz (tI s1_.1), .fz (tB digits), .fz (tI seed), .ow ((tL tI) s1_.2), .fz (tI k), .fz (tI mixed)]) (EV.mod (EV.toInt (EV.add (EV.mul (EV.var rfl) (EV.var rfl) h8_) (EV.mul EV.int (EV.add (EV.var rfl) EV.int) (mOk.l (by decide))))) EV.int (by decide)) (fun _ => rfl) h ?_
    intro mixed h
    have h7_ := h
    refine SK.appL (en := tI) (xs := s1_.2) (x := ((mixed / (64 : Int)) % (5040 : Int))) (R := fun draws => [.un, .un, .fz (tI s1_.1), .fz (tB digits), .fz (tI seed), .ow ((tL tI) draws), .fz (tI k), .fz (tI mixed)]) (EV.mod (EV.toInt (EV.fdiv (EV.var rfl) EV.int (by decide))) EV.int (by decide)) rfl h7_ (fun _ => rfl) (okk := fun _ => True) trivial ?_
    intro draws _
    exact SK.done (SK.nil fun _ l_ => Le.trans (by (repeat (first | exact Le.nil | refine Le.same ?_ | refine Le.un ?_))) l_)
  · intro j5_ h
    exact SK.done (SK.nil fun _ l_ => Le.trans (by (repeat (first | exact Le.nil | refine Le.same ?_ | refine Le.un ?_))) l_)
theorem t__law_draws {dp_ : Nat} (hn : 1 ≤ dp_) (cell : Int) (count : Int) (h : ok__law_draws cell count) : den Ws D dp_ 28 [tI cell, tI count] = some ((tL tI) (sh__law_draws cell count)) := by
  obtain ⟨m_, rfl, hm_⟩ := dd hn
  unfold ok__law_draws at h
  refine (den_run (d := d__law_draws) rfl rfl).trans ?_
  show runD (den Ws D m_) Ws 8 b__law_draws _ = _
  refine SK.run (ρ := [.fz (tI cell), .fz (tI count), .un, .un, .un, .un, .un, .un]) rfl ?_
  refine SK.asgL (en := tI) (v := ((cell).natAbs : Int)) (R := fun rest => [.fz (tI cell), .fz (tI count), .fz (tI rest), .un, .un, .un, .un, .un]) (EV.abs (EV.toInt (EV.var rfl))) (fun _ => rfl) h ?_
  intro rest h
  refine SK.asgL (en := tB) (v := (decide (((10 : Int) ^ 18) ≤ rest))) (R := fun digits => [.fz (tI cell), .fz (tI count), .fz (tI rest), .fz (tB digits), .un, .un, .un, .un]) (EV.cmp (dx := tI rest) (dy := tI ((10 : Int) ^ 18)) (EV.var rfl) (EV.powk 18 EV.int (by decide) (by decide)) C.ge) (fun _ => rfl) h ?_
  intro digits h
  refine SK.asgL (en := tI) (v := rest) (R := fun seed => [.fz (tI cell), .fz (tI count), .fz (tI rest), .fz (tB digits), .fz (tI seed), .un, .un, .un]) (EV.var rfl) (fun _ => rfl) h ?_
  intro seed h
  refine SK.ownL (en := (tL tI)) (v := ([] : (List Int))) (R := fun draws => [.fz (tI cell), .fz (tI count), .fz (tI rest), .fz (tB digits), .fz (tI seed), .ow ((tL tI) draws), .un, .un]) (EV.lst EVs.nil (Nat.le_of_ble_eq_true rfl)) rfl (Nat.le_of_ble_eq_true rfl) (fun _ => rfl) h ?_
  intro draws h
  obtain ⟨h11_, h12_⟩ := h
  refine SK.fold (S := Int × (List Int)) (ea := tI) (xs := (ivs (0 : Int) count)) (s0 := (rest, draws)) (step := (sh__law_draws_L1 (digits) (seed))) (ok := (ok__law_draws_L1 (digits) (seed))) (R := (R__law_draws_L1 (digits) (seed))) (R1 := (fun s1_ k => [.un, .un, .fz (tI s1_.1), .fz (tB digits), .fz (tI seed), .ow ((tL tI) s1_.2), .fz (tI k), .un])) (IT.rng1 (EV.var rfl) h11_) (by (repeat (first | exact Le.nil | refine Le.same ?_ | refine Le.un ?_))) (fun _ _ => rfl) h12_ (fun s1_ k _ h => (t__law_draws_L1 (by exact hm_) (digits) (seed)  s1_ k h)) (okk := fun _ => True) trivial ?_
  intro j10_ h
  refine SK.frz (ρ1 := [.un, .un, .fz (tI j10_.1), .fz (tB digits), .fz (tI seed), .fz ((tL tI) j10_.2), .un, .un]) rfl ?_
  exact SK.ret (d := (tL tI) j10_.2) (EV.var rfl) rfl
abbrev R__law_circuit_L1 (draws : (List Int)) (n : Int) : ((List (Int × Int))) → Rho := fun s1_ => [.fz ((tL tI) draws), .fz (tI n), .un, .ow ((tL (tP2 tI tI)) s1_), .un, .un, .un]
theorem t__law_circuit_L1 {m_ : Nat} (hm_ : 0 ≤ m_) (draws : (List Int)) (n : Int) (s1_ : (List (Int × Int))) (at_v : Int) (h : ok__law_circuit_L1 (draws) (n) s1_ at_v) : SK (den Ws D m_) Ws [b__law_circuit_L1] [.fz ((tL tI) draws), .fz (tI n), .un, .ow ((tL (tP2 tI tI)) s1_), .fz (tI at_v), .un, .un] (NC (R__law_circuit_L1 (draws) (n)) (sh__law_circuit_L1 (draws) (n) s1_ at_v)) := by
  unfold ok__law_circuit_L1 at h
  obtain ⟨h17_, h18_, h⟩ := h
  refine SK.asgL (en := tI) (v := ((gi draws ((2 : Int) * at_v)) % (n + at_v))) (R := fun i => [.fz ((tL tI) draws), .fz (tI n), .un, .ow ((tL (tP2 tI tI)) s1_), .fz (tI at_v), .fz (tI i), .un]) (EV.mod (EV.toInt (EV.giL (e := tI) (EV.var rfl) (EV.mul EV.int (EV.var rfl) (mOk.l (by decide))) h17_)) (EV.add (EV.var rfl) (EV.var rfl)) h18_) (fun _ => rfl) h ?_
  intro i h
  obtain ⟨h15_, h16_, h⟩ := h
  refine SK.asgL (en := tI) (v := (if (decide (((gi draws (((2 : Int) * at_v) + (1 : Int))) % (3 : Int)) = (0 : Int))) then ((n + at_v) - (1 : Int)) else ((gi draws (((2 : Int) * at_v) + (1 : Int))) % (n + at_v)))) (R := fun j => [.fz ((tL tI) draws), .fz (tI n), .un, .ow ((tL (tP2 tI tI)) s1_), .fz (tI at_v), .fz (tI i), .fz (tI j)]) (EV.ife (e := tI) (TS.bl (EV.cmp (dx := tI ((gi draws (((2 : Int) * at_v) + (1 : Int))) % (3 : Int))) (dy := tI (0 : Int)) (EV.mod (EV.toInt (EV.giL (e := tI) (EV.var rfl) (EV.add (EV.mul EV.int (EV.var rfl) (mOk.l (by decide))) EV.int) h15_)) EV.int (by decide)) EV.int (C.eq (e := tI) EqE.I))) (fun hq13_ => (EV.sub (EV.add (EV.var rfl) (EV.var rfl)) EV.int)) (fun hq13_ => (EV.mod (EV.toInt (EV.giL (e := tI) (EV.var rfl) (EV.add (EV.mul EV.int (EV.var rfl) (mOk.l (by decide))) EV.int) (h16_ hq13_).1)) (EV.add (EV.var rfl) (EV.var rfl)) (h16_ hq13_).2))) (fun _ => rfl) h ?_
  intro j h
  have h14_ := h
  refine SK.appL (en := (tP2 tI tI)) (xs := s1_) (x := ((min i j), (max i j))) (R := fun found => [.fz ((tL tI) draws), .fz (tI n), .un, .ow ((tL (tP2 tI tI)) found), .fz (tI at_v), .fz (tI i), .fz (tI j)]) (EV.tup (EVs.cons (EV.min2 (EV.var rfl) (EV.var rfl)) (EVs.cons (EV.max2 (EV.var rfl) (EV.var rfl)) EVs.nil)) (Nat.le_of_ble_eq_true rfl)) rfl h14_ (fun _ => rfl) (okk := fun _ => True) trivial ?_
  intro found _
  exact SK.done (SK.nil fun _ l_ => Le.trans (by (repeat (first | exact Le.nil | refine Le.same ?_ | refine Le.un ?_))) l_)
theorem t__law_circuit {dp_ : Nat} (hn : 1 ≤ dp_) (draws : (List Int)) (n : Int) (count : Int) (h : ok__law_circuit draws n count) : den Ws D dp_ 31 [(tL tI) draws, tI n, tI count] = some ((tT (tP2 tI tI)) (sh__law_circuit draws n count)) := by
  obtain ⟨m_, rfl, hm_⟩ := dd hn
  unfold ok__law_circuit at h
  refine (den_run (d := d__law_circuit) rfl rfl).trans ?_
  show runD (den Ws D m_) Ws 7 b__law_circuit _ = _
  refine SK.run (ρ := [.fz ((tL tI) draws), .fz (tI n), .fz (tI count), .un, .un, .un, .un]) rfl ?_
  refine SK.ownL (en := (tL (tP2 tI tI))) (v := ([] : (List (Int × Int)))) (R := fun found => [.fz ((tL tI) draws), .fz (tI n), .fz (tI count), .ow ((tL (tP2 tI tI)) found), .un, .un, .un]) (EV.lst EVs.nil (Nat.le_of_ble_eq_true rfl)) rfl (Nat.le_of_ble_eq_true rfl) (fun _ => rfl) h ?_
  intro found h
  obtain ⟨h19_, h20_⟩ := h
  refine SK.fold (S := (List (Int × Int))) (ea := tI) (xs := (ivs (0 : Int) count)) (s0 := found) (step := (sh__law_circuit_L1 (draws) (n))) (ok := (ok__law_circuit_L1 (draws) (n))) (R := (R__law_circuit_L1 (draws) (n))) (R1 := (fun s1_ at_v => [.fz ((tL tI) draws), .fz (tI n), .un, .ow ((tL (tP2 tI tI)) s1_), .fz (tI at_v), .un, .un])) (IT.rng1 (EV.var rfl) h19_) (by (repeat (first | exact Le.nil | refine Le.same ?_ | refine Le.un ?_))) (fun _ _ => rfl) h20_ (fun s1_ at_v _ h => (t__law_circuit_L1 (by exact hm_) (draws) (n)  s1_ at_v h)) (okk := fun _ => True) trivial ?_
  intro found h
  exact SK.ret (d := (tT (tP2 tI tI)) found) (EV.tupL (e := (tP2 tI tI)) (EV.vow rfl)) rfl
abbrev R__law_clauses_due_L1 (n : Int) : ((List (List Int))) → Rho := fun s1_ => [.fz (tI n), .un, .ow ((tL (tT tI)) s1_), .un, .un, .un]
theorem t__law_clauses_due_L1 {m_ : Nat} (hm_ : 0 ≤ m_) (n : Int) (s1_ : (List (List Int))) (q21_ : (Int × (Int × Int))) (h : ok__law_clauses_due_L1 (n) s1_ q21_) : SK (den Ws D m_) Ws [b__law_clauses_due_L1] [.fz (tI n), .un, .ow ((tL (tT tI)) s1_), .fz (tI q21_.1), .fz ((tP2 tI tI) q21_.2), .un] (NC (R__law_clauses_due_L1 (n)) (sh__law_clauses_due_L1 (n) s1_ q21_)) := by
  unfold ok__law_clauses_due_L1 at h
  refine SK.asgL (en := tI) (v := ((n + q21_.1) + (1 : Int))) (R := fun letter => [.fz (tI n), .un, .ow ((tL (tT tI)) s1_), .fz (tI q21_.1), .fz ((tP2 tI tI) q21_.2), .fz (tI letter)]) (EV.add (EV.add (EV.var rfl) (EV.var rfl)) EV.int) (fun _ => rfl) h ?_
  intro letter h
  obtain ⟨h26_, h⟩ := h
  refine SK.ownL (en := (tL (tT tI))) (v := (s1_ ++ [[((q21_.2).1 + (1 : Int)), letter], [((q21_.2).2 + (1 : Int)), letter]])) (R := fun found => [.fz (tI n), .un, .ow ((tL (tT tI)) found), .fz (tI q21_.1), .fz ((tP2 tI tI) q21_.2), .fz (tI letter)]) (EV.catL (e := (tT tI)) (EV.vow rfl) (EV.lst (EVs.cons (EV.tup (EVs.cons (EV.add (EV.ix (dx := (tP2 tI tI) q21_.2) (dy := tI (0)) (EV.var rfl) EV.int rfl) EV.int) (EVs.cons (EV.var rfl) EVs.nil)) (Nat.le_of_ble_eq_true rfl)) (EVs.cons (EV.tup (EVs.cons (EV.add (EV.ix (dx := (tP2 tI tI) q21_.2) (dy := tI (1)) (EV.var rfl) EV.int rfl) EV.int) (EVs.cons (EV.var rfl) EVs.nil)) (Nat.le_of_ble_eq_true rfl)) EVs.nil)) (Nat.le_of_ble_eq_true rfl)) h26_) rfl (Nat.le_of_ble_eq_true rfl) (fun _ => rfl) h ?_
  intro found h
  have h25_ := h
  refine SK.join (S := (List (List Int))) (t := (decide ((q21_.2).1 = (q21_.2).2))) (R := fun found => [.fz (tI n), .un, .ow ((tL (tT tI)) found), .fz (tI q21_.1), .fz ((tP2 tI tI) q21_.2), .fz (tI letter)]) (TS.bl (EV.cmp (dx := tI (q21_.2).1) (dy := tI (q21_.2).2) (EV.ix (dx := (tP2 tI tI) q21_.2) (dy := tI (0)) (EV.var rfl) EV.int rfl) (EV.ix (dx := (tP2 tI tI) q21_.2) (dy := tI (1)) (EV.var rfl) EV.int rfl) (C.eq (e := tI) EqE.I))) h25_ (fun hq22_ h => ?_) (fun hq22_ h => ?_) (okk := fun _ => True) trivial ?_
  · have h23_ := h
    refine SK.appL (en := (tT tI)) (xs := found) (x := [((0 : Int) - letter), (((0 : Int) - (q21_.2).1) - (1 : Int))]) (R := fun found => [.fz (tI n), .un, .ow ((tL (tT tI)) found), .fz (tI q21_.1), .fz ((tP2 tI tI) q21_.2), .fz (tI letter)]) (EV.tup (EVs.cons (EV.sub EV.int (EV.var rfl)) (EVs.cons (EV.sub (EV.sub EV.int (EV.ix (dx := (tP2 tI tI) q21_.2) (dy := tI (0)) (EV.var rfl) EV.int rfl)) EV.int) EVs.nil)) (Nat.le_of_ble_eq_true rfl)) rfl h23_ (fun _ => rfl) (okk := fun _ => True) trivial ?_
    intro found _
    exact SK.done (SK.nil fun _ l_ => Le.trans (by (repeat (first | exact Le.nil | refine Le.same ?_ | refine Le.un ?_))) l_)
  · have h24_ := h
    refine SK.appL (en := (tT tI)) (xs := found) (x := [((0 : Int) - letter), (((0 : Int) - (q21_.2).2) - (1 : Int)), (((0 : Int) - (q21_.2).1) - (1 : Int))]) (R := fun found => [.fz (tI n), .un, .ow ((tL (tT tI)) found), .fz (tI q21_.1), .fz ((tP2 tI tI) q21_.2), .fz (tI letter)]) (EV.tup (EVs.cons (EV.sub EV.int (EV.var rfl)) (EVs.cons (EV.sub (EV.sub EV.int (EV.ix (dx := (tP2 tI tI) q21_.2) (dy := tI (1)) (EV.var rfl) EV.int rfl)) EV.int) (EVs.cons (EV.sub (EV.sub EV.int (EV.ix (dx := (tP2 tI tI) q21_.2) (dy := tI (0)) (EV.var rfl) EV.int rfl)) EV.int) EVs.nil))) (Nat.le_of_ble_eq_true rfl)) rfl h24_ (fun _ => rfl) (okk := fun _ => True) trivial ?_
    intro found _
    exact SK.done (SK.nil fun _ l_ => Le.trans (by (repeat (first | exact Le.nil | refine Le.same ?_ | refine Le.un ?_))) l_)
  · intro found h
    exact SK.done (SK.nil fun _ l_ => Le.trans (by (repeat (first | exact Le.nil | refine Le.same ?_ | refine Le.un ?_))) l_)
theorem t__law_clauses_due {dp_ : Nat} (hn : 1 ≤ dp_) (n : Int) (circuit : (List (Int × Int))) (h : ok__law_clauses_due n circuit) : den Ws D dp_ 34 [tI n, (tT (tP2 tI tI)) circuit] = some ((tT (tT tI)) (sh__law_clauses_due n circuit)) := by
  obtain ⟨m_, rfl, hm_⟩ := dd hn
  unfold ok__law_clauses_due at h
  refine (den_run (d := d__law_clauses_due) rfl rfl).trans ?_
  show runD (den Ws D m_) Ws 6 b__law_clauses_due _ = _
  refine SK.run (ρ := [.fz (tI n), .fz ((tT (tP2 tI tI)) circuit), .un, .un, .un, .un]) rfl ?_
  refine SK.ownL (en := (tL (tT tI))) (v := ([] : (List (List Int)))) (R := fun found => [.fz (tI n), .fz ((tT (tP2 tI tI)) circuit), .ow ((tL (tT tI)) found), .un, .un, .un]) (EV.lst EVs.nil (Nat.le_of_ble_eq_true rfl)) rfl (Nat.le_of_ble_eq_true rfl) (fun _ => rfl) h ?_
  intro found h
  obtain ⟨h28_, h⟩ := h
  refine SK.fold (S := (List (List Int))) (ea := (tP2 tI (tP2 tI tI))) (xs := (enm circuit)) (s0 := found) (step := (sh__law_clauses_due_L1 (n))) (ok := (ok__law_clauses_due_L1 (n))) (R := (R__law_clauses_due_L1 (n))) (R1 := (fun s1_ q21_ => [.fz (tI n), .un, .ow ((tL (tT tI)) s1_), .fz (tI q21_.1), .fz ((tP2 tI tI) q21_.2), .un])) (IT.enumT (e := (tP2 tI tI)) (EV.var rfl)) (by (repeat (first | exact Le.nil | refine Le.same ?_ | refine Le.un ?_))) (fun _ _ => rfl) h28_ (fun s1_ q21_ _ h => (t__law_clauses_due_L1 (by exact hm_) (n)  s1_ q21_ h)) h ?_
  intro found h
  have h27_ := h
  exact SK.ret (d := (tT (tT tI)) (setT found)) (EV.tupL (e := (tT tI)) (EV.sortSetT (d := (tL (tT tI)) found) (EV.vow rfl) rfl h27_)) rfl
abbrev R_clauses_of_circuit_L1 (n : Int) : ((List (List Int))) → Rho := fun s1_ => [.fz (tI n), .un, .ow ((tL (tT tI)) s1_), .un, .un, .un, .un]
theorem t_clauses_of_circuit_L1 {m_ : Nat} (hm_ : 0 ≤ m_) (n : Int) (s1_ : (List (List Int))) (q29_ : (Int × (Int × Int))) (h : ok_clauses_of_circuit_L1 (n) s1_ q29_) : SK (den Ws D m_) Ws [b_clauses_of_circuit_L1] [.fz (tI n), .un, .ow ((tL (tT tI)) s1_), .fz (tI q29_.1), .fz (tI q29_.2.1), .fz (tI q29_.2.2), .un] (NC (R_clauses_of_circuit_L1 (n)) (sh_clauses_of_circuit_L1 (n) s1_ q29_)) := by
  unfold ok_clauses_of_circuit_L1 at h
  refine SK.asgL (en := tI) (v := ((n + q29_.1) + (1 : Int))) (R := fun letter => [.fz (tI n), .un, .ow ((tL (tT tI)) s1_), .fz (tI q29_.1), .fz (tI q29_.2.1), .fz (tI q29_.2.2), .fz (tI letter)]) (EV.add (EV.add (EV.var rfl) (EV.var rfl)) EV.int) (fun _ => rfl) h ?_
  intro letter h
  obtain ⟨h32_, h⟩ := h
  refine SK.extL (en := (tT tI)) (xs := s1_) (ys := [[(q29_.2.1 + (1 : Int)), letter], [(q29_.2.2 + (1 : Int)), letter]]) (R := fun found => [.fz (tI n), .un, .ow ((tL (tT tI)) found), .fz (tI q29_.1), .fz (tI q29_.2.1), .fz (tI q29_.2.2), .fz (tI letter)]) (EV.lst (EVs.cons (EV.tup (EVs.cons (EV.add (EV.var rfl) EV.int) (EVs.cons (EV.var rfl) EVs.nil)) (Nat.le_of_ble_eq_true rfl)) (EVs.cons (EV.tup (EVs.cons (EV.add (EV.var rfl) EV.int) (EVs.cons (EV.var rfl) EVs.nil)) (Nat.le_of_ble_eq_true rfl)) EVs.nil)) (Nat.le_of_ble_eq_true rfl)) rfl h32_ (fun _ => rfl) h ?_
  intro found h
  obtain ⟨h30_, h31_⟩ := h
  refine SK.appL (en := (tT tI)) (xs := found) (x := (setI [(-(q29_.2.1 + (1 : Int))), (-(q29_.2.2 + (1 : Int))), (-letter)])) (R := fun found => [.fz (tI n), .un, .ow ((tL (tT tI)) found), .fz (tI q29_.1), .fz (tI q29_.2.1), .fz (tI q29_.2.2), .fz (tI letter)]) (EV.tupL (e := tI) (EV.sortSetI (d := (tL tI) [(-(q29_.2.1 + (1 : Int))), (-(q29_.2.2 + (1 : Int))), (-letter)]) (EV.lst (EVs.cons (EV.neg (EV.add (EV.var rfl) EV.int)) (EVs.cons (EV.neg (EV.add (EV.var rfl) EV.int)) (EVs.cons (EV.neg (EV.var rfl)) EVs.nil))) (Nat.le_of_ble_eq_true rfl)) rfl h30_)) rfl h31_ (fun _ => rfl) (okk := fun _ => True) trivial ?_
  intro found _
  exact SK.done (SK.nil fun _ l_ => Le.trans (by (repeat (first | exact Le.nil | refine Le.same ?_ | refine Le.un ?_))) l_)
theorem t_clauses_of_circuit {dp_ : Nat} (hn : 1 ≤ dp_) (n : Int) (circuit : (List (Int × Int))) (h : ok_clauses_of_circuit n circuit) : den Ws D dp_ 3 [tI n, (tT (tP2 tI tI)) circuit] = some ((tT (tT tI)) (sh_clauses_of_circuit n circuit)) := by
  obtain ⟨m_, rfl, hm_⟩ := dd hn
  unfold ok_clauses_of_circuit at h
  refine (den_run (d := d_clauses_of_circuit) rfl rfl).trans ?_
  show runD (den Ws D m_) Ws 7 b_clauses_of_circuit _ = _
  refine SK.run (ρ := [.fz (tI n), .fz ((tT (tP2 tI tI)) circuit), .un, .un, .un, .un, .un]) rfl ?_
  refine SK.ownL (en := (tL (tT tI))) (v := ([] : (List (List Int)))) (R := fun found => [.fz (tI n), .fz ((tT (tP2 tI tI)) circuit), .ow ((tL (tT tI)) found), .un, .un, .un, .un]) (EV.lst EVs.nil (Nat.le_of_ble_eq_true rfl)) rfl (Nat.le_of_ble_eq_true rfl) (fun _ => rfl) h ?_
  intro found h
  obtain ⟨h34_, h⟩ := h
  refine SK.fold (S := (List (List Int))) (ea := (tP2 tI (tP2 tI tI))) (xs := (enm circuit)) (s0 := found) (step := (sh_clauses_of_circuit_L1 (n))) (ok := (ok_clauses_of_circuit_L1 (n))) (R := (R_clauses_of_circuit_L1 (n))) (R1 := (fun s1_ q29_ => [.fz (tI n), .un, .ow ((tL (tT tI)) s1_), .fz (tI q29_.1), .fz (tI q29_.2.1), .fz (tI q29_.2.2), .un])) (IT.enumT (e := (tP2 tI tI)) (EV.var rfl)) (by (repeat (first | exact Le.nil | refine Le.same ?_ | refine Le.un ?_))) (fun _ _ => rfl) h34_ (fun s1_ q29_ _ h => (t_clauses_of_circuit_L1 (by exact hm_) (n)  s1_ q29_ h)) h ?_
  intro found h
  have h33_ := h
  exact SK.ret (d := (tT (tT tI)) (setT found)) (EV.tupL (e := (tT tI)) (EV.sortSetT (d := (tL (tT tI)) found) (EV.vow rfl) rfl h33_)) rfl
abbrev R__law_answers_L2  : ((List (List Int))) → Rho := fun s2_ => [.un, .un, .un, .fz ((tL (tT tI)) s2_), .un]
theorem t__law_answers_L2 {m_ : Nat} (hm_ : 0 ≤ m_)  (s2_ : (List (List Int))) (answers : (List Int)) (h : ok__law_answers_L2  s2_ answers) : SK (den Ws D m_) Ws [b__law_answers_L1] [.un, .un, .un, .fz ((tL (tT tI)) s2_), .fz ((tT tI) answers)] (NC (R__law_answers_L2 ) (sh__law_answers_L2  s2_ answers)) := by
  unfold ok__law_answers_L2 at h
  obtain ⟨h36_, h37_, h38_⟩ := h
  refine SK.asgL (en := (tL (tT tI))) (v := (s2_ ++ [(answers ++ [(0 : Int)]), (answers ++ [(1 : Int)])])) (R := fun longer => [.un, .un, .un, .fz ((tL (tT tI)) longer), .fz ((tT tI) answers)]) (EV.catL (e := (tT tI)) (EV.var rfl) (EV.lst (EVs.cons (EV.catT (e := tI) (EV.var rfl) (EV.tup (EVs.cons EV.int EVs.nil) (Nat.le_of_ble_eq_true rfl)) h36_) (EVs.cons (EV.catT (e := tI) (EV.var rfl) (EV.tup (EVs.cons EV.int EVs.nil) (Nat.le_of_ble_eq_true rfl)) h37_) EVs.nil)) (Nat.le_of_ble_eq_true rfl)) h38_) (fun _ => rfl) (okk := fun _ => True) trivial ?_
  intro longer _
  exact SK.done (SK.nil fun _ l_ => Le.trans (by (repeat (first | exact Le.nil | refine Le.same ?_ | refine Le.un ?_))) l_)
abbrev R__law_answers_L1  : ((List (List Int))) → Rho := fun s1_ => [.un, .fz ((tL (tT tI)) s1_), .un, .un, .un]
theorem t__law_answers_L1 {m_ : Nat} (hm_ : 0 ≤ m_)  (s1_ : (List (List Int))) (turn : Int) (h : ok__law_answers_L1  s1_ turn) : SK (den Ws D m_) Ws [b__law_answers_L2] [.un, .fz ((tL (tT tI)) s1_), .fz (tI turn), .un, .un] (NC (R__law_answers_L1 ) (sh__law_answers_L1  s1_ turn)) := by
  unfold ok__law_answers_L1 at h
  refine SK.asgL (en := (tL (tT tI))) (v := ([] : (List (List Int)))) (R := fun longer => [.un, .fz ((tL (tT tI)) s1_), .fz (tI turn), .fz ((tL (tT tI)) longer), .un]) (EV.lst EVs.nil (Nat.le_of_ble_eq_true rfl)) (fun _ => rfl) h ?_
  intro longer h
  have h39_ := h
  refine SK.fold (S := (List (List Int))) (ea := (tT tI)) (xs := s1_) (s0 := longer) (step := sh__law_answers_L2) (ok := ok__law_answers_L2) (R := R__law_answers_L2) (R1 := (fun s2_ answers => [.un, .un, .un, .fz ((tL (tT tI)) s2_), .fz ((tT tI) answers)])) (IT.exL (e := (tT tI)) (EV.var rfl)) (by (repeat (first | exact Le.nil | refine Le.same ?_ | refine Le.un ?_))) (fun _ _ => rfl) h39_ (fun s2_ answers _ h => (t__law_answers_L2 (by exact hm_)   s2_ answers h)) (okk := fun _ => True) trivial ?_
  intro longer h
  refine SK.asgL (en := (tL (tT tI))) (v := longer) (R := fun found => [.un, .fz ((tL (tT tI)) found), .un, .fz ((tL (tT tI)) longer), .un]) (EV.var rfl) (fun _ => rfl) (okk := fun _ => True) trivial ?_
  intro found _
  exact SK.done (SK.nil fun _ l_ => Le.trans (by (repeat (first | exact Le.nil | refine Le.same ?_ | refine Le.un ?_))) l_)
theorem t__law_answers {dp_ : Nat} (hn : 1 ≤ dp_) (n : Int) (h : ok__law_answers n) : den Ws D dp_ 32 [tI n] = some ((tL (tT tI)) (sh__law_answers n)) := by
  obtain ⟨m_, rfl, hm_⟩ := dd hn
  unfold ok__law_answers at h
  refine (den_run (d := d__law_answers) rfl rfl).trans ?_
  show runD (den Ws D m_) Ws 5 b__law_answers _ = _
  refine SK.run (ρ := [.fz (tI n), .un, .un, .un, .un]) rfl ?_
  refine SK.asgL (en := (tL (tT tI))) (v := [([] : (List Int))]) (R := fun found => [.fz (tI n), .fz ((tL (tT tI)) found), .un, .un, .un]) (EV.lst (EVs.cons (EV.tup EVs.nil (Nat.le_of_ble_eq_true rfl)) EVs.nil) (Nat.le_of_ble_eq_true rfl)) (fun _ => rfl) h ?_
  intro found h
  obtain ⟨h40_, h41_⟩ := h
  refine SK.fold (S := (List (List Int))) (ea := tI) (xs := (ivs (0 : Int) n)) (s0 := found) (step := sh__law_answers_L1) (ok := ok__law_answers_L1) (R := R__law_answers_L1) (R1 := (fun s1_ turn => [.un, .fz ((tL (tT tI)) s1_), .fz (tI turn), .un, .un])) (IT.rng1 (EV.var rfl) h40_) (by (repeat (first | exact Le.nil | refine Le.same ?_ | refine Le.un ?_))) (fun _ _ => rfl) h41_ (fun s1_ turn _ h => (t__law_answers_L1 (by exact hm_)   s1_ turn h)) (okk := fun _ => True) trivial ?_
  intro found h
  exact SK.ret (d := (tL (tT tI)) found) (EV.var rfl) rfl
abbrev R__law_bits_L1  : ((List Int)) → Rho := fun s1_ => [.un, .un, .ow ((tL tI) s1_), .un, .un]
theorem t__law_bits_L1 {m_ : Nat} (hm_ : 0 ≤ m_)  (s1_ : (List Int)) (q44_ : (Int × Int)) (h : ok__law_bits_L1  s1_ q44_) : SK (den Ws D m_) Ws [b__law_bits_L1] [.un, .un, .ow ((tL tI) s1_), .fz (tI q44_.1), .fz (tI q44_.2)] (NC (R__law_bits_L1 ) (sh__law_bits_L1  s1_ q44_)) := by
  unfold ok__law_bits_L1 at h
  obtain ⟨h47_, h48_, h49_⟩ := h
  refine SK.appL (en := tI) (xs := s1_) (x := (if ((decide ((gi s1_ q44_.1) = (1 : Int))) && (decide ((gi s1_ q44_.2) = (1 : Int)))) then (0 : Int) else (1 : Int))) (R := fun bits => [.un, .un, .ow ((tL tI) bits), .fz (tI q44_.1), .fz (tI q44_.2)]) (EV.ife (e := tI) (TS.bl (EV.and (EV.cmp (dx := tI (gi s1_ q44_.1)) (dy := tI (1 : Int)) (EV.giL (e := tI) (EV.vow rfl) (EV.var rfl) h47_) EV.int (C.eq (e := tI) EqE.I)) (fun hq46_ => (EV.cmp (dx := tI (gi s1_ q44_.2)) (dy := tI (1 : Int)) (EV.giL (e := tI) (EV.vow rfl) (EV.var rfl) (h48_ hq46_)) EV.int (C.eq (e := tI) EqE.I))))) (fun hq45_ => EV.int) (fun hq45_ => EV.int)) rfl h49_ (fun _ => rfl) (okk := fun _ => True) trivial ?_
  intro bits _
  exact SK.done (SK.nil fun _ l_ => Le.trans (by (repeat (first | exact Le.nil | refine Le.same ?_ | refine Le.un ?_))) l_)
theorem t__law_bits {dp_ : Nat} (hn : 1 ≤ dp_) (circuit : (List (Int × Int))) (answers : (List Int)) (h : ok__law_bits circuit answers) : den Ws D dp_ 33 [(tT (tP2 tI tI)) circuit, (tT tI) answers] = some ((tL tI) (sh__law_bits circuit answers)) := by
  obtain ⟨m_, rfl, hm_⟩ := dd hn
  unfold ok__law_bits at h
  refine (den_run (d := d__law_bits) rfl rfl).trans ?_
  show runD (den Ws D m_) Ws 5 b__law_bits _ = _
  refine SK.run (ρ := [.fz ((tT (tP2 tI tI)) circuit), .fz ((tT tI) answers), .un, .un, .un]) rfl ?_
  refine SK.ownL (en := (tL tI)) (v := answers) (R := fun bits => [.fz ((tT (tP2 tI tI)) circuit), .fz ((tT tI) answers), .ow ((tL tI) bits), .un, .un]) (EV.lstT (e := tI) (EV.var rfl)) rfl (Nat.le_of_ble_eq_true rfl) (fun _ => rfl) h ?_
  intro bits h
  have h50_ := h
  refine SK.fold (S := (List Int)) (ea := (tP2 tI tI)) (xs := circuit) (s0 := bits) (step := sh__law_bits_L1) (ok := ok__law_bits_L1) (R := R__law_bits_L1) (R1 := (fun s1_ q44_ => [.un, .un, .ow ((tL tI) s1_), .fz (tI q44_.1), .fz (tI q44_.2)])) (IT.exT (e := (tP2 tI tI)) (EV.var rfl)) (by (repeat (first | exact Le.nil | refine Le.same ?_ | refine Le.un ?_))) (fun _ _ => rfl) h50_ (fun s1_ q44_ _ h => (t__law_bits_L1 (by exact hm_)   s1_ q44_ h)) (okk := fun _ => True) trivial ?_
  intro bits h
  refine SK.frz (ρ1 := [.un, .un, .fz ((tL tI) bits), .un, .un]) rfl ?_
  exact SK.ret (d := (tL tI) bits) (EV.var rfl) rfl
theorem t__law_run {dp_ : Nat} (hn : 2 ≤ dp_) (circuit : (List (Int × Int))) (answers : (List Int)) (h : ok__law_run circuit answers) : den Ws D dp_ 35 [(tT (tP2 tI tI)) circuit, (tT tI) answers] = some (tS (sh__law_run circuit answers)) := by
  obtain ⟨m_, rfl, hm_⟩ := dd hn
  unfold ok__law_run at h
  refine (den_run (d := d__law_run) rfl rfl).trans ?_
  show runD (den Ws D m_) Ws 3 b__law_run _ = _
  refine SK.run (ρ := [.fz ((tT (tP2 tI tI)) circuit), .fz ((tT tI) answers), .un]) rfl ?_
  obtain ⟨h53_, h54_, h55_, h56_⟩ := h
  exact SK.ret (d := tS (joinS ([] : Tx) ((sh__law_bits (circuit) (answers)).map fun (bit : Int) => [gi ([110, 121] : Tx) bit]))) (EV.joinL (EV.str (t := ([] : Tx)) (by decide +kernel)) (EV.lc (ea := tI) (eb := tS) (R := fun (bit : Int) => [.fz ((tT (tP2 tI tI)) circuit), .fz ((tT tI) answers), .fz (tI bit)]) (IT.exL (e := tI) (EV.call (EVs.cons (EV.var rfl) (EVs.cons (EV.var rfl) EVs.nil)) (t__law_bits (Nat.le_trans (by decide) hm_) _ _ h53_))) h54_ (fun _ => rfl) (fun bit hx51_ => (EV.sgi (EV.str (t := ([110, 121] : Tx)) (by decide +kernel)) (EV.var rfl) (h55_ _ hx51_)))) h56_) rfl
abbrev R_all_cases_L1  : ((List Tx)) → Rho := fun s1_ => [.un, .fz ((tL tS) s1_), .un, .un, .un]
theorem t_all_cases_L1 {m_ : Nat} (hm_ : 0 ≤ m_)  (s1_ : (List Tx)) (w_v1 : Int) (h : ok_all_cases_L1  s1_ w_v1) : SK (den Ws D m_) Ws [b_all_cases_L1] [.un, .fz ((tL tS) s1_), .fz (tI w_v1), .un, .un] (NC (R_all_cases_L1 ) (sh_all_cases_L1  s1_ w_v1)) := by
  unfold ok_all_cases_L1 at h
  obtain ⟨h61_, h62_⟩ := h
  refine SK.asgL (en := (tL tS)) (v := (s1_.flatMap fun (case : Tx) => (sgs ([110, 121] : Tx)).map fun (sign : Tx) => (case ++ sign))) (R := fun found => [.un, .fz ((tL tS) found), .fz (tI w_v1), .un, .un]) (EV.lc2G'0 (ea := tS) (eb := tS) (eg := tS) (xs := s1_) (p := fun (case : Tx) => true) (ys := fun (case : Tx) => (sgs ([110, 121] : Tx))) (q := fun (case : Tx) (sign : Tx) => true) (g := fun (case : Tx) (sign : Tx) => (case ++ sign)) (R := fun (case : Tx) => [.un, .fz ((tL tS) s1_), .fz (tI w_v1), .fz (tS case), .un]) (R1 := fun (case : Tx) (sign : Tx) => [.un, .fz ((tL tS) s1_), .fz (tI w_v1), .fz (tS case), .fz (tS sign)]) (IT.exL (e := tS) (EV.var rfl)) (fun _ => rfl) (fun case hx57_ => TSo.no) (fun case hx57_ hq58_ => (IT.exS (EV.str (t := ([110, 121] : Tx)) (by decide +kernel)))) (fun _ _ => rfl) (fun case hx57_ hq58_ sign hy59_ => TSo.no) (fun case hx57_ hq58_ sign hy59_ hr60_ => (EV.catS (EV.var rfl) (EV.var rfl) (h61_ _ hx57_ _ hy59_))) h62_) (fun _ => rfl) (okk := fun _ => True) trivial ?_
  intro found _
  exact SK.done (SK.nil fun _ l_ => Le.trans (by (repeat (first | exact Le.nil | refine Le.same ?_ | refine Le.un ?_))) l_)
theorem t_all_cases {dp_ : Nat} (hn : 1 ≤ dp_) (n : Int) (h : ok_all_cases n) : den Ws D dp_ 8 [tI n] = some ((tL tS) (sh_all_cases n)) := by
  obtain ⟨m_, rfl, hm_⟩ := dd hn
  unfold ok_all_cases at h
  refine (den_run (d := d_all_cases) rfl rfl).trans ?_
  show runD (den Ws D m_) Ws 5 b_all_cases _ = _
  refine SK.run (ρ := [.fz (tI n), .un, .un, .un, .un]) rfl ?_
  refine SK.asgL (en := (tL tS)) (v := [([] : Tx)]) (R := fun found => [.fz (tI n), .fz ((tL tS) found), .un, .un, .un]) (EV.lst (EVs.cons (EV.str (t := ([] : Tx)) (by decide +kernel)) EVs.nil) (Nat.le_of_ble_eq_true rfl)) (fun _ => rfl) h ?_
  intro found h
  obtain ⟨h63_, h64_⟩ := h
  refine SK.fold (S := (List Tx)) (ea := tI) (xs := (ivs (0 : Int) n)) (s0 := found) (step := sh_all_cases_L1) (ok := ok_all_cases_L1) (R := R_all_cases_L1) (R1 := (fun s1_ w_v1 => [.un, .fz ((tL tS) s1_), .fz (tI w_v1), .un, .un])) (IT.rng1 (EV.var rfl) h63_) (by (repeat (first | exact Le.nil | refine Le.same ?_ | refine Le.un ?_))) (fun _ _ => rfl) h64_ (fun s1_ w_v1 _ h => (t_all_cases_L1 (by exact hm_)   s1_ w_v1 h)) (okk := fun _ => True) trivial ?_
  intro found h
  exact SK.ret (d := (tL tS) found) (EV.var rfl) rfl
theorem t_is_met_by {dp_ : Nat} (hn : 1 ≤ dp_) (number : Int) (case : Tx) (h : ok_is_met_by number case) : den Ws D dp_ 6 [tI number, tS case] = some (tB (sh_is_met_by number case)) := by
  obtain ⟨m_, rfl, hm_⟩ := dd hn
  unfold ok_is_met_by at h
  refine (den_run (d := d_is_met_by) rfl rfl).trans ?_
  show runD (den Ws D m_) Ws 2 b_is_met_by _ = _
  refine SK.run (ρ := [.fz (tI number), .fz (tS case)]) rfl ?_
  have h70_ := h
  exact SK.ret (d := tB (decide ([gi case (((number).natAbs : Int) - (1 : Int))] = (if (decide ((0 : Int) < number)) then ([121] : Tx) else ([110] : Tx))))) (EV.cmp (dx := tS [gi case (((number).natAbs : Int) - (1 : Int))]) (dy := tS (if (decide ((0 : Int) < number)) then ([121] : Tx) else ([110] : Tx))) (EV.sgi (EV.var rfl) (EV.sub (EV.abs (EV.var rfl)) EV.int) h70_) (EV.ife (e := tS) (TS.bl (EV.cmp (dx := tI number) (dy := tI (0 : Int)) (EV.var rfl) EV.int C.gt)) (fun hq69_ => (EV.str (t := ([121] : Tx)) (by decide +kernel))) (fun hq69_ => (EV.str (t := ([110] : Tx)) (by decide +kernel)))) (C.eq (e := tS) EqE.S)) rfl
theorem t_is_met {dp_ : Nat} (hn : 2 ≤ dp_) (clauses : (List (List Int))) (case : Tx) (h : ok_is_met clauses case) : den Ws D dp_ 7 [(tT (tT tI)) clauses, tS case] = some (tB (sh_is_met clauses case)) := by
  obtain ⟨m_, rfl, hm_⟩ := dd hn
  unfold ok_is_met at h
  refine (den_run (d := d_is_met) rfl rfl).trans ?_
  show runD (den Ws D m_) Ws 4 b_is_met _ = _
  refine SK.run (ρ := [.fz ((tT (tT tI)) clauses), .fz (tS case), .un, .un]) rfl ?_
  have h71_ := h
  exact SK.ret (d := tB (clauses.all fun (clause : (List Int)) => (clause.any fun (number : Int) => (sh_is_met_by (number) (case))))) (EV.all (ea := (tT tI)) (R := fun (clause : (List Int)) => [.fz ((tT (tT tI)) clauses), .fz (tS case), .fz ((tT tI) clause), .un]) (IT.exT (e := (tT tI)) (EV.var rfl)) (fun _ => rfl) (fun clause hx65_ => (EV.any (ea := tI) (R := fun (number : Int) => [.fz ((tT (tT tI)) clauses), .fz (tS case), .fz ((tT tI) clause), .fz (tI number)]) (IT.exT (e := tI) (EV.var rfl)) (fun _ => rfl) (fun number hx67_ => (EV.call (EVs.cons (EV.var rfl) (EVs.cons (EV.var rfl) EVs.nil)) (t_is_met_by (Nat.le_trans (by decide) hm_) _ _ ((h71_ _ hx65_) _ hx67_))))))) rfl
theorem t_good_cases {dp_ : Nat} (hn : 3 ≤ dp_) (n : Int) (clauses : (List (List Int))) (h : ok_good_cases n clauses) : den Ws D dp_ 9 [tI n, (tT (tT tI)) clauses] = some ((tL tS) (sh_good_cases n clauses)) := by
  obtain ⟨m_, rfl, hm_⟩ := dd hn
  unfold ok_good_cases at h
  refine (den_run (d := d_good_cases) rfl rfl).trans ?_
  show runD (den Ws D m_) Ws 3 b_good_cases _ = _
  refine SK.run (ρ := [.fz (tI n), .fz ((tT (tT tI)) clauses), .un]) rfl ?_
  obtain ⟨h74_, h75_, h76_⟩ := h
  exact SK.ret (d := (tL tS) ((sh_all_cases (n)).filter fun (case : Tx) => (sh_is_met (clauses) (case)))) (EV.lcF (ea := tS) (R := fun (case : Tx) => [.fz (tI n), .fz ((tT (tT tI)) clauses), .fz (tS case)]) (IT.exL (e := tS) (EV.call (EVs.cons (EV.var rfl) EVs.nil) (t_all_cases (Nat.le_trans (by decide) hm_) _ h74_))) h75_ (fun _ => rfl) (fun case hx72_ => (TS.bl (EV.call (EVs.cons (EV.var rfl) (EVs.cons (EV.var rfl) EVs.nil)) (t_is_met (Nat.le_trans (by decide) hm_) _ _ (h76_ _ hx72_))))) (fun case hx72_ hq73_ => (EV.var rfl))) rfl
theorem t_number_of_cases {dp_ : Nat} (hn : 4 ≤ dp_) (n : Int) (clauses : (List (List Int))) (h : ok_number_of_cases n clauses) : den Ws D dp_ 11 [tI n, (tT (tT tI)) clauses] = some (tI (sh_number_of_cases n clauses)) := by
  obtain ⟨m_, rfl, hm_⟩ := dd hn
  unfold ok_number_of_cases at h
  refine (den_run (d := d_number_of_cases) rfl rfl).trans ?_
  show runD (den Ws D m_) Ws 2 b_number_of_cases _ = _
  refine SK.run (ρ := [.fz (tI n), .fz ((tT (tT tI)) clauses)]) rfl ?_
  have h77_ := h
  exact SK.ret (d := tI (((sh_good_cases (n) (clauses))).length : Int)) (EV.lenL (e := tS) (EV.call (EVs.cons (EV.var rfl) (EVs.cons (EV.var rfl) EVs.nil)) (t_good_cases (Nat.le_trans (by decide) hm_) _ _ h77_))) rfl
theorem t_told_case {dp_ : Nat} (hn : 4 ≤ dp_) (n : Int) (clauses : (List (List Int))) (h : ok_told_case n clauses) : den Ws D dp_ 10 [tI n, (tT (tT tI)) clauses] = some ((tO tS) (sh_told_case n clauses)) := by
  obtain ⟨m_, rfl, hm_⟩ := dd hn
  unfold ok_told_case at h
  refine (den_run (d := d_told_case) rfl rfl).trans ?_
  show runD (den Ws D m_) Ws 3 b_told_case _ = _
  refine SK.run (ρ := [.fz (tI n), .fz ((tT (tT tI)) clauses), .un]) rfl ?_
  obtain ⟨h81_, h⟩ := h
  refine SK.asgL (en := (tL tS)) (v := (sh_good_cases (n) (clauses))) (R := fun found => [.fz (tI n), .fz ((tT (tT tI)) clauses), .fz ((tL tS) found)]) (EV.call (EVs.cons (EV.var rfl) (EVs.cons (EV.var rfl) EVs.nil)) (t_good_cases (Nat.le_trans (by decide) hm_) _ _ h81_)) (fun _ => rfl) h ?_
  intro found h
  have h80_ := h
  exact SK.ret (d := (tO tS) (if (!(found).isEmpty) then (some (gi found (0 : Int))) else (none : (Option Tx)))) (EV.ife (e := (tO tS)) (TS.L (en := tS) (EV.var rfl)) (fun hq79_ => (EV.sm (en := tS) (EV.giL (e := tS) (EV.var rfl) EV.int (h80_ hq79_)))) (fun hq79_ => EV.nn0)) rfl
theorem t_is_ascending {dp_ : Nat} (hn : 1 ≤ dp_) (items : (List Int)) (h : ok_is_ascending items) : den Ws D dp_ 4 [(tT tI) items] = some (tB (sh_is_ascending items)) := by
  obtain ⟨m_, rfl, hm_⟩ := dd hn
  unfold ok_is_ascending at h
  refine (den_run (d := d_is_ascending) rfl rfl).trans ?_
  show runD (den Ws D m_) Ws 2 b_is_ascending _ = _
  refine SK.run (ρ := [.fz ((tT tI) items), .un]) rfl ?_
  obtain ⟨h91_, h92_⟩ := h
  exact SK.ret (d := tB ((ivs (0 : Int) (((items).length : Int) - (1 : Int))).all fun (at_v : Int) => (decide ((gi items at_v) < (gi items (at_v + (1 : Int))))))) (EV.all (ea := tI) (R := fun (at_v : Int) => [.fz ((tT tI) items), .fz (tI at_v)]) (IT.rng1 (EV.sub (EV.lenT (e := tI) (EV.var rfl)) EV.int) h91_) (fun _ => rfl) (fun at_v hx89_ => (EV.cmp (dx := tI (gi items at_v)) (dy := tI (gi items (at_v + (1 : Int)))) (EV.giT (e := tI) (EV.var rfl) (EV.var rfl) (h92_ _ hx89_).1) (EV.giT (e := tI) (EV.var rfl) (EV.add (EV.var rfl) EV.int) (h92_ _ hx89_).2) C.lt))) rfl
theorem t_is_clause {dp_ : Nat} (hn : 2 ≤ dp_) (numbers : (List Int)) (h : ok_is_clause numbers) : den Ws D dp_ 5 [(tT tI) numbers] = some (tB (sh_is_clause numbers)) := by
  obtain ⟨m_, rfl, hm_⟩ := dd hn
  unfold ok_is_clause at h
  refine (den_run (d := d_is_clause) rfl rfl).trans ?_
  show runD (den Ws D m_) Ws 2 b_is_clause _ = _
  refine SK.run (ρ := [.fz ((tT tI) numbers), .un]) rfl ?_
  have h96_ := h
  refine SK.iteL (t := ((!(sh_is_ascending (numbers))) || (decide ((0 : Int) ∈ numbers)))) (TS.bl (EV.or (EV.not (TS.bl (EV.call (EVs.cons (EV.var rfl) EVs.nil) (t_is_ascending (Nat.le_trans (by decide) hm_) _ h96_)))) (fun hq88_ => (EV.cmp (dx := tI (0 : Int)) (dy := (tT tI) numbers) EV.int (EV.var rfl) (C.inT (e := tI) EqE.I EqE.I))))) (ifT _) (fun hq93_ h => ?_) (fun hq93_ h => ?_)
  · exact SK.ret (d := tB false) EV.bool rfl
  · refine SK.done ?_
    exact SK.ret (d := tB (!(numbers.any fun (number : Int) => (decide ((-number) ∈ numbers))))) (EV.not (TS.bl (EV.any (ea := tI) (R := fun (number : Int) => [.fz ((tT tI) numbers), .fz (tI number)]) (IT.exT (e := tI) (EV.var rfl)) (fun _ => rfl) (fun number hx94_ => (EV.cmp (dx := tI (-number)) (dy := (tT tI) numbers) (EV.neg (EV.var rfl)) (EV.var rfl) (C.inT (e := tI) EqE.I EqE.I)))))) rfl
theorem t__law_more {dp_ : Nat} (hn : 1 ≤ dp_) (clauses : (List (List Int))) (number : Int) (h : ok__law_more clauses number) : den Ws D dp_ 36 [(tT (tT tI)) clauses, tI number] = some ((tT (tT tI)) (sh__law_more clauses number)) := by
  obtain ⟨m_, rfl, hm_⟩ := dd hn
  unfold ok__law_more at h
  refine (den_run (d := d__law_more) rfl rfl).trans ?_
  show runD (den Ws D m_) Ws 2 b__law_more _ = _
  refine SK.run (ρ := [.fz ((tT (tT tI)) clauses), .fz (tI number)]) rfl ?_
  obtain ⟨h103_, h104_⟩ := h
  exact SK.ret (d := (tT (tT tI)) (setT (clauses ++ [[number]]))) (EV.tupL (e := (tT tI)) (EV.sortSetT (d := (tT (tT tI)) (clauses ++ [[number]])) (EV.catT (e := (tT tI)) (EV.var rfl) (EV.tup (EVs.cons (EV.tup (EVs.cons (EV.var rfl) EVs.nil) (Nat.le_of_ble_eq_true rfl)) EVs.nil) (Nat.le_of_ble_eq_true rfl)) h103_) rfl h104_)) rfl
abbrev R_law_L2 (script : (List Int)) (draws : (List Int)) (n : Int) (circuit : (List (Int × Int))) (letters : Int) (clauses : (List (List Int))) (runs : (List Tx)) : (Unit) → Rho := fun s2_ => [.fz ((tL tI) script), .un, .fz ((tL tI) draws), .fz (tI n), .fz ((tT (tP2 tI tI)) circuit), .fz (tI letters), .fz ((tT (tT tI)) clauses), .un, .fz ((tL tS) runs), .un, .un, .un, .un, .un, .un, .un, .un, .un, .un, .un, .un, .un, .un, .un]
theorem t_law_L2 {m_ : Nat} (hm_ : 10 ≤ m_) (script : (List Int)) (draws : (List Int)) (n : Int) (circuit : (List (Int × Int))) (letters : Int) (clauses : (List (List Int))) (runs : (List Tx)) (s2_ : Unit) (q100_ : (Int × Tx)) (h : ok_law_L2 (letters) (clauses) (runs) s2_ q100_) : SK (den Ws D m_) Ws [b_law_L3] [.fz ((tL tI) script), .un, .fz ((tL tI) draws), .fz (tI n), .fz ((tT (tP2 tI tI)) circuit), .fz (tI letters), .fz ((tT (tT tI)) clauses), .un, .fz ((tL tS) runs), .un, .un, .un, .un, .fz (tI q100_.1), .fz (tS q100_.2), .un, .un, .un, .un, .un, .un, .un, .un, .un] (LP (R_law_L2 (script) (draws) (n) (circuit) (letters) (clauses) (runs)) tB (sh_law_L2 (letters) (clauses) (runs) s2_ q100_)) := by
  unfold ok_law_L2 at h
  obtain ⟨h113_, h114_, h⟩ := h
  refine SK.asgL (en := (tL tS)) (v := (runs.filter fun (some : Tx) => (decide ([gi some (letters - (1 : Int))] = q100_.2)))) (R := fun good => [.fz ((tL tI) script), .un, .fz ((tL tI) draws), .fz (tI n), .fz ((tT (tP2 tI tI)) circuit), .fz (tI letters), .fz ((tT (tT tI)) clauses), .un, .fz ((tL tS) runs), .un, .un, .un, .un, .fz (tI q100_.1), .fz (tS q100_.2), .un, .fz ((tL tS) good), .un, .un, .un, .un, .un, .un, .un]) (EV.lcF (ea := tS) (R := fun (some : Tx) => [.fz ((tL tI) script), .un, .fz ((tL tI) draws), .fz (tI n), .fz ((tT (tP2 tI tI)) circuit), .fz (tI letters), .fz ((tT (tT tI)) clauses), .un, .fz ((tL tS) runs), .un, .un, .un, .un, .fz (tI q100_.1), .fz (tS q100_.2), .fz (tS some), .un, .un, .un, .un, .un, .un, .un, .un]) (IT.exL (e := tS) (EV.var rfl)) h113_ (fun _ => rfl) (fun some hx101_ => (TS.bl (EV.cmp (dx := tS [gi some (letters - (1 : Int))]) (dy := tS q100_.2) (EV.sgi (EV.var rfl) (EV.sub (EV.var rfl) EV.int) (h114_ _ hx101_)) (EV.var rfl) (C.eq (e := tS) EqE.S)))) (fun some hx101_ hq102_ => (EV.var rfl))) (fun _ => rfl) h ?_
  intro good h
  obtain ⟨h112_, h⟩ := h
  refine SK.asgL (en := (tT (tT tI))) (v := (sh__law_more (clauses) (q100_.1))) (R := fun more => [.fz ((tL tI) script), .un, .fz ((tL tI) draws), .fz (tI n), .fz ((tT (tP2 tI tI)) circuit), .fz (tI letters), .fz ((tT (tT tI)) clauses), .un, .fz ((tL tS) runs), .un, .un, .un, .un, .fz (tI q100_.1), .fz (tS q100_.2), .un, .fz ((tL tS) good), .fz ((tT (tT tI)) more), .un, .un, .un, .un, .un, .un]) (EV.call (EVs.cons (EV.var rfl) (EVs.cons (EV.var rfl) EVs.nil)) (t__law_more (Nat.le_trans (by decide) hm_) _ _ h112_)) (fun _ => rfl) h ?_
  intro more h
  obtain ⟨h111_, h⟩ := h
  refine SK.iteL (t := (!(decide ((sh_number_of_cases (letters) (more)) = ((good).length : Int))))) (TS.bl (EV.not (TS.bl (EV.call (EVs.cons (EV.call (EVs.cons (EV.var rfl) (EVs.cons (EV.var rfl) EVs.nil)) (t_number_of_cases (Nat.le_trans (by decide) hm_) _ _ h111_)) (EVs.cons (EV.lenL (e := tS) (EV.var rfl)) EVs.nil)) (isD_call (e := tI) isD DqE.I EqE.I (Nat.le_trans (by decide) hm_) (pl_I _)))))) h (fun hq105_ h => ?_) (fun hq105_ h => ?_)
  · exact SK.ret (d := tB false) EV.bool rfl
  · refine SK.done ?_
    obtain ⟨h108_, h109_, h110_⟩ := h
    refine SK.iteL (t := (!(decide ((sh_told_case (letters) (more)) = (if (decide ((0 : Int) < ((good).length : Int))) then (some (gi good (0 : Int))) else (none : (Option Tx))))))) (TS.bl (EV.not (TS.bl (EV.call (EVs.cons (EV.call (EVs.cons (EV.var rfl) (EVs.cons (EV.var rfl) EVs.nil)) (t_told_case (Nat.le_trans (by decide) hm_) _ _ h108_)) (EVs.cons (EV.ife (e := (tO tS)) (TS.bl (EV.cmp (dx := tI ((good).length : Int)) (dy := tI (0 : Int)) (EV.lenL (e := tS) (EV.var rfl)) EV.int C.gt)) (fun hq106_ => (EV.sm (en := tS) (EV.giL (e := tS) (EV.var rfl) EV.int (h109_ hq106_)))) (fun hq106_ => EV.nn0)) EVs.nil)) (isD_call (e := (tO tS)) isD (DqE.O NN.S DqE.S) (EqE.O NN.S EqE.S) (Nat.le_trans (by decide) hm_) h110_))))) (ifT _) (fun hq107_ h => ?_) (fun hq107_ h => ?_)
    · exact SK.ret (d := tB false) EV.bool rfl
    · refine SK.done ?_
      exact SK.done (SK.nil fun _ l_ => Le.trans (by (repeat (first | exact Le.nil | refine Le.same ?_ | refine Le.un ?_))) l_)
abbrev R_answers_in_order_L1  : ((List (List Int))) → Rho := fun s1_ => [.un, .fz ((tL (tT tI)) s1_), .un, .un, .un]
theorem t_answers_in_order_L1 {m_ : Nat} (hm_ : 0 ≤ m_)  (s1_ : (List (List Int))) (w_v1 : Int) (h : ok_answers_in_order_L1  s1_ w_v1) : SK (den Ws D m_) Ws [b_answers_in_order_L1] [.un, .fz ((tL (tT tI)) s1_), .fz (tI w_v1), .un, .un] (NC (R_answers_in_order_L1 ) (sh_answers_in_order_L1  s1_ w_v1)) := by
  unfold ok_answers_in_order_L1 at h
  obtain ⟨h123_, h124_⟩ := h
  refine SK.asgL (en := (tL (tT tI))) (v := (s1_.flatMap fun (answers : (List Int)) => [(0 : Int), (1 : Int)].map fun (bit : Int) => (answers ++ [bit]))) (R := fun found => [.un, .fz ((tL (tT tI)) found), .fz (tI w_v1), .un, .un]) (EV.lc2G'0 (ea := (tT tI)) (eb := tI) (eg := (tT tI)) (xs := s1_) (p := fun (answers : (List Int)) => true) (ys := fun (answers : (List Int)) => [(0 : Int), (1 : Int)]) (q := fun (answers : (List Int)) (bit : Int) => true) (g := fun (answers : (List Int)) (bit : Int) => (answers ++ [bit])) (R := fun (answers : (List Int)) => [.un, .fz ((tL (tT tI)) s1_), .fz (tI w_v1), .fz ((tT tI) answers), .un]) (R1 := fun (answers : (List Int)) (bit : Int) => [.un, .fz ((tL (tT tI)) s1_), .fz (tI w_v1), .fz ((tT tI) answers), .fz (tI bit)]) (IT.exL (e := (tT tI)) (EV.var rfl)) (fun _ => rfl) (fun answers hx119_ => TSo.no) (fun answers hx119_ hq120_ => (IT.exT (e := tI) (EV.tup (EVs.cons EV.int (EVs.cons EV.int EVs.nil)) (Nat.le_of_ble_eq_true rfl)))) (fun _ _ => rfl) (fun answers hx119_ hq120_ bit hy121_ => TSo.no) (fun answers hx119_ hq120_ bit hy121_ hr122_ => (EV.catT (e := tI) (EV.var rfl) (EV.tup (EVs.cons (EV.var rfl) EVs.nil) (Nat.le_of_ble_eq_true rfl)) (h123_ _ hx119_ _ hy121_))) h124_) (fun _ => rfl) (okk := fun _ => True) trivial ?_
  intro found _
  exact SK.done (SK.nil fun _ l_ => Le.trans (by (repeat (first | exact Le.nil | refine Le.same ?_ | refine Le.un ?_))) l_)
theorem t_answers_in_order {dp_ : Nat} (hn : 1 ≤ dp_) (n : Int) (h : ok_answers_in_order n) : den Ws D dp_ 0 [tI n] = some ((tL (tT tI)) (sh_answers_in_order n)) := by
  obtain ⟨m_, rfl, hm_⟩ := dd hn
  unfold ok_answers_in_order at h
  refine (den_run (d := d_answers_in_order) rfl rfl).trans ?_
  show runD (den Ws D m_) Ws 5 b_answers_in_order _ = _
  refine SK.run (ρ := [.fz (tI n), .un, .un, .un, .un]) rfl ?_
  refine SK.asgL (en := (tL (tT tI))) (v := [([] : (List Int))]) (R := fun found => [.fz (tI n), .fz ((tL (tT tI)) found), .un, .un, .un]) (EV.lst (EVs.cons (EV.tup EVs.nil (Nat.le_of_ble_eq_true rfl)) EVs.nil) (Nat.le_of_ble_eq_true rfl)) (fun _ => rfl) h ?_
  intro found h
  obtain ⟨h125_, h126_⟩ := h
  refine SK.fold (S := (List (List Int))) (ea := tI) (xs := (ivs (0 : Int) n)) (s0 := found) (step := sh_answers_in_order_L1) (ok := ok_answers_in_order_L1) (R := R_answers_in_order_L1) (R1 := (fun s1_ w_v1 => [.un, .fz ((tL (tT tI)) s1_), .fz (tI w_v1), .un, .un])) (IT.rng1 (EV.var rfl) h125_) (by (repeat (first | exact Le.nil | refine Le.same ?_ | refine Le.un ?_))) (fun _ _ => rfl) h126_ (fun s1_ w_v1 _ h => (t_answers_in_order_L1 (by exact hm_)   s1_ w_v1 h)) (okk := fun _ => True) trivial ?_
  intro found h
  exact SK.ret (d := (tL (tT tI)) found) (EV.var rfl) rfl
abbrev R_run_wires_L1  : ((List Int)) → Rho := fun s1_ => [.un, .un, .ow ((tL tI) s1_), .un, .un]
theorem t_run_wires_L1 {m_ : Nat} (hm_ : 0 ≤ m_)  (s1_ : (List Int)) (q129_ : (Int × Int)) (h : ok_run_wires_L1  s1_ q129_) : SK (den Ws D m_) Ws [b_run_wires_L1] [.un, .un, .ow ((tL tI) s1_), .fz (tI q129_.1), .fz (tI q129_.2)] (NC (R_run_wires_L1 ) (sh_run_wires_L1  s1_ q129_)) := by
  unfold ok_run_wires_L1 at h
  obtain ⟨h130_, h131_, h132_, h133_⟩ := h
  refine SK.appL (en := tI) (xs := s1_) (x := ((1 : Int) - ((gi s1_ q129_.1) * (gi s1_ q129_.2)))) (R := fun bits => [.un, .un, .ow ((tL tI) bits), .fz (tI q129_.1), .fz (tI q129_.2)]) (EV.sub EV.int (EV.mul (EV.giL (e := tI) (EV.vow rfl) (EV.var rfl) h130_) (EV.giL (e := tI) (EV.vow rfl) (EV.var rfl) h131_) h132_)) rfl h133_ (fun _ => rfl) (okk := fun _ => True) trivial ?_
  intro bits _
  exact SK.done (SK.nil fun _ l_ => Le.trans (by (repeat (first | exact Le.nil | refine Le.same ?_ | refine Le.un ?_))) l_)
theorem t_run_wires {dp_ : Nat} (hn : 1 ≤ dp_) (circuit : (List (Int × Int))) (answers : (List Int)) (h : ok_run_wires circuit answers) : den Ws D dp_ 1 [(tT (tP2 tI tI)) circuit, (tT tI) answers] = some ((tL tI) (sh_run_wires circuit answers)) := by
  obtain ⟨m_, rfl, hm_⟩ := dd hn
  unfold ok_run_wires at h
  refine (den_run (d := d_run_wires) rfl rfl).trans ?_
  show runD (den Ws D m_) Ws 5 b_run_wires _ = _
  refine SK.run (ρ := [.fz ((tT (tP2 tI tI)) circuit), .fz ((tT tI) answers), .un, .un, .un]) rfl ?_
  refine SK.ownL (en := (tL tI)) (v := answers) (R := fun bits => [.fz ((tT (tP2 tI tI)) circuit), .fz ((tT tI) answers), .ow ((tL tI) bits), .un, .un]) (EV.lstT (e := tI) (EV.var rfl)) rfl (Nat.le_of_ble_eq_true rfl) (fun _ => rfl) h ?_
  intro bits h
  have h134_ := h
  refine SK.fold (S := (List Int)) (ea := (tP2 tI tI)) (xs := circuit) (s0 := bits) (step := sh_run_wires_L1) (ok := ok_run_wires_L1) (R := R_run_wires_L1) (R1 := (fun s1_ q129_ => [.un, .un, .ow ((tL tI) s1_), .fz (tI q129_.1), .fz (tI q129_.2)])) (IT.exT (e := (tP2 tI tI)) (EV.var rfl)) (by (repeat (first | exact Le.nil | refine Le.same ?_ | refine Le.un ?_))) (fun _ _ => rfl) h134_ (fun s1_ q129_ _ h => (t_run_wires_L1 (by exact hm_)   s1_ q129_ h)) (okk := fun _ => True) trivial ?_
  intro bits h
  refine SK.frz (ρ1 := [.un, .un, .fz ((tL tI) bits), .un, .un]) rfl ?_
  exact SK.ret (d := (tL tI) bits) (EV.var rfl) rfl
theorem t_wire_function {dp_ : Nat} (hn : 2 ≤ dp_) (n : Int) (circuit : (List (Int × Int))) (wire : Int) (h : ok_wire_function n circuit wire) : den Ws D dp_ 2 [tI n, (tT (tP2 tI tI)) circuit, tI wire] = some (tS (sh_wire_function n circuit wire)) := by
  obtain ⟨m_, rfl, hm_⟩ := dd hn
  unfold ok_wire_function at h
  refine (den_run (d := d_wire_function) rfl rfl).trans ?_
  show runD (den Ws D m_) Ws 4 b_wire_function _ = _
  refine SK.run (ρ := [.fz (tI n), .fz ((tT (tP2 tI tI)) circuit), .fz (tI wire), .un]) rfl ?_
  obtain ⟨h135_, h136_, h137_, h138_⟩ := h
  exact SK.ret (d := tS (joinS ([] : Tx) ((sh_answers_in_order (n)).map fun (answers : (List Int)) => (strI (gi (sh_run_wires (circuit) (answers)) wire))))) (EV.joinL (EV.str (t := ([] : Tx)) (by decide +kernel)) (EV.lc (ea := (tT tI)) (eb := tS) (R := fun (answers : (List Int)) => [.fz (tI n), .fz ((tT (tP2 tI tI)) circuit), .fz (tI wire), .fz ((tT tI) answers)]) (IT.exL (e := (tT tI)) (EV.call (EVs.cons (EV.var rfl) EVs.nil) (t_answers_in_order (Nat.le_trans (by decide) hm_) _ h135_))) h136_ (fun _ => rfl) (fun answers hx127_ => (EV.strI (EV.giL (e := tI) (EV.call (EVs.cons (EV.var rfl) (EVs.cons (EV.var rfl) EVs.nil)) (t_run_wires (Nat.le_trans (by decide) hm_) _ _ (h137_ _ hx127_).1)) (EV.var rfl) (h137_ _ hx127_).2.1) (h137_ _ hx127_).2.2))) h138_) rfl
theorem t_with_clause {dp_ : Nat} (hn : 1 ≤ dp_) (clauses : (List (List Int))) (number : Int) (h : ok_with_clause clauses number) : den Ws D dp_ 21 [(tT (tT tI)) clauses, tI number] = some ((tT (tT tI)) (sh_with_clause clauses number)) := by
  obtain ⟨m_, rfl, hm_⟩ := dd hn
  unfold ok_with_clause at h
  refine (den_run (d := d_with_clause) rfl rfl).trans ?_
  show runD (den Ws D m_) Ws 2 b_with_clause _ = _
  refine SK.run (ρ := [.fz ((tT (tT tI)) clauses), .fz (tI number)]) rfl ?_
  obtain ⟨h140_, h141_⟩ := h
  exact SK.ret (d := (tT (tT tI)) (setT (clauses ++ [[number]]))) (EV.tupL (e := (tT tI)) (EV.sortSetT (d := (tT (tT tI)) (clauses ++ [[number]])) (EV.catT (e := (tT tI)) (EV.var rfl) (EV.tup (EVs.cons (EV.tup (EVs.cons (EV.var rfl) EVs.nil) (Nat.le_of_ble_eq_true rfl)) EVs.nil) (Nat.le_of_ble_eq_true rfl)) h140_) rfl h141_)) rfl
abbrev R_fitting_cases_L1 (clauses : (List (List Int))) : ((List Tx)) → Rho := fun s1_ => [.un, .fz ((tT (tT tI)) clauses), .fz ((tL tS) s1_), .un, .un, .un]
theorem t_fitting_cases_L1 {m_ : Nat} (hm_ : 2 ≤ m_) (clauses : (List (List Int))) (s1_ : (List Tx)) (w_v1 : Int) (h : ok_fitting_cases_L1  s1_ w_v1) : SK (den Ws D m_) Ws [b_fitting_cases_L1] [.un, .fz ((tT (tT tI)) clauses), .fz ((tL tS) s1_), .fz (tI w_v1), .un, .un] (NC (R_fitting_cases_L1 (clauses)) (sh_fitting_cases_L1  s1_ w_v1)) := by
  unfold ok_fitting_cases_L1 at h
  obtain ⟨h146_, h147_⟩ := h
  refine SK.asgL (en := (tL tS)) (v := (s1_.flatMap fun (text : Tx) => (sgs ([110, 121] : Tx)).map fun (sign : Tx) => (text ++ sign))) (R := fun texts => [.un, .fz ((tT (tT tI)) clauses), .fz ((tL tS) texts), .fz (tI w_v1), .un, .un]) (EV.lc2G'0 (ea := tS) (eb := tS) (eg := tS) (xs := s1_) (p := fun (text : Tx) => true) (ys := fun (text : Tx) => (sgs ([110, 121] : Tx))) (q := fun (text : Tx) (sign : Tx) => true) (g := fun (text : Tx) (sign : Tx) => (text ++ sign)) (R := fun (text : Tx) => [.un, .fz ((tT (tT tI)) clauses), .fz ((tL tS) s1_), .fz (tI w_v1), .fz (tS text), .un]) (R1 := fun (text : Tx) (sign : Tx) => [.un, .fz ((tT (tT tI)) clauses), .fz ((tL tS) s1_), .fz (tI w_v1), .fz (tS text), .fz (tS sign)]) (IT.exL (e := tS) (EV.var rfl)) (fun _ => rfl) (fun text hx142_ => TSo.no) (fun text hx142_ hq143_ => (IT.exS (EV.str (t := ([110, 121] : Tx)) (by decide +kernel)))) (fun _ _ => rfl) (fun text hx142_ hq143_ sign hy144_ => TSo.no) (fun text hx142_ hq143_ sign hy144_ hr145_ => (EV.catS (EV.var rfl) (EV.var rfl) (h146_ _ hx142_ _ hy144_))) h147_) (fun _ => rfl) (okk := fun _ => True) trivial ?_
  intro texts _
  exact SK.done (SK.nil fun _ l_ => Le.trans (by (repeat (first | exact Le.nil | refine Le.same ?_ | refine Le.un ?_))) l_)
theorem t_fits_number {dp_ : Nat} (hn : 1 ≤ dp_) (number : Int) (case : Tx) (h : ok_fits_number number case) : den Ws D dp_ 12 [tI number, tS case] = some (tB (sh_fits_number number case)) := by
  obtain ⟨m_, rfl, hm_⟩ := dd hn
  unfold ok_fits_number at h
  refine (den_run (d := d_fits_number) rfl rfl).trans ?_
  show runD (den Ws D m_) Ws 2 b_fits_number _ = _
  refine SK.run (ρ := [.fz (tI number), .fz (tS case)]) rfl ?_
  have h153_ := h
  exact SK.ret (d := tB (decide ([gi case (((number).natAbs : Int) - (1 : Int))] = (if (decide ((0 : Int) < number)) then ([121] : Tx) else ([110] : Tx))))) (EV.cmp (dx := tS [gi case (((number).natAbs : Int) - (1 : Int))]) (dy := tS (if (decide ((0 : Int) < number)) then ([121] : Tx) else ([110] : Tx))) (EV.sgi (EV.var rfl) (EV.sub (EV.abs (EV.var rfl)) EV.int) h153_) (EV.ife (e := tS) (TS.bl (EV.cmp (dx := tI number) (dy := tI (0 : Int)) (EV.var rfl) EV.int C.gt)) (fun hq152_ => (EV.str (t := ([121] : Tx)) (by decide +kernel))) (fun hq152_ => (EV.str (t := ([110] : Tx)) (by decide +kernel)))) (C.eq (e := tS) EqE.S)) rfl
theorem t_fits_all {dp_ : Nat} (hn : 2 ≤ dp_) (clauses : (List (List Int))) (case : Tx) (h : ok_fits_all clauses case) : den Ws D dp_ 13 [(tT (tT tI)) clauses, tS case] = some (tB (sh_fits_all clauses case)) := by
  obtain ⟨m_, rfl, hm_⟩ := dd hn
  unfold ok_fits_all at h
  refine (den_run (d := d_fits_all) rfl rfl).trans ?_
  show runD (den Ws D m_) Ws 4 b_fits_all _ = _
  refine SK.run (ρ := [.fz ((tT (tT tI)) clauses), .fz (tS case), .un, .un]) rfl ?_
  have h154_ := h
  exact SK.ret (d := tB (clauses.all fun (clause : (List Int)) => (clause.any fun (number : Int) => (sh_fits_number (number) (case))))) (EV.all (ea := (tT tI)) (R := fun (clause : (List Int)) => [.fz ((tT (tT tI)) clauses), .fz (tS case), .fz ((tT tI) clause), .un]) (IT.exT (e := (tT tI)) (EV.var rfl)) (fun _ => rfl) (fun clause hx148_ => (EV.any (ea := tI) (R := fun (number : Int) => [.fz ((tT (tT tI)) clauses), .fz (tS case), .fz ((tT tI) clause), .fz (tI number)]) (IT.exT (e := tI) (EV.var rfl)) (fun _ => rfl) (fun number hx150_ => (EV.call (EVs.cons (EV.var rfl) (EVs.cons (EV.var rfl) EVs.nil)) (t_fits_number (Nat.le_trans (by decide) hm_) _ _ ((h154_ _ hx148_) _ hx150_))))))) rfl
theorem t_fitting_cases {dp_ : Nat} (hn : 3 ≤ dp_) (n : Int) (clauses : (List (List Int))) (h : ok_fitting_cases n clauses) : den Ws D dp_ 14 [tI n, (tT (tT tI)) clauses] = some ((tL tS) (sh_fitting_cases n clauses)) := by
  obtain ⟨m_, rfl, hm_⟩ := dd hn
  unfold ok_fitting_cases at h
  refine (den_run (d := d_fitting_cases) rfl rfl).trans ?_
  show runD (den Ws D m_) Ws 6 b_fitting_cases _ = _
  refine SK.run (ρ := [.fz (tI n), .fz ((tT (tT tI)) clauses), .un, .un, .un, .un]) rfl ?_
  refine SK.asgL (en := (tL tS)) (v := [([] : Tx)]) (R := fun texts => [.fz (tI n), .fz ((tT (tT tI)) clauses), .fz ((tL tS) texts), .un, .un, .un]) (EV.lst (EVs.cons (EV.str (t := ([] : Tx)) (by decide +kernel)) EVs.nil) (Nat.le_of_ble_eq_true rfl)) (fun _ => rfl) h ?_
  intro texts h
  obtain ⟨h159_, h160_, h⟩ := h
  refine SK.fold (S := (List Tx)) (ea := tI) (xs := (ivs (0 : Int) n)) (s0 := texts) (step := sh_fitting_cases_L1) (ok := ok_fitting_cases_L1) (R := (R_fitting_cases_L1 (clauses))) (R1 := (fun s1_ w_v1 => [.un, .fz ((tT (tT tI)) clauses), .fz ((tL tS) s1_), .fz (tI w_v1), .un, .un])) (IT.rng1 (EV.var rfl) h159_) (by (repeat (first | exact Le.nil | refine Le.same ?_ | refine Le.un ?_))) (fun _ _ => rfl) h160_ (fun s1_ w_v1 _ h => (t_fitting_cases_L1 (by exact hm_) (clauses)  s1_ w_v1 h)) h ?_
  intro texts h
  obtain ⟨h157_, h158_⟩ := h
  exact SK.ret (d := (tL tS) (texts.filter fun (text : Tx) => (sh_fits_all (clauses) (text)))) (EV.lcF (ea := tS) (R := fun (text : Tx) => [.un, .fz ((tT (tT tI)) clauses), .fz ((tL tS) texts), .un, .fz (tS text), .un]) (IT.exL (e := tS) (EV.var rfl)) h157_ (fun _ => rfl) (fun text hx155_ => (TS.bl (EV.call (EVs.cons (EV.var rfl) (EVs.cons (EV.var rfl) EVs.nil)) (t_fits_all (Nat.le_trans (by decide) hm_) _ _ (h158_ _ hx155_))))) (fun text hx155_ hq156_ => (EV.var rfl))) rfl
theorem t_signs_at {dp_ : Nat} (hn : 1 ≤ dp_) (words : (List Int)) (case : Tx) (h : ok_signs_at words case) : den Ws D dp_ 15 [(tT tI) words, tS case] = some (tS (sh_signs_at words case)) := by
  obtain ⟨m_, rfl, hm_⟩ := dd hn
  unfold ok_signs_at at h
  refine (den_run (d := d_signs_at) rfl rfl).trans ?_
  show runD (den Ws D m_) Ws 3 b_signs_at _ = _
  refine SK.run (ρ := [.fz ((tT tI) words), .fz (tS case), .un]) rfl ?_
  obtain ⟨h163_, h164_, h165_⟩ := h
  exact SK.ret (d := tS (joinS ([] : Tx) (words.map fun (letter : Int) => [gi case (letter - (1 : Int))]))) (EV.joinL (EV.str (t := ([] : Tx)) (by decide +kernel)) (EV.lc (ea := tI) (eb := tS) (R := fun (letter : Int) => [.fz ((tT tI) words), .fz (tS case), .fz (tI letter)]) (IT.exT (e := tI) (EV.var rfl)) h163_ (fun _ => rfl) (fun letter hx161_ => (EV.sgi (EV.var rfl) (EV.sub (EV.var rfl) EV.int) (h164_ _ hx161_)))) h165_) rfl
abbrev R_told_junction_L2 (n : Int) (second : (List (List Int))) (words : (List Int)) (one : Tx) : (Unit) → Rho := fun s2_ => [.fz (tI n), .un, .fz ((tT (tT tI)) second), .fz ((tT tI) words), .fz (tS one), .un]
theorem t_told_junction_L2 {m_ : Nat} (hm_ : 3 ≤ m_) (n : Int) (second : (List (List Int))) (words : (List Int)) (one : Tx) (s2_ : Unit) (other : Tx) (h : ok_told_junction_L2 (words) (one) s2_ other) : SK (den Ws D m_) Ws [b_told_junction_L1] [.fz (tI n), .un, .fz ((tT (tT tI)) second), .fz ((tT tI) words), .fz (tS one), .fz (tS other)] (LP (R_told_junction_L2 (n) (second) (words) (one)) (tO (tP2 tS tS)) (sh_told_junction_L2 (words) (one) s2_ other)) := by
  unfold ok_told_junction_L2 at h
  obtain ⟨h167_, h168_⟩ := h
  refine SK.iteL (t := (decide ((sh_signs_at (words) (one)) = (sh_signs_at (words) (other))))) (TS.bl (EV.cmp (dx := tS (sh_signs_at (words) (one))) (dy := tS (sh_signs_at (words) (other))) (EV.call (EVs.cons (EV.var rfl) (EVs.cons (EV.var rfl) EVs.nil)) (t_signs_at (Nat.le_trans (by decide) hm_) _ _ h167_)) (EV.call (EVs.cons (EV.var rfl) (EVs.cons (EV.var rfl) EVs.nil)) (t_signs_at (Nat.le_trans (by decide) hm_) _ _ h168_)) (C.eq (e := tS) EqE.S))) (ifT _) (fun hq166_ h => ?_) (fun hq166_ h => ?_)
  · exact SK.ret (d := (tO (tP2 tS tS)) (some (one, other))) (EV.sm (en := (tP2 tS tS)) (EV.tup (EVs.cons (EV.var rfl) (EVs.cons (EV.var rfl) EVs.nil)) (Nat.le_of_ble_eq_true rfl))) rfl
  · refine SK.done ?_
    exact SK.done (SK.nil fun _ l_ => Le.trans (by (repeat (first | exact Le.nil | refine Le.same ?_ | refine Le.un ?_))) l_)
abbrev R_told_junction_L1 (n : Int) (second : (List (List Int))) (words : (List Int)) : (Unit) → Rho := fun s1_ => [.fz (tI n), .un, .fz ((tT (tT tI)) second), .fz ((tT tI) words), .un, .un]
theorem t_told_junction_L1 {m_ : Nat} (hm_ : 3 ≤ m_) (n : Int) (second : (List (List Int))) (words : (List Int)) (s1_ : Unit) (one : Tx) (h : ok_told_junction_L1 (n) (second) (words) s1_ one) : SK (den Ws D m_) Ws [b_told_junction_L2] [.fz (tI n), .un, .fz ((tT (tT tI)) second), .fz ((tT tI) words), .fz (tS one), .un] (LP (R_told_junction_L1 (n) (second) (words)) (tO (tP2 tS tS)) (sh_told_junction_L1 (n) (second) (words) s1_ one)) := by
  unfold ok_told_junction_L1 at h
  obtain ⟨h170_, h171_⟩ := h
  refine SK.forL (S := Unit) (ea := tS) (xs := (sh_fitting_cases (n) (second))) (s0 := ()) (step := (sh_told_junction_L2 (words) (one))) (ok := (ok_told_junction_L2 (words) (one))) (eb := (tO (tP2 tS tS))) (R := (R_told_junction_L2 (n) (second) (words) (one))) (R1 := (fun s2_ other => [.fz (tI n), .un, .fz ((tT (tT tI)) second), .fz ((tT tI) words), .fz (tS one), .fz (tS other)])) (IT.exL (e := tS) (EV.call (EVs.cons (EV.var rfl) (EVs.cons (EV.var rfl) EVs.nil)) (t_fitting_cases (Nat.le_trans (by decide) hm_) _ _ h170_))) (by (repeat (first | exact Le.nil | refine Le.same ?_ | refine Le.un ?_))) (fun _ _ => rfl) h171_ (fun s2_ other _ h => (t_told_junction_L2 (by exact hm_) (n) (second) (words) (one)  s2_ other h)) (fun _ => rfl) (okk := fun _ => True) (goP_T _) ?_
  intro j169_ h
  exact SK.done (SK.nil fun _ l_ => Le.trans (by (repeat (first | exact Le.nil | refine Le.same ?_ | refine Le.un ?_))) l_)
theorem t_told_junction {dp_ : Nat} (hn : 4 ≤ dp_) (n : Int) (first : (List (List Int))) (second : (List (List Int))) (words : (List Int)) (h : ok_told_junction n first second words) : den Ws D dp_ 18 [tI n, (tT (tT tI)) first, (tT (tT tI)) second, (tT tI) words] = some ((tO (tP2 tS tS)) (sh_told_junction n first second words)) := by
  obtain ⟨m_, rfl, hm_⟩ := dd hn
  unfold ok_told_junction at h
  refine (den_run (d := d_told_junction) rfl rfl).trans ?_
  show runD (den Ws D m_) Ws 6 b_told_junction _ = _
  refine SK.run (ρ := [.fz (tI n), .fz ((tT (tT tI)) first), .fz ((tT (tT tI)) second), .fz ((tT tI) words), .un, .un]) rfl ?_
  obtain ⟨h173_, h174_⟩ := h
  refine SK.forL (S := Unit) (ea := tS) (xs := (sh_fitting_cases (n) (first))) (s0 := ()) (step := (sh_told_junction_L1 (n) (second) (words))) (ok := (ok_told_junction_L1 (n) (second) (words))) (eb := (tO (tP2 tS tS))) (R := (R_told_junction_L1 (n) (second) (words))) (R1 := (fun s1_ one => [.fz (tI n), .un, .fz ((tT (tT tI)) second), .fz ((tT tI) words), .fz (tS one), .un])) (IT.exL (e := tS) (EV.call (EVs.cons (EV.var rfl) (EVs.cons (EV.var rfl) EVs.nil)) (t_fitting_cases (Nat.le_trans (by decide) hm_) _ _ h173_))) (by (repeat (first | exact Le.nil | refine Le.same ?_ | refine Le.un ?_))) (fun _ _ => rfl) h174_ (fun s1_ one _ h => (t_told_junction_L1 (by exact hm_) (n) (second) (words)  s1_ one h)) (fun _ => rfl) (okk := fun _ => True) (goP_T _) ?_
  intro j172_ h
  exact SK.ret (d := (tO (tP2 tS tS)) (none : (Option (Tx × Tx)))) EV.nn0 rfl
abbrev R_place_of_signs_L1  : (Int) → Rho := fun s1_ => [.un, .fz (tI s1_), .un]
theorem t_place_of_signs_L1 {m_ : Nat} (hm_ : 0 ≤ m_)  (s1_ : Int) (sign : Tx) : SK (den Ws D m_) Ws [b_place_of_signs_L1] [.un, .fz (tI s1_), .fz (tS sign)] (NC (R_place_of_signs_L1 ) (sh_place_of_signs_L1  s1_ sign)) := by
  refine SK.asgL (en := tI) (v := (((2 : Int) * s1_) + (if (decide (sign = ([121] : Tx))) then (1 : Int) else (0 : Int)))) (R := fun place => [.un, .fz (tI place), .fz (tS sign)]) (EV.add (EV.mul EV.int (EV.var rfl) (mOk.l (by decide))) (EV.ife (e := tI) (TS.bl (EV.cmp (dx := tS sign) (dy := tS ([121] : Tx)) (EV.var rfl) (EV.str (t := ([121] : Tx)) (by decide +kernel)) (C.eq (e := tS) EqE.S))) (fun hq178_ => EV.int) (fun hq178_ => EV.int))) (fun _ => rfl) (okk := fun _ => True) trivial ?_
  intro place _
  exact SK.done (SK.nil fun _ l_ => Le.trans (by (repeat (first | exact Le.nil | refine Le.same ?_ | refine Le.un ?_))) l_)
theorem t_place_of_signs {dp_ : Nat} (hn : 1 ≤ dp_) (signs : Tx) : den Ws D dp_ 16 [tS signs] = some (tI (sh_place_of_signs signs)) := by
  obtain ⟨m_, rfl, hm_⟩ := dd hn
  refine (den_run (d := d_place_of_signs) rfl rfl).trans ?_
  show runD (den Ws D m_) Ws 3 b_place_of_signs _ = _
  refine SK.run (ρ := [.fz (tS signs), .un, .un]) rfl ?_
  refine SK.asgL (en := tI) (v := (0 : Int)) (R := fun place => [.fz (tS signs), .fz (tI place), .un]) EV.int (fun _ => rfl) (okk := fun _ => True) trivial ?_
  intro place _
  refine SK.fold (S := Int) (ea := tS) (xs := (sgs signs)) (s0 := place) (step := sh_place_of_signs_L1) (R := R_place_of_signs_L1) (R1 := (fun s1_ sign => [.un, .fz (tI s1_), .fz (tS sign)])) (IT.exS (EV.var rfl)) (by (repeat (first | exact Le.nil | refine Le.same ?_ | refine Le.un ?_))) (fun _ _ => rfl) (ok := fun _ _ => True) (okF_T _ _ _) (fun s1_ sign _ h => (t_place_of_signs_L1 (by exact hm_)   s1_ sign)) (okk := fun _ => True) trivial ?_
  intro place h
  exact SK.ret (d := tI place) (EV.var rfl) rfl
theorem t_told_go_between {dp_ : Nat} (hn : 5 ≤ dp_) (n : Int) (first : (List (List Int))) (second : (List (List Int))) (words : (List Int)) (h : ok_told_go_between n first second words) : den Ws D dp_ 20 [tI n, (tT (tT tI)) first, (tT (tT tI)) second, (tT tI) words] = some ((tO tS) (sh_told_go_between n first second words)) := by
  obtain ⟨m_, rfl, hm_⟩ := dd hn
  unfold ok_told_go_between at h
  refine (den_run (d := d_told_go_between) rfl rfl).trans ?_
  show runD (den Ws D m_) Ws 7 b_told_go_between _ = _
  refine SK.run (ρ := [.fz (tI n), .fz ((tT (tT tI)) first), .fz ((tT (tT tI)) second), .fz ((tT tI) words), .un, .un, .un]) rfl ?_
  obtain ⟨h188_, h⟩ := h
  refine SK.iteL (t := ((sh_told_junction (n) (first) (second) (words))).isSome) (TS.bl (EV.nisn (d := (tO (tP2 tS tS)) (sh_told_junction (n) (first) (second) (words))) (EV.call (EVs.cons (EV.var rfl) (EVs.cons (EV.var rfl) (EVs.cons (EV.var rfl) (EVs.cons (EV.var rfl) EVs.nil)))) (t_told_junction (Nat.le_trans (by decide) hm_) _ _ _ _ h188_)) (isN_O' NN.P2 _))) h (fun hq175_ h => ?_) (fun hq175_ h => ?_)
  · exact SK.ret (d := (tO tS) (none : (Option Tx))) EV.nn0 rfl
  · refine SK.done ?_
    obtain ⟨h185_, h186_, h187_, h⟩ := h
    refine SK.asgL (en := (tL tI)) (v := ((sh_fitting_cases (n) (first)).map fun (case : Tx) => (sh_place_of_signs ((sh_signs_at (words) (case)))))) (R := fun places => [.fz (tI n), .fz ((tT (tT tI)) first), .fz ((tT (tT tI)) second), .fz ((tT tI) words), .un, .fz ((tL tI) places), .un]) (EV.lc (ea := tS) (eb := tI) (R := fun (case : Tx) => [.fz (tI n), .fz ((tT (tT tI)) first), .fz ((tT (tT tI)) second), .fz ((tT tI) words), .fz (tS case), .un, .un]) (IT.exL (e := tS) (EV.call (EVs.cons (EV.var rfl) (EVs.cons (EV.var rfl) EVs.nil)) (t_fitting_cases (Nat.le_trans (by decide) hm_) _ _ h185_))) h186_ (fun _ => rfl) (fun case hx176_ => (EV.call (EVs.cons (EV.call (EVs.cons (EV.var rfl) (EVs.cons (EV.var rfl) EVs.nil)) (t_signs_at (Nat.le_trans (by decide) hm_) _ _ (h187_ _ hx176_))) EVs.nil) (t_place_of_signs (Nat.le_trans (by decide) hm_) _)))) (fun _ => rfl) h ?_
    intro places h
    obtain ⟨h182_, h183_, h184_⟩ := h
    exact SK.ret (d := (tO tS) (some (joinS ([] : Tx) ((ivs (0 : Int) ((1 : Int) * 2 ^ (((words).length : Int)).toNat)).map fun (place : Int) => (if (decide (place ∈ places)) then ([49] : Tx) else ([48] : Tx)))))) (EV.sm (en := tS) (EV.joinL (EV.str (t := ([] : Tx)) (by decide +kernel)) (EV.lc (ea := tI) (eb := tS) (R := fun (place : Int) => [.fz (tI n), .fz ((tT (tT tI)) first), .fz ((tT (tT tI)) second), .fz ((tT tI) words), .un, .fz ((tL tI) places), .fz (tI place)]) (IT.rng1 (EV.shl EV.int (EV.lenT (e := tI) (EV.var rfl)) h182_) h183_) (rOk.lim h183_) (fun _ => rfl) (fun place hx179_ => (EV.ife (e := tS) (TS.bl (EV.cmp (dx := tI place) (dy := (tL tI) places) (EV.var rfl) (EV.var rfl) (C.inL (e := tI) EqE.I EqE.I))) (fun hq181_ => (EV.str (t := ([49] : Tx)) (by decide +kernel))) (fun hq181_ => (EV.str (t := ([48] : Tx)) (by decide +kernel)))))) h184_)) rfl
theorem t_told_definition {dp_ : Nat} (hn : 6 ≤ dp_) (n : Int) (clauses : (List (List Int))) (words : (List Int)) (letter : Int) (h : ok_told_definition n clauses words letter) : den Ws D dp_ 22 [tI n, (tT (tT tI)) clauses, (tT tI) words, tI letter] = some ((tO tS) (sh_told_definition n clauses words letter)) := by
  obtain ⟨m_, rfl, hm_⟩ := dd hn
  unfold ok_told_definition at h
  refine (den_run (d := d_told_definition) rfl rfl).trans ?_
  show runD (den Ws D m_) Ws 4 b_told_definition _ = _
  refine SK.run (ρ := [.fz (tI n), .fz ((tT (tT tI)) clauses), .fz ((tT tI) words), .fz (tI letter)]) rfl ?_
  obtain ⟨h189_, h190_, h191_⟩ := h
  exact SK.ret (d := (tO tS) (sh_told_go_between (n) ((sh_with_clause (clauses) (letter))) ((sh_with_clause (clauses) ((-letter)))) (words))) (EV.call (EVs.cons (EV.var rfl) (EVs.cons (EV.call (EVs.cons (EV.var rfl) (EVs.cons (EV.var rfl) EVs.nil)) (t_with_clause (Nat.le_trans (by decide) hm_) _ _ h189_)) (EVs.cons (EV.call (EVs.cons (EV.var rfl) (EVs.cons (EV.neg (EV.var rfl)) EVs.nil)) (t_with_clause (Nat.le_trans (by decide) hm_) _ _ h190_)) (EVs.cons (EV.var rfl) EVs.nil)))) (t_told_go_between (Nat.le_trans (by decide) hm_) _ _ _ _ h191_)) rfl
theorem t_told_double {dp_ : Nat} (hn : 5 ≤ dp_) (n : Int) (clauses : (List (List Int))) (words : (List Int)) (letter : Int) (h : ok_told_double n clauses words letter) : den Ws D dp_ 24 [tI n, (tT (tT tI)) clauses, (tT tI) words, tI letter] = some ((tO (tP2 tS tS)) (sh_told_double n clauses words letter)) := by
  obtain ⟨m_, rfl, hm_⟩ := dd hn
  unfold ok_told_double at h
  refine (den_run (d := d_told_double) rfl rfl).trans ?_
  show runD (den Ws D m_) Ws 4 b_told_double _ = _
  refine SK.run (ρ := [.fz (tI n), .fz ((tT (tT tI)) clauses), .fz ((tT tI) words), .fz (tI letter)]) rfl ?_
  obtain ⟨h193_, h194_, h195_⟩ := h
  exact SK.ret (d := (tO (tP2 tS tS)) (sh_told_junction (n) ((sh_with_clause (clauses) ((-letter)))) ((sh_with_clause (clauses) (letter))) (words))) (EV.call (EVs.cons (EV.var rfl) (EVs.cons (EV.call (EVs.cons (EV.var rfl) (EVs.cons (EV.neg (EV.var rfl)) EVs.nil)) (t_with_clause (Nat.le_trans (by decide) hm_) _ _ h193_)) (EVs.cons (EV.call (EVs.cons (EV.var rfl) (EVs.cons (EV.var rfl) EVs.nil)) (t_with_clause (Nat.le_trans (by decide) hm_) _ _ h194_)) (EVs.cons (EV.var rfl) EVs.nil)))) (t_told_junction (Nat.le_trans (by decide) hm_) _ _ _ _ h195_)) rfl
theorem t_is_bits {dp_ : Nat} (hn : 1 ≤ dp_) (size : Int) (text : Tx) (h : ok_is_bits size text) : den Ws D dp_ 17 [tI size, tS text] = some (tB (sh_is_bits size text)) := by
  obtain ⟨m_, rfl, hm_⟩ := dd hn
  unfold ok_is_bits at h
  refine (den_run (d := d_is_bits) rfl rfl).trans ?_
  show runD (den Ws D m_) Ws 3 b_is_bits _ = _
  refine SK.run (ρ := [.fz (tI size), .fz (tS text), .un]) rfl ?_
  obtain ⟨h201_, h202_⟩ := h
  exact SK.ret (d := tB ((decide (((text).length : Int) = ((1 : Int) * 2 ^ (size).toNat))) && ((sgs text).all fun (sign : Tx) => (decide (sign ∈ [([48] : Tx), ([49] : Tx)]))))) (EV.and (EV.cmp (dx := tI ((text).length : Int)) (dy := tI ((1 : Int) * 2 ^ (size).toNat)) (EV.lenS (EV.var rfl) h201_) (EV.shl EV.int (EV.var rfl) h202_) (C.eq (e := tI) EqE.I)) (fun hq198_ => (EV.all (ea := tS) (R := fun (sign : Tx) => [.fz (tI size), .fz (tS text), .fz (tS sign)]) (IT.exS (EV.var rfl)) (fun _ => rfl) (fun sign hx199_ => (EV.cmp (dx := tS sign) (dy := (tT tS) [([48] : Tx), ([49] : Tx)]) (EV.var rfl) (EV.tup (EVs.cons (EV.str (t := ([48] : Tx)) (by decide +kernel)) (EVs.cons (EV.str (t := ([49] : Tx)) (by decide +kernel)) EVs.nil)) (Nat.le_of_ble_eq_true rfl)) (C.inT (e := tS) EqE.S EqE.S)))))) rfl
abbrev R_is_go_between_L2 (n : Int) (words : (List Int)) (text : Tx) (sign : Tx) : (Unit) → Rho := fun s2_ => [.fz (tI n), .un, .un, .fz ((tT tI) words), .fz (tS text), .un, .fz (tS sign), .un]
theorem t_is_go_between_L2 {m_ : Nat} (hm_ : 3 ≤ m_) (n : Int) (words : (List Int)) (text : Tx) (sign : Tx) (s2_ : Unit) (case : Tx) (h : ok_is_go_between_L2 (words) (text) (sign) s2_ case) : SK (den Ws D m_) Ws [b_is_go_between_L1] [.fz (tI n), .un, .un, .fz ((tT tI) words), .fz (tS text), .un, .fz (tS sign), .fz (tS case)] (LP (R_is_go_between_L2 (n) (words) (text) (sign)) tB (sh_is_go_between_L2 (words) (text) (sign) s2_ case)) := by
  unfold ok_is_go_between_L2 at h
  obtain ⟨h206_, h207_⟩ := h
  refine SK.iteL (t := (!decide ([gi text (sh_place_of_signs ((sh_signs_at (words) (case))))] = sign))) (TS.bl (EV.cmp (dx := tS [gi text (sh_place_of_signs ((sh_signs_at (words) (case))))]) (dy := tS sign) (EV.sgi (EV.var rfl) (EV.call (EVs.cons (EV.call (EVs.cons (EV.var rfl) (EVs.cons (EV.var rfl) EVs.nil)) (t_signs_at (Nat.le_trans (by decide) hm_) _ _ h206_)) EVs.nil) (t_place_of_signs (Nat.le_trans (by decide) hm_) _)) h207_) (EV.var rfl) (C.ne (e := tS) EqE.S))) (ifT _) (fun hq205_ h => ?_) (fun hq205_ h => ?_)
  · exact SK.ret (d := tB false) EV.bool rfl
  · refine SK.done ?_
    exact SK.done (SK.nil fun _ l_ => Le.trans (by (repeat (first | exact Le.nil | refine Le.same ?_ | refine Le.un ?_))) l_)
abbrev R_is_go_between_L1 (n : Int) (words : (List Int)) (text : Tx) : (Unit) → Rho := fun s1_ => [.fz (tI n), .un, .un, .fz ((tT tI) words), .fz (tS text), .un, .un, .un]
theorem t_is_go_between_L1 {m_ : Nat} (hm_ : 3 ≤ m_) (n : Int) (words : (List Int)) (text : Tx) (s1_ : Unit) (q204_ : ((List (List Int)) × Tx)) (h : ok_is_go_between_L1 (n) (words) (text) s1_ q204_) : SK (den Ws D m_) Ws [b_is_go_between_L2] [.fz (tI n), .un, .un, .fz ((tT tI) words), .fz (tS text), .fz ((tT (tT tI)) q204_.1), .fz (tS q204_.2), .un] (LP (R_is_go_between_L1 (n) (words) (text)) tB (sh_is_go_between_L1 (n) (words) (text) s1_ q204_)) := by
  unfold ok_is_go_between_L1 at h
  obtain ⟨h209_, h210_⟩ := h
  refine SK.forL (S := Unit) (ea := tS) (xs := (sh_fitting_cases (n) (q204_.1))) (s0 := ()) (step := (sh_is_go_between_L2 (words) (text) (q204_.2))) (ok := (ok_is_go_between_L2 (words) (text) (q204_.2))) (eb := tB) (R := (R_is_go_between_L2 (n) (words) (text) (q204_.2))) (R1 := (fun s2_ case => [.fz (tI n), .un, .un, .fz ((tT tI) words), .fz (tS text), .un, .fz (tS q204_.2), .fz (tS case)])) (IT.exL (e := tS) (EV.call (EVs.cons (EV.var rfl) (EVs.cons (EV.var rfl) EVs.nil)) (t_fitting_cases (Nat.le_trans (by decide) hm_) _ _ h209_))) (by (repeat (first | exact Le.nil | refine Le.same ?_ | refine Le.un ?_))) (fun _ _ => rfl) h210_ (fun s2_ case _ h => (t_is_go_between_L2 (by exact hm_) (n) (words) (text) (q204_.2)  s2_ case h)) (fun _ => rfl) (okk := fun _ => True) (goP_T _) ?_
  intro j208_ h
  exact SK.done (SK.nil fun _ l_ => Le.trans (by (repeat (first | exact Le.nil | refine Le.same ?_ | refine Le.un ?_))) l_)
theorem t_is_go_between {dp_ : Nat} (hn : 4 ≤ dp_) (n : Int) (first : (List (List Int))) (second : (List (List Int))) (words : (List Int)) (text : Tx) (h : ok_is_go_between n first second words text) : den Ws D dp_ 19 [tI n, (tT (tT tI)) first, (tT (tT tI)) second, (tT tI) words, tS text] = some (tB (sh_is_go_between n first second words text)) := by
  obtain ⟨m_, rfl, hm_⟩ := dd hn
  unfold ok_is_go_between at h
  refine (den_run (d := d_is_go_between) rfl rfl).trans ?_
  show runD (den Ws D m_) Ws 8 b_is_go_between _ = _
  refine SK.run (ρ := [.fz (tI n), .fz ((tT (tT tI)) first), .fz ((tT (tT tI)) second), .fz ((tT tI) words), .fz (tS text), .un, .un, .un]) rfl ?_
  obtain ⟨h213_, h⟩ := h
  refine SK.iteL (t := (!(sh_is_bits (((words).length : Int)) (text)))) (TS.bl (EV.not (TS.bl (EV.call (EVs.cons (EV.lenT (e := tI) (EV.var rfl)) (EVs.cons (EV.var rfl) EVs.nil)) (t_is_bits (Nat.le_trans (by decide) hm_) _ _ h213_))))) h (fun hq203_ h => ?_) (fun hq203_ h => ?_)
  · exact SK.ret (d := tB false) EV.bool rfl
  · refine SK.done ?_
    have h212_ := h
    refine SK.forL (S := Unit) (ea := (tP2 (tT (tT tI)) tS)) (xs := [(first, ([49] : Tx)), (second, ([48] : Tx))]) (s0 := ()) (step := (sh_is_go_between_L1 (n) (words) (text))) (ok := (ok_is_go_between_L1 (n) (words) (text))) (eb := tB) (R := (R_is_go_between_L1 (n) (words) (text))) (R1 := (fun s1_ q204_ => [.fz (tI n), .un, .un, .fz ((tT tI) words), .fz (tS text), .fz ((tT (tT tI)) q204_.1), .fz (tS q204_.2), .un])) (IT.exT (e := (tP2 (tT (tT tI)) tS)) (EV.tup (EVs.cons (EV.tup (EVs.cons (EV.var rfl) (EVs.cons (EV.str (t := ([49] : Tx)) (by decide +kernel)) EVs.nil)) (Nat.le_of_ble_eq_true rfl)) (EVs.cons (EV.tup (EVs.cons (EV.var rfl) (EVs.cons (EV.str (t := ([48] : Tx)) (by decide +kernel)) EVs.nil)) (Nat.le_of_ble_eq_true rfl)) EVs.nil)) (Nat.le_of_ble_eq_true rfl))) (by (repeat (first | exact Le.nil | refine Le.same ?_ | refine Le.un ?_))) (fun _ _ => rfl) h212_ (fun s1_ q204_ _ h => (t_is_go_between_L1 (by exact hm_) (n) (words) (text)  s1_ q204_ h)) (fun _ => rfl) (okk := fun _ => True) (goP_T _) ?_
    intro j211_ h
    exact SK.ret (d := tB true) EV.bool rfl
theorem t_is_definition {dp_ : Nat} (hn : 5 ≤ dp_) (n : Int) (clauses : (List (List Int))) (words : (List Int)) (letter : Int) (text : Tx) (h : ok_is_definition n clauses words letter text) : den Ws D dp_ 23 [tI n, (tT (tT tI)) clauses, (tT tI) words, tI letter, tS text] = some (tB (sh_is_definition n clauses words letter text)) := by
  obtain ⟨m_, rfl, hm_⟩ := dd hn
  unfold ok_is_definition at h
  refine (den_run (d := d_is_definition) rfl rfl).trans ?_
  show runD (den Ws D m_) Ws 5 b_is_definition _ = _
  refine SK.run (ρ := [.fz (tI n), .fz ((tT (tT tI)) clauses), .fz ((tT tI) words), .fz (tI letter), .fz (tS text)]) rfl ?_
  obtain ⟨h214_, h215_, h216_⟩ := h
  exact SK.ret (d := tB (sh_is_go_between (n) ((sh_with_clause (clauses) (letter))) ((sh_with_clause (clauses) ((-letter)))) (words) (text))) (EV.call (EVs.cons (EV.var rfl) (EVs.cons (EV.call (EVs.cons (EV.var rfl) (EVs.cons (EV.var rfl) EVs.nil)) (t_with_clause (Nat.le_trans (by decide) hm_) _ _ h214_)) (EVs.cons (EV.call (EVs.cons (EV.var rfl) (EVs.cons (EV.neg (EV.var rfl)) EVs.nil)) (t_with_clause (Nat.le_trans (by decide) hm_) _ _ h215_)) (EVs.cons (EV.var rfl) (EVs.cons (EV.var rfl) EVs.nil))))) (t_is_go_between (Nat.le_trans (by decide) hm_) _ _ _ _ _ h216_)) rfl
abbrev R_law_L4 (script : (List Int)) (draws : (List Int)) (n : Int) (circuit : (List (Int × Int))) (letters : Int) (clauses : (List (List Int))) (runs : (List Tx)) (first : (List Int)) (wire : Int) (function : Tx) (place : Int) : (Unit) → Rho := fun s4_ => [.fz ((tL tI) script), .un, .fz ((tL tI) draws), .fz (tI n), .fz ((tT (tP2 tI tI)) circuit), .fz (tI letters), .fz ((tT (tT tI)) clauses), .un, .fz ((tL tS) runs), .un, .un, .un, .un, .un, .un, .un, .un, .un, .fz ((tT tI) first), .fz (tI wire), .fz (tS function), .fz (tI place), .un, .un]
theorem t_law_L4 {m_ : Nat} (hm_ : 10 ≤ m_) (script : (List Int)) (draws : (List Int)) (n : Int) (circuit : (List (Int × Int))) (letters : Int) (clauses : (List (List Int))) (runs : (List Tx)) (first : (List Int)) (wire : Int) (function : Tx) (place : Int) (s4_ : Unit) (text : Tx) (h : ok_law_L4 (letters) (clauses) (first) (wire) (function) s4_ text) : SK (den Ws D m_) Ws [b_law_L1] [.fz ((tL tI) script), .un, .fz ((tL tI) draws), .fz (tI n), .fz ((tT (tP2 tI tI)) circuit), .fz (tI letters), .fz ((tT (tT tI)) clauses), .un, .fz ((tL tS) runs), .un, .un, .un, .un, .un, .un, .un, .un, .un, .fz ((tT tI) first), .fz (tI wire), .fz (tS function), .fz (tI place), .un, .fz (tS text)] (LP (R_law_L4 (script) (draws) (n) (circuit) (letters) (clauses) (runs) (first) (wire) (function) (place)) tB (sh_law_L4 (letters) (clauses) (first) (wire) (function) s4_ text)) := by
  unfold ok_law_L4 at h
  have h218_ := h
  refine SK.iteL (t := (!(decide ((sh_is_definition (letters) (clauses) (first) ((wire + (1 : Int))) (text)) = (decide (text = function)))))) (TS.bl (EV.not (TS.bl (EV.call (EVs.cons (EV.call (EVs.cons (EV.var rfl) (EVs.cons (EV.var rfl) (EVs.cons (EV.var rfl) (EVs.cons (EV.add (EV.var rfl) EV.int) (EVs.cons (EV.var rfl) EVs.nil))))) (t_is_definition (Nat.le_trans (by decide) hm_) _ _ _ _ _ h218_)) (EVs.cons (EV.cmp (dx := tS text) (dy := tS function) (EV.var rfl) (EV.var rfl) (C.eq (e := tS) EqE.S)) EVs.nil)) (isD_call (e := tB) isD DqE.B EqE.B (Nat.le_trans (by decide) hm_) (pl_B _)))))) (ifT _) (fun hq217_ h => ?_) (fun hq217_ h => ?_)
  · exact SK.ret (d := tB false) EV.bool rfl
  · refine SK.done ?_
    exact SK.done (SK.nil fun _ l_ => Le.trans (by (repeat (first | exact Le.nil | refine Le.same ?_ | refine Le.un ?_))) l_)
abbrev R_place_of_L1  : (Int) → Rho := fun s1_ => [.un, .fz (tI s1_), .un]
theorem t_place_of_L1 {m_ : Nat} (hm_ : 0 ≤ m_)  (s1_ : Int) (answer : Int) : SK (den Ws D m_) Ws [b_place_of_L1] [.un, .fz (tI s1_), .fz (tI answer)] (NC (R_place_of_L1 ) (sh_place_of_L1  s1_ answer)) := by
  refine SK.asgL (en := tI) (v := (((2 : Int) * s1_) + answer)) (R := fun place => [.un, .fz (tI place), .fz (tI answer)]) (EV.add (EV.mul EV.int (EV.var rfl) (mOk.l (by decide))) (EV.var rfl)) (fun _ => rfl) (okk := fun _ => True) trivial ?_
  intro place _
  exact SK.done (SK.nil fun _ l_ => Le.trans (by (repeat (first | exact Le.nil | refine Le.same ?_ | refine Le.un ?_))) l_)
theorem t_place_of {dp_ : Nat} (hn : 1 ≤ dp_) (answers : (List Int)) : den Ws D dp_ 25 [(tT tI) answers] = some (tI (sh_place_of answers)) := by
  obtain ⟨m_, rfl, hm_⟩ := dd hn
  refine (den_run (d := d_place_of) rfl rfl).trans ?_
  show runD (den Ws D m_) Ws 3 b_place_of _ = _
  refine SK.run (ρ := [.fz ((tT tI) answers), .un, .un]) rfl ?_
  refine SK.asgL (en := tI) (v := (0 : Int)) (R := fun place => [.fz ((tT tI) answers), .fz (tI place), .un]) EV.int (fun _ => rfl) (okk := fun _ => True) trivial ?_
  intro place _
  refine SK.fold (S := Int) (ea := tI) (xs := answers) (s0 := place) (step := sh_place_of_L1) (R := R_place_of_L1) (R1 := (fun s1_ answer => [.un, .fz (tI s1_), .fz (tI answer)])) (IT.exT (e := tI) (EV.var rfl)) (by (repeat (first | exact Le.nil | refine Le.same ?_ | refine Le.un ?_))) (fun _ _ => rfl) (ok := fun _ _ => True) (okF_T _ _ _) (fun s1_ answer _ h => (t_place_of_L1 (by exact hm_)   s1_ answer)) (okk := fun _ => True) trivial ?_
  intro place h
  exact SK.ret (d := tI place) (EV.var rfl) rfl
theorem t_value_at {dp_ : Nat} (hn : 2 ≤ dp_) (n : Int) (function : Tx) (answers : (List Int)) (h : ok_value_at n function answers) : den Ws D dp_ 26 [tI n, tS function, (tT tI) answers] = some (tS (sh_value_at n function answers)) := by
  obtain ⟨m_, rfl, hm_⟩ := dd hn
  unfold ok_value_at at h
  refine (den_run (d := d_value_at) rfl rfl).trans ?_
  show runD (den Ws D m_) Ws 3 b_value_at _ = _
  refine SK.run (ρ := [.fz (tI n), .fz (tS function), .fz ((tT tI) answers)]) rfl ?_
  have h220_ := h
  exact SK.ret (d := tS [gi function (sh_place_of ((cut answers none (some n))))]) (EV.sgi (EV.var rfl) (EV.call (EVs.cons (EV.slT (e := tI) (EV.var rfl) EVo.no (EVo.yes (EV.var rfl))) EVs.nil) (t_place_of (Nat.le_trans (by decide) hm_) _)) h220_) rfl
abbrev R_law_L3 (script : (List Int)) (draws : (List Int)) (n : Int) (circuit : (List (Int × Int))) (letters : Int) (clauses : (List (List Int))) (runs : (List Tx)) (first : (List Int)) : (Unit) → Rho := fun s3_ => [.fz ((tL tI) script), .un, .fz ((tL tI) draws), .fz (tI n), .fz ((tT (tP2 tI tI)) circuit), .fz (tI letters), .fz ((tT (tT tI)) clauses), .un, .fz ((tL tS) runs), .un, .un, .un, .un, .un, .un, .un, .un, .un, .fz ((tT tI) first), .un, .un, .un, .un, .un]
theorem t_law_L3 {m_ : Nat} (hm_ : 10 ≤ m_) (script : (List Int)) (draws : (List Int)) (n : Int) (circuit : (List (Int × Int))) (letters : Int) (clauses : (List (List Int))) (runs : (List Tx)) (first : (List Int)) (s3_ : Unit) (wire : Int) (h : ok_law_L3 (draws) (n) (circuit) (letters) (clauses) (runs) (first) s3_ wire) : SK (den Ws D m_) Ws [b_law_L2] [.fz ((tL tI) script), .un, .fz ((tL tI) draws), .fz (tI n), .fz ((tT (tP2 tI tI)) circuit), .fz (tI letters), .fz ((tT (tT tI)) clauses), .un, .fz ((tL tS) runs), .un, .un, .un, .un, .un, .un, .un, .un, .un, .fz ((tT tI) first), .fz (tI wire), .un, .un, .un, .un] (LP (R_law_L3 (script) (draws) (n) (circuit) (letters) (clauses) (runs) (first)) tB (sh_law_L3 (draws) (n) (circuit) (letters) (clauses) (runs) (first) s3_ wire)) := by
  unfold ok_law_L3 at h
  obtain ⟨h242_, h243_, h244_, h⟩ := h
  refine SK.asgL (en := tS) (v := (joinS ([] : Tx) (runs.map fun (some : Tx) => (if (decide ([gi some wire] = ([121] : Tx))) then ([49] : Tx) else ([48] : Tx))))) (R := fun function => [.fz ((tL tI) script), .un, .fz ((tL tI) draws), .fz (tI n), .fz ((tT (tP2 tI tI)) circuit), .fz (tI letters), .fz ((tT (tT tI)) clauses), .un, .fz ((tL tS) runs), .un, .un, .un, .un, .un, .un, .un, .un, .un, .fz ((tT tI) first), .fz (tI wire), .fz (tS function), .un, .un, .un]) (EV.joinL (EV.str (t := ([] : Tx)) (by decide +kernel)) (EV.lc (ea := tS) (eb := tS) (R := fun (some : Tx) => [.fz ((tL tI) script), .un, .fz ((tL tI) draws), .fz (tI n), .fz ((tT (tP2 tI tI)) circuit), .fz (tI letters), .fz ((tT (tT tI)) clauses), .un, .fz ((tL tS) runs), .un, .un, .un, .un, .un, .un, .fz (tS some), .un, .un, .fz ((tT tI) first), .fz (tI wire), .un, .un, .un, .un]) (IT.exL (e := tS) (EV.var rfl)) h242_ (fun _ => rfl) (fun some hx116_ => (EV.ife (e := tS) (TS.bl (EV.cmp (dx := tS [gi some wire]) (dy := tS ([121] : Tx)) (EV.sgi (EV.var rfl) (EV.var rfl) (h243_ _ hx116_)) (EV.str (t := ([121] : Tx)) (by decide +kernel)) (C.eq (e := tS) EqE.S))) (fun hq118_ => (EV.str (t := ([49] : Tx)) (by decide +kernel))) (fun hq118_ => (EV.str (t := ([48] : Tx)) (by decide +kernel)))))) h244_) (fun _ => rfl) h ?_
  intro function h
  obtain ⟨h240_, h241_, h⟩ := h
  refine SK.iteL (t := (!(decide ((sh_wire_function (n) (circuit) (wire)) = function)))) (TS.bl (EV.not (TS.bl (EV.call (EVs.cons (EV.call (EVs.cons (EV.var rfl) (EVs.cons (EV.var rfl) (EVs.cons (EV.var rfl) EVs.nil))) (t_wire_function (Nat.le_trans (by decide) hm_) _ _ _ h240_)) (EVs.cons (EV.var rfl) EVs.nil)) (isD_call (e := tS) isD DqE.S EqE.S (Nat.le_trans (by decide) hm_) h241_))))) h (fun hq139_ h => ?_) (fun hq139_ h => ?_)
  · exact SK.ret (d := tB false) EV.bool rfl
  · refine SK.done ?_
    obtain ⟨h238_, h239_, h⟩ := h
    refine SK.iteL (t := (!(decide ((sh_told_definition (letters) (clauses) (first) ((wire + (1 : Int)))) = (some function))))) (TS.bl (EV.not (TS.bl (EV.call (EVs.cons (EV.call (EVs.cons (EV.var rfl) (EVs.cons (EV.var rfl) (EVs.cons (EV.var rfl) (EVs.cons (EV.add (EV.var rfl) EV.int) EVs.nil)))) (t_told_definition (Nat.le_trans (by decide) hm_) _ _ _ _ h238_)) (EVs.cons (EV.sm (en := tS) (EV.var rfl)) EVs.nil)) (isD_call (e := (tO tS)) isD (DqE.O NN.S DqE.S) (EqE.O NN.S EqE.S) (Nat.le_trans (by decide) hm_) h239_))))) h (fun hq192_ h => ?_) (fun hq192_ h => ?_)
    · exact SK.ret (d := tB false) EV.bool rfl
    · refine SK.done ?_
      obtain ⟨h236_, h237_, h⟩ := h
      refine SK.iteL (t := (!(decide ((sh_told_double (letters) (clauses) (first) ((wire + (1 : Int)))) = (none : (Option (Tx × Tx))))))) (TS.bl (EV.not (TS.bl (EV.call (EVs.cons (EV.call (EVs.cons (EV.var rfl) (EVs.cons (EV.var rfl) (EVs.cons (EV.var rfl) (EVs.cons (EV.add (EV.var rfl) EV.int) EVs.nil)))) (t_told_double (Nat.le_trans (by decide) hm_) _ _ _ _ h236_)) (EVs.cons EV.nn0 EVs.nil)) (isD_call (e := (tO (tP2 tS tS))) isD (DqE.O NN.P2 (DqE.P2 DqE.S DqE.S)) (EqE.O NN.P2 (EqE.P2 EqE.S EqE.S)) (Nat.le_trans (by decide) hm_) h237_))))) h (fun hq196_ h => ?_) (fun hq196_ h => ?_)
      · exact SK.ret (d := tB false) EV.bool rfl
      · refine SK.done ?_
        obtain ⟨h234_, h235_, h⟩ := h
        refine SK.asgL (en := tI) (v := ((gi draws ((20 : Int) + wire)) % ((runs).length : Int))) (R := fun place => [.fz ((tL tI) script), .un, .fz ((tL tI) draws), .fz (tI n), .fz ((tT (tP2 tI tI)) circuit), .fz (tI letters), .fz ((tT (tT tI)) clauses), .un, .fz ((tL tS) runs), .un, .un, .un, .un, .un, .un, .un, .un, .un, .fz ((tT tI) first), .fz (tI wire), .fz (tS function), .fz (tI place), .un, .un]) (EV.mod (EV.toInt (EV.giL (e := tI) (EV.var rfl) (EV.add EV.int (EV.var rfl)) h234_)) (EV.lenL (e := tS) (EV.var rfl)) h235_) (fun _ => rfl) h ?_
        intro place h
        obtain ⟨h229_, h230_, h231_, h232_, h233_, h⟩ := h
        refine SK.asgL (en := tS) (v := (((cut function none (some place)) ++ (if (decide ([gi function place] = ([49] : Tx))) then ([48] : Tx) else ([49] : Tx))) ++ (cut function (some (place + (1 : Int))) none))) (R := fun other => [.fz ((tL tI) script), .un, .fz ((tL tI) draws), .fz (tI n), .fz ((tT (tP2 tI tI)) circuit), .fz (tI letters), .fz ((tT (tT tI)) clauses), .un, .fz ((tL tS) runs), .un, .un, .un, .un, .un, .un, .un, .un, .un, .fz ((tT tI) first), .fz (tI wire), .fz (tS function), .fz (tI place), .fz (tS other), .un]) (EV.catS (EV.catS (EV.slS (EV.var rfl) EVo.no (EVo.yes (EV.var rfl)) h229_) (EV.ife (e := tS) (TS.bl (EV.cmp (dx := tS [gi function place]) (dy := tS ([49] : Tx)) (EV.sgi (EV.var rfl) (EV.var rfl) h230_) (EV.str (t := ([49] : Tx)) (by decide +kernel)) (C.eq (e := tS) EqE.S))) (fun hq197_ => (EV.str (t := ([48] : Tx)) (by decide +kernel))) (fun hq197_ => (EV.str (t := ([49] : Tx)) (by decide +kernel)))) h231_) (EV.slS (EV.var rfl) (EVo.yes (EV.add (EV.var rfl) EV.int)) EVo.no h232_) h233_) (fun _ => rfl) h ?_
        intro other h
        obtain ⟨h227_, h228_, h⟩ := h
        refine SK.forL (S := Unit) (ea := tS) (xs := [function, other, (function ++ ([48] : Tx))]) (s0 := ()) (step := (sh_law_L4 (letters) (clauses) (first) (wire) (function))) (ok := (ok_law_L4 (letters) (clauses) (first) (wire) (function))) (eb := tB) (R := (R_law_L4 (script) (draws) (n) (circuit) (letters) (clauses) (runs) (first) (wire) (function) (place))) (R1 := (fun s4_ text => [.fz ((tL tI) script), .un, .fz ((tL tI) draws), .fz (tI n), .fz ((tT (tP2 tI tI)) circuit), .fz (tI letters), .fz ((tT (tT tI)) clauses), .un, .fz ((tL tS) runs), .un, .un, .un, .un, .un, .un, .un, .un, .un, .fz ((tT tI) first), .fz (tI wire), .fz (tS function), .fz (tI place), .un, .fz (tS text)])) (IT.exT (e := tS) (EV.tup (EVs.cons (EV.var rfl) (EVs.cons (EV.var rfl) (EVs.cons (EV.catS (EV.var rfl) (EV.str (t := ([48] : Tx)) (by decide +kernel)) h227_) EVs.nil))) (Nat.le_of_ble_eq_true rfl))) (by (repeat (first | exact Le.nil | refine Le.same ?_ | refine Le.un ?_))) (fun _ _ => rfl) h228_ (fun s4_ text _ h => (t_law_L4 (by exact hm_) (script) (draws) (n) (circuit) (letters) (clauses) (runs) (first) (wire) (function) (place)  s4_ text h)) (fun _ => rfl) h ?_
        intro j219_ h
        obtain ⟨h222_, h223_, h224_, h225_, h226_⟩ := h
        refine SK.iteL (t := (!(decide ((sh_value_at (n) (function) ((gi (sh__law_answers (n)) place))) = [gi function place])))) (TS.bl (EV.not (TS.bl (EV.call (EVs.cons (EV.call (EVs.cons (EV.var rfl) (EVs.cons (EV.var rfl) (EVs.cons (EV.giL (e := (tT tI)) (EV.call (EVs.cons (EV.var rfl) EVs.nil) (t__law_answers (Nat.le_trans (by decide) hm_) _ h222_)) (EV.var rfl) h223_) EVs.nil))) (t_value_at (Nat.le_trans (by decide) hm_) _ _ _ h224_)) (EVs.cons (EV.sgi (EV.var rfl) (EV.var rfl) h225_) EVs.nil)) (isD_call (e := tS) isD DqE.S EqE.S (Nat.le_trans (by decide) hm_) h226_))))) (ifT _) (fun hq221_ h => ?_) (fun hq221_ h => ?_)
        · exact SK.ret (d := tB false) EV.bool rfl
        · refine SK.done ?_
          exact SK.done (SK.nil fun _ l_ => Le.trans (by (repeat (first | exact Le.nil | refine Le.same ?_ | refine Le.un ?_))) l_)
abbrev R_law_L1 (script : (List Int)) : (Unit) → Rho := fun s1_ => [.fz ((tL tI) script), .un, .un, .un, .un, .un, .un, .un, .un, .un, .un, .un, .un, .un, .un, .un, .un, .un, .un, .un, .un, .un, .un, .un]
theorem t_law_L1 {m_ : Nat} (hm_ : 10 ≤ m_) (script : (List Int)) (s1_ : Unit) (turn : Int) (h : ok_law_L1 (script) s1_ turn) : SK (den Ws D m_) Ws [b_law_L4] [.fz ((tL tI) script), .fz (tI turn), .un, .un, .un, .un, .un, .un, .un, .un, .un, .un, .un, .un, .un, .un, .un, .un, .un, .un, .un, .un, .un, .un] (LP (R_law_L1 (script)) tB (sh_law_L1 (script) s1_ turn)) := by
  unfold ok_law_L1 at h
  obtain ⟨h278_, h279_, h⟩ := h
  refine SK.asgL (en := (tL tI)) (v := (sh__law_draws ((sh__law_cell (script) (turn))) ((30 : Int)))) (R := fun draws => [.fz ((tL tI) script), .fz (tI turn), .fz ((tL tI) draws), .un, .un, .un, .un, .un, .un, .un, .un, .un, .un, .un, .un, .un, .un, .un, .un, .un, .un, .un, .un, .un]) (EV.call (EVs.cons (EV.call (EVs.cons (EV.var rfl) (EVs.cons (EV.var rfl) EVs.nil)) (t__law_cell (Nat.le_trans (by decide) hm_) _ _ h278_)) (EVs.cons EV.int EVs.nil)) (t__law_draws (Nat.le_trans (by decide) hm_) _ _ h279_)) (fun _ => rfl) h ?_
  intro draws h
  obtain ⟨h277_, h⟩ := h
  refine SK.asgL (en := tI) (v := ((1 : Int) + ((gi draws (0 : Int)) % (3 : Int)))) (R := fun n => [.fz ((tL tI) script), .fz (tI turn), .fz ((tL tI) draws), .fz (tI n), .un, .un, .un, .un, .un, .un, .un, .un, .un, .un, .un, .un, .un, .un, .un, .un, .un, .un, .un, .un]) (EV.add EV.int (EV.mod (EV.toInt (EV.giL (e := tI) (EV.var rfl) EV.int h277_)) EV.int (by decide))) (fun _ => rfl) h ?_
  intro n h
  obtain ⟨h275_, h276_, h⟩ := h
  refine SK.asgL (en := (tT (tP2 tI tI))) (v := (sh__law_circuit ((cut draws (some (4 : Int)) none)) (n) (((1 : Int) + ((gi draws (1 : Int)) % (4 : Int)))))) (R := fun circuit => [.fz ((tL tI) script), .fz (tI turn), .fz ((tL tI) draws), .fz (tI n), .fz ((tT (tP2 tI tI)) circuit), .un, .un, .un, .un, .un, .un, .un, .un, .un, .un, .un, .un, .un, .un, .un, .un, .un, .un, .un]) (EV.call (EVs.cons (EV.slL (e := tI) (EV.var rfl) (EVo.yes EV.int) EVo.no) (EVs.cons (EV.var rfl) (EVs.cons (EV.add EV.int (EV.mod (EV.toInt (EV.giL (e := tI) (EV.var rfl) EV.int h275_)) EV.int (by decide))) EVs.nil))) (t__law_circuit (Nat.le_trans (by decide) hm_) _ _ _ h276_)) (fun _ => rfl) h ?_
  intro circuit h
  refine SK.asgL (en := tI) (v := (n + ((circuit).length : Int))) (R := fun letters => [.fz ((tL tI) script), .fz (tI turn), .fz ((tL tI) draws), .fz (tI n), .fz ((tT (tP2 tI tI)) circuit), .fz (tI letters), .un, .un, .un, .un, .un, .un, .un, .un, .un, .un, .un, .un, .un, .un, .un, .un, .un, .un]) (EV.add (EV.var rfl) (EV.lenT (e := (tP2 tI tI)) (EV.var rfl))) (fun _ => rfl) h ?_
  intro letters h
  obtain ⟨h274_, h⟩ := h
  refine SK.asgL (en := (tT (tT tI))) (v := (sh__law_clauses_due (n) (circuit))) (R := fun clauses => [.fz ((tL tI) script), .fz (tI turn), .fz ((tL tI) draws), .fz (tI n), .fz ((tT (tP2 tI tI)) circuit), .fz (tI letters), .fz ((tT (tT tI)) clauses), .un, .un, .un, .un, .un, .un, .un, .un, .un, .un, .un, .un, .un, .un, .un, .un, .un]) (EV.call (EVs.cons (EV.var rfl) (EVs.cons (EV.var rfl) EVs.nil)) (t__law_clauses_due (Nat.le_trans (by decide) hm_) _ _ h274_)) (fun _ => rfl) h ?_
  intro clauses h
  obtain ⟨h272_, h273_, h⟩ := h
  refine SK.iteL (t := (!(decide ((sh_clauses_of_circuit (n) (circuit)) = clauses)))) (TS.bl (EV.not (TS.bl (EV.call (EVs.cons (EV.call (EVs.cons (EV.var rfl) (EVs.cons (EV.var rfl) EVs.nil)) (t_clauses_of_circuit (Nat.le_trans (by decide) hm_) _ _ h272_)) (EVs.cons (EV.var rfl) EVs.nil)) (isD_call (e := (tT (tT tI))) isD (DqE.T (DqE.T DqE.I)) (EqE.T (EqE.T EqE.I)) (Nat.le_trans (by decide) hm_) h273_))))) h (fun hq35_ h => ?_) (fun hq35_ h => ?_)
  · exact SK.ret (d := tB false) EV.bool rfl
  · refine SK.done ?_
    obtain ⟨h269_, h270_, h271_, h⟩ := h
    refine SK.asgL (en := (tL tS)) (v := ((sh__law_answers (n)).map fun (answers : (List Int)) => (sh__law_run (circuit) (answers)))) (R := fun runs => [.fz ((tL tI) script), .fz (tI turn), .fz ((tL tI) draws), .fz (tI n), .fz ((tT (tP2 tI tI)) circuit), .fz (tI letters), .fz ((tT (tT tI)) clauses), .un, .fz ((tL tS) runs), .un, .un, .un, .un, .un, .un, .un, .un, .un, .un, .un, .un, .un, .un, .un]) (EV.lc (ea := (tT tI)) (eb := tS) (R := fun (answers : (List Int)) => [.fz ((tL tI) script), .fz (tI turn), .fz ((tL tI) draws), .fz (tI n), .fz ((tT (tP2 tI tI)) circuit), .fz (tI letters), .fz ((tT (tT tI)) clauses), .fz ((tT tI) answers), .un, .un, .un, .un, .un, .un, .un, .un, .un, .un, .un, .un, .un, .un, .un, .un]) (IT.exL (e := (tT tI)) (EV.call (EVs.cons (EV.var rfl) EVs.nil) (t__law_answers (Nat.le_trans (by decide) hm_) _ h269_))) h270_ (fun _ => rfl) (fun answers hx42_ => (EV.call (EVs.cons (EV.var rfl) (EVs.cons (EV.var rfl) EVs.nil)) (t__law_run (Nat.le_trans (by decide) hm_) _ _ (h271_ _ hx42_))))) (fun _ => rfl) h ?_
    intro runs h
    obtain ⟨h268_, h⟩ := h
    refine SK.iteL (t := (!(decide ((sh_number_of_cases (letters) (clauses)) = ((runs).length : Int))))) (TS.bl (EV.not (TS.bl (EV.call (EVs.cons (EV.call (EVs.cons (EV.var rfl) (EVs.cons (EV.var rfl) EVs.nil)) (t_number_of_cases (Nat.le_trans (by decide) hm_) _ _ h268_)) (EVs.cons (EV.lenL (e := tS) (EV.var rfl)) EVs.nil)) (isD_call (e := tI) isD DqE.I EqE.I (Nat.le_trans (by decide) hm_) (pl_I _)))))) h (fun hq78_ h => ?_) (fun hq78_ h => ?_)
    · exact SK.ret (d := tB false) EV.bool rfl
    · refine SK.done ?_
      obtain ⟨h265_, h266_, h267_, h⟩ := h
      refine SK.iteL (t := (!(decide ((sh_told_case (letters) (clauses)) = (some (gi runs (0 : Int))))))) (TS.bl (EV.not (TS.bl (EV.call (EVs.cons (EV.call (EVs.cons (EV.var rfl) (EVs.cons (EV.var rfl) EVs.nil)) (t_told_case (Nat.le_trans (by decide) hm_) _ _ h265_)) (EVs.cons (EV.sm (en := tS) (EV.giL (e := tS) (EV.var rfl) EV.int h266_)) EVs.nil)) (isD_call (e := (tO tS)) isD (DqE.O NN.S DqE.S) (EqE.O NN.S EqE.S) (Nat.le_trans (by decide) hm_) h267_))))) h (fun hq82_ h => ?_) (fun hq82_ h => ?_)
      · exact SK.ret (d := tB false) EV.bool rfl
      · refine SK.done ?_
        obtain ⟨h263_, h264_, h⟩ := h
        refine SK.iteL (t := (!(((runs.map fun (run : Tx) => (decide ((sh_is_met (clauses) (run)) = true)))).all id))) (TS.bl (EV.not (TS.bl (EV.all1 (EV.lc (ea := tS) (eb := tB) (R := fun (run : Tx) => [.fz ((tL tI) script), .fz (tI turn), .fz ((tL tI) draws), .fz (tI n), .fz ((tT (tP2 tI tI)) circuit), .fz (tI letters), .fz ((tT (tT tI)) clauses), .un, .fz ((tL tS) runs), .fz (tS run), .un, .un, .un, .un, .un, .un, .un, .un, .un, .un, .un, .un, .un, .un]) (IT.exL (e := tS) (EV.var rfl)) h263_ (fun _ => rfl) (fun run hx83_ => (EV.call (EVs.cons (EV.call (EVs.cons (EV.var rfl) (EVs.cons (EV.var rfl) EVs.nil)) (t_is_met (Nat.le_trans (by decide) hm_) _ _ (h264_ _ hx83_))) (EVs.cons EV.bool EVs.nil)) (isD_call (e := tB) isD DqE.B EqE.B (Nat.le_trans (by decide) hm_) (pl_B _))))))))) h (fun hq85_ h => ?_) (fun hq85_ h => ?_)
        · exact SK.ret (d := tB false) EV.bool rfl
        · refine SK.done ?_
          obtain ⟨h261_, h262_, h⟩ := h
          refine SK.iteL (t := (!(((clauses.map fun (clause : (List Int)) => (decide ((sh_is_clause (clause)) = true)))).all id))) (TS.bl (EV.not (TS.bl (EV.all1 (EV.lc (ea := (tT tI)) (eb := tB) (R := fun (clause : (List Int)) => [.fz ((tL tI) script), .fz (tI turn), .fz ((tL tI) draws), .fz (tI n), .fz ((tT (tP2 tI tI)) circuit), .fz (tI letters), .fz ((tT (tT tI)) clauses), .un, .fz ((tL tS) runs), .un, .fz ((tT tI) clause), .un, .un, .un, .un, .un, .un, .un, .un, .un, .un, .un, .un, .un]) (IT.exT (e := (tT tI)) (EV.var rfl)) h261_ (fun _ => rfl) (fun clause hx86_ => (EV.call (EVs.cons (EV.call (EVs.cons (EV.var rfl) EVs.nil) (t_is_clause (Nat.le_trans (by decide) hm_) _ (h262_ _ hx86_))) (EVs.cons EV.bool EVs.nil)) (isD_call (e := tB) isD DqE.B EqE.B (Nat.le_trans (by decide) hm_) (pl_B _))))))))) h (fun hq97_ h => ?_) (fun hq97_ h => ?_)
          · exact SK.ret (d := tB false) EV.bool rfl
          · refine SK.done ?_
            obtain ⟨h258_, h259_, h260_, h⟩ := h
            refine SK.asgL (en := tS) (v := (gi runs ((gi draws (2 : Int)) % ((runs).length : Int)))) (R := fun run => [.fz ((tL tI) script), .fz (tI turn), .fz ((tL tI) draws), .fz (tI n), .fz ((tT (tP2 tI tI)) circuit), .fz (tI letters), .fz ((tT (tT tI)) clauses), .un, .fz ((tL tS) runs), .fz (tS run), .un, .un, .un, .un, .un, .un, .un, .un, .un, .un, .un, .un, .un, .un]) (EV.giL (e := tS) (EV.var rfl) (EV.mod (EV.toInt (EV.giL (e := tI) (EV.var rfl) EV.int h258_)) (EV.lenL (e := tS) (EV.var rfl)) h259_) h260_) (fun _ => rfl) h ?_
            intro run h
            obtain ⟨h256_, h257_, h⟩ := h
            refine SK.asgL (en := tI) (v := (n + ((gi draws (3 : Int)) % ((circuit).length : Int)))) (R := fun at_v => [.fz ((tL tI) script), .fz (tI turn), .fz ((tL tI) draws), .fz (tI n), .fz ((tT (tP2 tI tI)) circuit), .fz (tI letters), .fz ((tT (tT tI)) clauses), .un, .fz ((tL tS) runs), .fz (tS run), .un, .fz (tI at_v), .un, .un, .un, .un, .un, .un, .un, .un, .un, .un, .un, .un]) (EV.add (EV.var rfl) (EV.mod (EV.toInt (EV.giL (e := tI) (EV.var rfl) EV.int h256_)) (EV.lenT (e := (tP2 tI tI)) (EV.var rfl)) h257_)) (fun _ => rfl) h ?_
            intro at_v h
            obtain ⟨h251_, h252_, h253_, h254_, h255_, h⟩ := h
            refine SK.asgL (en := tS) (v := (((cut run none (some at_v)) ++ (if (decide ([gi run at_v] = ([121] : Tx))) then ([110] : Tx) else ([121] : Tx))) ++ (cut run (some (at_v + (1 : Int))) none))) (R := fun turned => [.fz ((tL tI) script), .fz (tI turn), .fz ((tL tI) draws), .fz (tI n), .fz ((tT (tP2 tI tI)) circuit), .fz (tI letters), .fz ((tT (tT tI)) clauses), .un, .fz ((tL tS) runs), .fz (tS run), .un, .fz (tI at_v), .fz (tS turned), .un, .un, .un, .un, .un, .un, .un, .un, .un, .un, .un]) (EV.catS (EV.catS (EV.slS (EV.var rfl) EVo.no (EVo.yes (EV.var rfl)) h251_) (EV.ife (e := tS) (TS.bl (EV.cmp (dx := tS [gi run at_v]) (dy := tS ([121] : Tx)) (EV.sgi (EV.var rfl) (EV.var rfl) h252_) (EV.str (t := ([121] : Tx)) (by decide +kernel)) (C.eq (e := tS) EqE.S))) (fun hq98_ => (EV.str (t := ([110] : Tx)) (by decide +kernel))) (fun hq98_ => (EV.str (t := ([121] : Tx)) (by decide +kernel)))) h253_) (EV.slS (EV.var rfl) (EVo.yes (EV.add (EV.var rfl) EV.int)) EVo.no h254_) h255_) (fun _ => rfl) h ?_
            intro turned h
            obtain ⟨h250_, h⟩ := h
            refine SK.iteL (t := (!(decide ((sh_is_met (clauses) (turned)) = false)))) (TS.bl (EV.not (TS.bl (EV.call (EVs.cons (EV.call (EVs.cons (EV.var rfl) (EVs.cons (EV.var rfl) EVs.nil)) (t_is_met (Nat.le_trans (by decide) hm_) _ _ h250_)) (EVs.cons EV.bool EVs.nil)) (isD_call (e := tB) isD DqE.B EqE.B (Nat.le_trans (by decide) hm_) (pl_B _)))))) h (fun hq99_ h => ?_) (fun hq99_ h => ?_)
            · exact SK.ret (d := tB false) EV.bool rfl
            · refine SK.done ?_
              obtain ⟨h249_, h⟩ := h
              refine SK.forL (S := Unit) (ea := (tP2 tI tS)) (xs := [(letters, ([121] : Tx)), (((0 : Int) - letters), ([110] : Tx))]) (s0 := ()) (step := (sh_law_L2 (letters) (clauses) (runs))) (ok := (ok_law_L2 (letters) (clauses) (runs))) (eb := tB) (R := (R_law_L2 (script) (draws) (n) (circuit) (letters) (clauses) (runs))) (R1 := (fun s2_ q100_ => [.fz ((tL tI) script), .un, .fz ((tL tI) draws), .fz (tI n), .fz ((tT (tP2 tI tI)) circuit), .fz (tI letters), .fz ((tT (tT tI)) clauses), .un, .fz ((tL tS) runs), .un, .un, .un, .un, .fz (tI q100_.1), .fz (tS q100_.2), .un, .un, .un, .un, .un, .un, .un, .un, .un])) (IT.exT (e := (tP2 tI tS)) (EV.tup (EVs.cons (EV.tup (EVs.cons (EV.var rfl) (EVs.cons (EV.str (t := ([121] : Tx)) (by decide +kernel)) EVs.nil)) (Nat.le_of_ble_eq_true rfl)) (EVs.cons (EV.tup (EVs.cons (EV.sub EV.int (EV.var rfl)) (EVs.cons (EV.str (t := ([110] : Tx)) (by decide +kernel)) EVs.nil)) (Nat.le_of_ble_eq_true rfl)) EVs.nil)) (Nat.le_of_ble_eq_true rfl))) (by (repeat (first | exact Le.nil | refine Le.same ?_ | refine Le.un ?_))) (fun _ _ => rfl) h249_ (fun s2_ q100_ _ h => (t_law_L2 (by exact hm_) (script) (draws) (n) (circuit) (letters) (clauses) (runs)  s2_ q100_ h)) (fun _ => rfl) h ?_
              intro j115_ h
              obtain ⟨h248_, h⟩ := h
              refine SK.asgL (en := (tT tI)) (v := (ivs (1 : Int) (n + (1 : Int)))) (R := fun first => [.fz ((tL tI) script), .un, .fz ((tL tI) draws), .fz (tI n), .fz ((tT (tP2 tI tI)) circuit), .fz (tI letters), .fz ((tT (tT tI)) clauses), .un, .fz ((tL tS) runs), .un, .un, .un, .un, .un, .un, .un, .un, .un, .fz ((tT tI) first), .un, .un, .un, .un, .un]) (EV.convT (IT.rng2 EV.int (EV.add (EV.var rfl) EV.int) h248_)) (fun _ => rfl) h ?_
              intro first h
              obtain ⟨h246_, h247_⟩ := h
              refine SK.forL (S := Unit) (ea := tI) (xs := (ivs (0 : Int) letters)) (s0 := ()) (step := (sh_law_L3 (draws) (n) (circuit) (letters) (clauses) (runs) (first))) (ok := (ok_law_L3 (draws) (n) (circuit) (letters) (clauses) (runs) (first))) (eb := tB) (R := (R_law_L3 (script) (draws) (n) (circuit) (letters) (clauses) (runs) (first))) (R1 := (fun s3_ wire => [.fz ((tL tI) script), .un, .fz ((tL tI) draws), .fz (tI n), .fz ((tT (tP2 tI tI)) circuit), .fz (tI letters), .fz ((tT (tT tI)) clauses), .un, .fz ((tL tS) runs), .un, .un, .un, .un, .un, .un, .un, .un, .un, .fz ((tT tI) first), .fz (tI wire), .un, .un, .un, .un])) (IT.rng1 (EV.var rfl) h246_) (by (repeat (first | exact Le.nil | refine Le.same ?_ | refine Le.un ?_))) (fun _ _ => rfl) h247_ (fun s3_ wire _ h => (t_law_L3 (by exact hm_) (script) (draws) (n) (circuit) (letters) (clauses) (runs) (first)  s3_ wire h)) (fun _ => rfl) (okk := fun _ => True) (goP_T _) ?_
              intro j245_ h
              exact SK.done (SK.nil fun _ l_ => Le.trans (by (repeat (first | exact Le.nil | refine Le.same ?_ | refine Le.un ?_))) l_)
theorem t_law {dp_ : Nat} (hn : 11 ≤ dp_) (script : (List Int)) (h : ok_law script) : den Ws D dp_ 37 [(tL tI) script] = some (tB (sh_law script)) := by
  obtain ⟨m_, rfl, hm_⟩ := dd hn
  unfold ok_law at h
  refine (den_run (d := d_law) rfl rfl).trans ?_
  show runD (den Ws D m_) Ws 24 b_law _ = _
  refine SK.run (ρ := [.fz ((tL tI) script), .un, .un, .un, .un, .un, .un, .un, .un, .un, .un, .un, .un, .un, .un, .un, .un, .un, .un, .un, .un, .un, .un, .un]) rfl ?_
  have h281_ := h
  refine SK.forL (S := Unit) (ea := tI) (xs := (ivs (0 : Int) (2 : Int))) (s0 := ()) (step := (sh_law_L1 (script))) (ok := (ok_law_L1 (script))) (eb := tB) (R := (R_law_L1 (script))) (R1 := (fun s1_ turn => [.fz ((tL tI) script), .fz (tI turn), .un, .un, .un, .un, .un, .un, .un, .un, .un, .un, .un, .un, .un, .un, .un, .un, .un, .un, .un, .un, .un, .un])) (IT.rng1 EV.int (by unfold rOk; decide)) (by (repeat (first | exact Le.nil | refine Le.same ?_ | refine Le.un ?_))) (fun _ _ => rfl) h281_ (fun s1_ turn _ h => (t_law_L1 (by exact hm_) (script)  s1_ turn h)) (fun _ => rfl) (okk := fun _ => True) (goP_T _) ?_
  intro j280_ h
  exact SK.ret (d := tB true) EV.bool rfl
end LawX

open PySem PySem.W PySem.Calls PyProof.Rows
theorem LawX.law_true {ns : List Int} (hn : ns.length ≤ 63) : Cs.den LawX.Ws LawX.D 12 37 [.list (ns.map .int)] = some (.bool true) := by
  obtain ⟨h1, h2⟩ := LawX.law_holds ns hn
  have := LawX.t_law (dp_ := 12) (by omega) ns h1
  rw [h2] at this
  exact this
theorem PySem.Challenge.cw_kindhall_k41_whole_circuits_and_clauses_holds : PySem.Challenge.rw_kindhall_k41_whole_circuits_and_clauses.Holds := by
  w_on; o_law
  refine HandSHeadRun.head_any (r := OpenLaw.row PySem.Challenge.rw_kindhall_k41_whole_circuits_and_clauses) (q := view (OpenLaw.row PySem.Challenge.rw_kindhall_k41_whole_circuits_and_clauses).prog [43]) (H := LawX.hk) (ob := LawX.ob) (M := 4000) (loose := LawX.loose) (d := HandSHeadRun.topDef (OpenLaw.row PySem.Challenge.rw_kindhall_k41_whole_circuits_and_clauses).prog 43) (kwd := []) LawX.ob_eq
    (by kernel_rfl) (fun s => by kernel_rfl) LawX.run (by kernel_rfl) (by kernel_rfl) (by kernel_rfl) (by rfl) (by first | assumption | decide +kernel) (by decide +kernel) ⟨rfl, rfl, rfl, rfl, rfl, by decide +kernel⟩ ?hw ?hc
  case hw => w_witness2
  case hc =>
    refine Cs.walk_tabs (l := PySem.Challenge.rw_kindhall_k41_whole_circuits_and_clauses) (n := 63) (k := 36) (x := "script") (CX := fun _ => L2.CX0) rfl (by decide) (by kernel_rfl) ⟨rfl, by decide, by decide⟩ ?F (fun _ _ _ _ _ z => z)
    intro w mg fa h Y G hmg0
    have hmg : mg (Cs.nmOf LawX.P0 LawX.d_law) = some (.ref fa) := by
      have e : (HandSHeadRun.topDef (OpenLaw.row PySem.Challenge.rw_kindhall_k41_whole_circuits_and_clauses).prog 43).name = Cs.nmOf LawX.P0 LawX.d_law := by kernel_rfl
      rw [← e]
      exact hmg0
    exact Cs.law_at (n := 12) (W := LawX.Ws) (li := 37) (ld := LawX.d_law) rfl 4 Y G LawX.okD rfl rfl hmg (fun ns h1 _ => LawX.law_true h1)

