import PyProof.Rows.All
import Wide.All
import OpenK.AllK
import Wide.FinOn
import HandS.ForMost
import HandS.AnyAll
import HandS.GenOver
import HandS.Conv
import HandS.Deep
import HandS.IsInst
import HandS.NoneIn
import HandS.TupAny
import HandS.Zip
import HandS.Rev
import HandS.Style
import HandS.Flow
import HandS.Wide
import KE.SortData
import PyProof.TupleOfSeq
import HandS.HeadWalk
import HandS.HeadHook4
import HandS.Head2
import HandS.Defaults
import HandS.Small
import PySem.Challenge.RW_happenedfirst_k49_things_and_deeds
set_option Elab.async false
set_option linter.all false
set_option maxRecDepth 100000
set_option maxHeartbeats 0
/-! generator expressions over anything that PI serves -/
namespace ZG
open PySem PySem.Spec PyProof.Rows L2 GxR

/-- the same state but for the table of generators, tokens and draws -/
theorem inv_like {X : Cx} {pins : List (Addr × Obj)} {sg : L2.St} {H : Hp} {s t : Shared} (I : Inv X pins sg H s)
    (eh : t.heap = s.heap) (eo : t.os = s.os) (eb : AllBare t.gens) : Inv X pins sg H t := by
  obtain ⟨a1, a2, a3, a4, a5, a6, a7, a8, a9, b1, b2⟩ := I
  refine ⟨a1, eo.trans a2, eb, ?_, ?_, ?_, a7, a8, ?_, ?_, b2⟩
  · rw [eh]; exact a4
  · rw [eh]; exact a5
  · rw [eh]; exact a6
  · rw [eh]; exact a9
  · rw [eh]; exact b1

/-- the context in which a generator expression's frame runs -/
abbrev gcx (X : Cx) (A : Around) (s : Shared) (H : Hp) (scope : Scope) (env : Env) (fp : List Addr) : Cx :=
  { X with A := A, s_0 := s, H_0 := H, env := env, outer := X.stack, stack := env :: X.stack, ex := fp, fn := fun x => scope.names.lookup x == some .cell, pn := [], xe := fun _ _ => False }

/-- what its consumer wants of each thing that is handed out: the thing, the heap, what must hold to go on -/
abbrev CW := V → Hp → (Hp → Prop) → Prop

section
variable {Y : Cx} {A : Around} {ps : List (Addr × Obj)} {sw : L2.St} {S : Hp → Prop} {C : CW}
variable {elt tg iter : Expr} {ifs : List Expr} {scope : Scope} {pos : Pos} {it : Addr} {fp : List Addr} {tn : Nat → Heap → Prop} {J : It}
variable {g : TG} {tt : TT} {te : TE} {vs : List Nat}

def gProto (Y : Cx) (ps : List (Addr × Obj)) (C : CW) : Protocol := fun _ _ v s kap =>
  ∃ (y : V) (sg : L2.St) (H : Hp) (Nx : Hp → Prop), RelV y v ∧ Inv Y ps sg H s ∧ C y H Nx ∧
    (Nx H → ∀ t : Shared, t.heap = s.heap → t.os = s.os → AllBare t.gens → kap (.send .none) t)
def gOver (Y : Cx) (ps : List (Addr × Obj)) (S : Hp → Prop) : Nat → Shared → Shared → Prop := fun _ _ s => ∃ sg H, Inv Y ps sg H s ∧ S H

theorem loop_seg (hA : A.over (.compLoop (.GeneratorExp elt [⟨tg, iter, ifs, 0⟩] scope pos) 0 (.ref it) .none Y.env) [] = Y.A)
    (hx : Y.xe = fun _ _ => False) (hc : Y.calm = true) (T : Turn Y.prog Y.w Y.K tg J fp it tn)
    (hg : PG Y tg g) (ht : PTs Y ifs tt) (he : PE Y elt te)
    (hco : Y.env.scope.isCoroutine = false)
    (hfp : ∀ b ∈ fp, ∀ (sg : L2.St) (H : Hp) (s : Shared), Inv Y ps sg H s → H b = none → FpOk Y ps H b)
    (W : Nat → Nat → Hp → Prop)
    (turn : ∀ i m H, W i m H → (J.stop i H ∧ S H) ∨ (J.go i H ∧ ∃ Nx : Hp → Prop, (∀ H', Nx H' → ∃ m', m' < m ∧ W (i + 1) m' H') ∧
      ∀ x H', J.yld i H x H' → g x sw H' fun σ2 H2 => (wipe σ2 vs = sw) ∧ tt σ2 H2 fun b H3 => if b = true then te σ2 H3 fun y H4 => C y H4 Nx else Nx H3)) :
    ∀ (m n i : Nat) (z s : Shared) (H : Hp), m < n → W i m H → Inv Y ps sw H s → tn i s.heap → (∀ b ∈ fp, H b = none) →
      Seg (model Y.prog Y.w) A (fun n z r s => r = .ok .next ∧ gOver Y ps S n z s) (gProto Y ps C) n z
        (.compLoop (.GeneratorExp elt [⟨tg, iter, ifs, 0⟩] scope pos) 0 (.ref it) .none Y.env)
        ((model Y.prog Y.w).den (.compLoop (.GeneratorExp elt [⟨tg, iter, ifs, 0⟩] scope pos) 0 (.ref it) .none Y.env)) [] s := by
  intro m
  induction m using Nat.strongRecOn with
  | ind m ih =>
    intro n i z s H hmn w I st nf
    have stat : ∀ {sg : L2.St} {H : Hp} {s : Shared}, Inv Y ps sg H s → (∀ b ∈ fp, H b = none) → ∀ b ∈ fp, FpOk Y ps H b := fun {sg H s} I' hn b hb => hfp b hb sg H s I' (hn b hb)
    have nxe : ∀ (x : Value) (q : Shared), ¬ Y.xe x q := fun x q h => by rw [hx] at h; exact h
    show Seg _ A _ _ _ z _ ((compTurn (.GeneratorExp elt [⟨tg, iter, ifs, 0⟩] scope pos) 0 (.ref it) .none Y.env).onRaise (leaving Y.env)) [] s
    rw [compTurn_gen, Sem.onRaise_eq_wrap]
    refine seg_bind_wrap (wpAny_standAt ?_)
    rcases turn i m H w with ⟨stop, fin⟩ | ⟨go, Nx, hNx, step⟩
    · refine seg_bind_wrap ?_
      rw [hA]
      refine wpAny_mono (T.done Y rfl rfl rfl hc i ps s sw H (fun _ _ => False) I (stat I nf) st stop) (fun r s1 hr => ?_) fun _ _ q => q.elim
      obtain ⟨rfl, I1⟩ := hr
      exact seg_end (.ok .next) ⟨rfl, sw, H, I1, fin⟩
    · refine seg_bind_wrap ?_
      rw [hA]
      refine wpAny_mono (T.item Y rfl rfl rfl hc i ps s sw H (fun _ _ => False) I (stat I nf) st go) (fun r s1 hr => ?_) fun _ _ q => q.elim
      obtain ⟨u, rfl, h1⟩ := hr
      refine seg_bind_wrap ?_
      rw [hA]
      refine wpAny_mono h1 (fun _ s2 h2 => ?_) fun _ _ q => q.elim
      obtain ⟨x, H2, I2, r2, y2, st2, n2⟩ := h2
      have I2' := I2.pinned (stat I2 n2) (T.obj _ _ st2)
      refine seg_bind_wrap ?_
      rw [hA]
      refine wpAny_mono (hg.run _ s2 sw H2 x u _ I2' r2 (step x H2 y2)) (fun _ s3 h3 => ?_) fun _ _ q => (nxe _ _ q).elim
      obtain ⟨σ3, H3, I3, hw3, q3⟩ := h3
      refine seg_bind_wrap ?_
      rw [hA]
      refine wpAny_mono (ht.run _ s3 σ3 H3 _ I3 q3) (fun b s4 h4 => ?_) fun _ _ q => (nxe _ _ q).elim
      obtain ⟨H4, I4, q4⟩ := h4
      -- what holds at the turn's end
      have back : ∀ {n' : Nat} {z' s' : Shared} {H' : Hp}, m ≤ n' → Inv Y (ps ++ pinsAt fp s2.heap) σ3 H' s' → Nx H' →
          Seg (model Y.prog Y.w) A (fun n z r s => r = .ok .next ∧ gOver Y ps S n z s) (gProto Y ps C) n' z'
            (.compLoop (.GeneratorExp elt [⟨tg, iter, ifs, 0⟩] scope pos) 0 (.ref it) .none Y.env)
            ((model Y.prog Y.w).den (.compLoop (.GeneratorExp elt [⟨tg, iter, ifs, 0⟩] scope pos) 0 (.ref it) .none Y.env)) [] s' := by
        intro n' z' s' H' hn' I' nx
        obtain ⟨m', hm, w'⟩ := hNx H' nx
        have pin' : ∀ b ∈ fp, ∀ o, s2.heap.get? b = some o → s'.heap.get? b = some o ∧ H' b = none := fun b hb o e =>
          let q := I'.pin (b, o) (List.mem_append_right _ (List.mem_append_right _ (mem_pinsAt hb e)))
          ⟨q.1, q.2.1⟩
        have I5 : Inv Y ps sw H' s' := by
          have J := I'.unpinned.weak (σ' := wipe σ3 vs) (wipe_length _ _) fun i v e => (wipe_some e).1
          rw [hw3] at J
          exact J
        refine ih m' hm n' (i + 1) z' s' H' (by omega) w' I5 (T.keep _ _ _ st2 fun b hb o e => (pin' b hb o e).1) fun b hb => ?_
        obtain ⟨o, e, _⟩ := T.obj _ _ st2 b hb
        exact (pin' b hb o e).2
      cases b with
      | false =>
        simp only [Bool.false_eq_true, if_false]
        exact seg_again rfl (back (by omega) I4 q4)
      | true =>
        have hy : ∀ v, yieldOut Y.env v = yieldValue v := fun v => by simp only [yieldOut, hco, Bool.false_eq_true, if_false]
        simp only [if_true, hy]
        rw [Sem.bind_eq_wrap', Sem.bind_eq_wrap', Sem.wrap_wrap, Sem.wrap_wrap]
        refine seg_wrap ?_
        rw [hA]
        refine wpAny_mono (he.run _ s4 σ3 H4 _ I4 q4) (fun v s5 h5 => ?_) fun _ _ q => (nxe _ _ q).elim
        obtain ⟨y, H5, I5, r5, q5⟩ := h5
        obtain ⟨k, rfl⟩ : ∃ k, n = k + 1 := ⟨n - 1, by omega⟩
        refine seg_at (seg_yield rfl rfl rfl ⟨y, σ3, H5, Nx, r5, I5.unpinned, q5, fun nx t eh eo eb => ?_⟩)
        exact seg_again rfl (back (by omega) (inv_like I5 eh eo eb) nx)
end
end ZG

namespace ZG
open PySem PySem.Spec PyProof.Rows L2 GxR

section
variable {X : Cx} {pins : List (Addr × Obj)} {sg : L2.St} {H : Hp} {s t : Shared} {A : Around} {scope : Scope} {own : List (Str × Nat)} {fp : List Addr} {env : Env}

/-- the facts of the new frame's record -/
structure GEnv (X : Cx) (s : Shared) (scope : Scope) (env : Env) : Prop where
  sc : env.scope = scope
  loc : env.locals = s.heap.objs.size
  cl : env.cells = cellsFrom (s.heap.objs.size + 1) scope.names (cloFrom X.env.cells scope.names [])
  gl : env.globals = X.env.globals
  bl : env.builtins = builtinsNs
  fr : env.frame = some s.heap.objs.size

theorem gen_inv {m0 : Str → Option Value} (I : Inv X pins sg H s) (ok : BlkOk X.N X.env.scope scope own) (hN : X.N.Nodup) (hfp : ∀ b ∈ fp, FpOk X pins H b ∧ b < s.heap.objs.size)
    (E : GEnv X s scope env) (hA : A.handled = none) (hF : A.frames = some (env :: X.stack)) (eo : t.os = s.os) (eb : AllBare t.gens)
    (kp : ∀ b o, s.heap.get? b = some o → t.heap.get? b = some o) (ns : t.heap.Ns s.heap.objs.size m0)
    (hcell : ∀ y c, (y, NameKind.cell) ∈ scope.names → s.heap.objs.size + 1 ≤ c → env.cells.lookup y = some c → ∃ v, t.heap.IsCell c v) :
    Inv (gcx X A s H scope env fp) [] (wipe sg (own.map (·.2))) H t := by
  obtain ⟨e1, e2, e3, e4, e5, e6⟩ := E
  have hfree : ∀ y ∈ scope.names, y.2 = .free → ∃ c, X.env.cells.lookup y.1 = some c := fun y hy e => by
    rcases ok.free y hy e with k | k
    · exact I.ok.has _ (.inl k)
    · exact I.ok.has _ (.inr k)
  have e3' : env.cells = cellsFrom (s.heap.push { cls := .type "frame", data := .dict #[] }).objs.size scope.names (cloFrom X.env.cells scope.names []) := by
    rw [Heap.size_push]; exact e3
  have cm : ∀ {y c}, (y, c) ∈ cloFrom X.env.cells scope.names [] → X.env.cells.lookup y = some c ∧ c < s.heap.objs.size := fun {y c} hm => by
    rcases cloFrom_mem hm with hm | ⟨h1, h2⟩
    · cases hm
    · obtain ⟨c', hc⟩ := hfree _ h1 rfl
      have e : c = c' := by rw [h2, hc]; rfl
      obtain ⟨w, z⟩ := I.cell _ _ hc
      rw [e]
      exact ⟨hc, z.lt⟩
  have mem : ∀ {y c}, env.cells.lookup y = some c → (X.env.cells.lookup y = some c ∧ c < s.heap.objs.size) ∨ ((y, NameKind.cell) ∈ scope.names ∧ s.heap.objs.size + 1 ≤ c) := fun {y c} e => by
    rw [e3'] at e
    rcases cells_mem (PySem.mem_of_lookup e) with hm | ⟨h1, h2, _⟩
    · exact .inl (cm hm)
    · rw [Heap.size_push] at h2; exact .inr ⟨h1, h2⟩
  have look : ∀ {y}, scope.names.lookup y = some .free → ∃ c, env.cells.lookup y = some c ∧ X.env.cells.lookup y = some c := fun {y} hl => by
    have hy : (y, NameKind.free) ∈ scope.names := PySem.mem_of_lookup hl
    obtain ⟨c', e'⟩ := mem_lookup (cells_acc (names := scope.names) (n := (s.heap.push { cls := .type "frame", data := .dict #[] }).objs.size) (cloFrom_has (cells := X.env.cells) (acc := []) hy))
    rw [← e3'] at e'
    refine ⟨c', e', ?_⟩
    rcases mem e' with h | ⟨h1, _⟩
    · exact h.1
    · have q := ok.uniq _ h1
      rw [hl] at q; cases q
  have eN : ∀ b ∈ fp, b ≠ s.heap.objs.size := fun b hb => Nat.ne_of_lt (hfp b hb).2
  have okB : (gcx X A s H scope env fp).Ok := by
    refine ⟨I.ok.mod, by show env.scope.kind = _; rw [e1]; exact ok.kind, by show env.globals = _; rw [e4]; exact I.ok.glob, e5, by show s.heap.objs.size ≤ env.locals; rw [e2]; exact Nat.le_refl _,
      ?inj, ?has, ?cab, fun _ => hA, hF, .inr ⟨rfl, by show env.frame = some env.locals; rw [e6, e2]⟩, ?exf, I.bs, Nat.le_trans I.ok.bsz I.sz, ?noex, ?exfs, I.stack, I.stkFree⟩
    case inj =>
      intro y z c h1 h2
      have h1 : env.cells.lookup y = some c := h1
      have h2 : env.cells.lookup z = some c := h2
      rw [e3'] at h1 h2
      refine cells_inj (fun p hp => ?_) (fun y z c a b => I.ok.inj y z c (cm a).1 (cm b).1) (PySem.mem_of_lookup h1) (PySem.mem_of_lookup h2)
      rw [Heap.size_push]
      exact Nat.lt_succ_of_lt (cm (y := p.1) (c := p.2) hp).2
    case has =>
      intro y hy
      show ∃ c, env.cells.lookup y = some c
      have hy : scope.names.lookup y = some .cell ∨ scope.names.lookup y = some .free := by
        have q : env.kindOf y = some .cell ∨ env.kindOf y = some .free := hy
        unfold Env.kindOf at q
        rw [e1] at q
        exact q
      rcases hy with h | h
      · obtain ⟨c, hm⟩ := cells_has (n := (s.heap.push { cls := .type "frame", data := .dict #[] }).objs.size) (acc := cloFrom X.env.cells scope.names []) (PySem.mem_of_lookup h)
        obtain ⟨c', e'⟩ := mem_lookup hm
        exact ⟨c', by rw [e3']; exact e'⟩
      · obtain ⟨c, h1, _⟩ := look h
        exact ⟨c, h1⟩
    case cab =>
      intro y c z e
      have z : scope.names.lookup y = some .cell := by
        have q : (scope.names.lookup y == some NameKind.cell) = true := z
        simpa using q
      have e : env.cells.lookup y = some c := e
      rw [e3'] at e
      rcases cells_mem (PySem.mem_of_lookup e) with hm | ⟨_, h2, _⟩
      · rcases cloFrom_mem hm with hm | ⟨h1, _⟩
        · cases hm
        · have q := ok.uniq _ h1
          rw [z] at q; cases q
      · rw [Heap.size_push] at h2
        exact Nat.le_of_succ_le h2
    case exf =>
      intro b hb
      refine ⟨by show b ≠ env.locals; rw [e2]; exact eN b hb, fun y c e z => ?_⟩
      have e : env.cells.lookup y = some c := e
      rcases mem e with ⟨h1, _⟩ | ⟨_, h1⟩
      · exact (hfp b hb).1.2.2.2.2.1 y c h1 z
      · have h2 : s.heap.objs.size + 1 ≤ b := by rw [← z]; exact h1
        exact absurd (Nat.lt_of_lt_of_le (hfp b hb).2 (Nat.le_of_succ_le h2)) (Nat.lt_irrefl _)
    case noex =>
      intro b o e hb
      have e : X.base.get? b = some o := e
      rcases (hfp b hb).1.2.2.2.1 with z | z
      · exact I.ok.noex b o e z
      · exact absurd (Nat.lt_of_lt_of_le (Heap.lt_size e) (Nat.le_trans I.ok.bsz z)) (Nat.lt_irrefl _)
    case exfs =>
      intro b hb z
      rcases List.mem_cons.mp (I.stkSub b z) with z | z
      · exact (hfp b hb).1.2.1 z
      · exact (hfp b hb).1.2.2.1 z
  refine ⟨okB, eo, eb, Un.kept kp, ⟨m0, by show t.heap.Ns env.locals m0; rw [e2]; exact ns, ?loc⟩, ?cell, ?free, ?freeC, fun p hp => absurd (show p ∈ ([] : List (Addr × Obj)) ++ [] from hp) (by simp), I.hok.kept kp, by rw [wipe_length]; exact I.len⟩
  case loc =>
    intro i y av h1 h2 h3
    obtain ⟨h2, hne⟩ := wipe_some h2
    have hfr : scope.names.lookup y = some .free := by
      have h3 : scope.names.lookup y = some .local ∨ scope.names.lookup y = some .cell ∨ scope.names.lookup y = some .free := by
        have q : Vis env.scope y := h3
        rw [e1] at q
        exact q
      have no : ∀ k', scope.names.lookup y = some k' → ¬ (k' = .local ∨ k' = .cell) := fun k' e hh => by
        rcases ok.own _ (PySem.mem_of_lookup e) hh with e' | e'
        · obtain ⟨p, hp, hpy⟩ := List.mem_map.mp e'
          have q := ok.ix p hp
          have hpy : p.1 = y := hpy
          rw [hpy] at q
          exact hne (List.mem_map.mpr ⟨p, hp, nodup_ix hN q h1⟩)
        · exact e' (List.mem_of_getElem? h1)
      rcases h3 with h | h | h
      · exact absurd (.inl rfl) (no _ h)
      · exact absurd (.inr rfl) (no _ h)
      · exact h
    obtain ⟨m, hn, hl⟩ := I.loc
    have hvis : Vis X.env.scope y := (ok.free _ (PySem.mem_of_lookup hfr) rfl).elim (fun k => .inr (.inl k)) (fun k => .inr (.inr k))
    obtain ⟨w, r, q⟩ := hl i y av h1 h2 hvis
    have hk : env.kindOf y = some .free := by unfold Env.kindOf; rw [e1]; exact hfr
    refine ⟨w, r, .inr ⟨.inr hk, ?_⟩⟩
    obtain ⟨c, z1, z2⟩ := look hfr
    rcases q with ⟨k, _⟩ | ⟨_, c', e', z⟩
    · have k : X.env.scope.names.lookup y = some .local := k
      rcases ok.free _ (PySem.mem_of_lookup hfr) rfl with k' | k'
      · rw [show X.env.scope.names.lookup y = _ from k'] at k; cases k
      · rw [show X.env.scope.names.lookup y = _ from k'] at k; cases k
    · rw [z2] at e'; cases e'
      exact ⟨c, z1, z.keeps kp⟩
  case cell =>
    intro y c e
    have e : env.cells.lookup y = some c := e
    rcases mem e with ⟨h1, _⟩ | ⟨h1, h2⟩
    · obtain ⟨w, z⟩ := I.cell y c h1
      exact ⟨w, z.keeps kp⟩
    · exact hcell y c h1 h2 e
  case free =>
    show H env.locals = none
    rw [e2]; exact I.hok.fresh (Nat.le_refl _)
  case freeC =>
    intro y c e
    have e : env.cells.lookup y = some c := e
    rcases mem e with ⟨h1, _⟩ | ⟨_, h1⟩
    · exact I.freeC y c h1
    · exact I.hok.fresh (Nat.le_of_succ_le h1)
end

section
variable {Y : Cx} {A : Around} {ps : List (Addr × Obj)} {S : Hp → Prop} {C : CW}
variable {elt tg iter : Expr} {ifs : List Expr} {scope : Scope} {pos : Pos} {it : Addr} {tn : Nat → Heap → Prop} {J : It} {fp : List Addr}
theorem start_seg {R : GenEnd} {Pr : Protocol} {n : Nat} {z s : Shared} (T : Turn Y.prog Y.w Y.K tg J fp it tn) (st : tn 0 s.heap)
    (loop : Seg (model Y.prog Y.w) A R Pr n z (.compLoop (.GeneratorExp elt [⟨tg, iter, ifs, 0⟩] scope pos) 0 (.ref it) .none Y.env)
        ((model Y.prog Y.w).den (.compLoop (.GeneratorExp elt [⟨tg, iter, ifs, 0⟩] scope pos) 0 (.ref it) .none Y.env)) [] s) :
    Seg (model Y.prog Y.w) A R Pr n z (.compStart (.GeneratorExp elt [⟨tg, iter, ifs, 0⟩] scope pos) 0 (.ref it) .none Y.env)
        ((model Y.prog Y.w).den (.compStart (.GeneratorExp elt [⟨tg, iter, ifs, 0⟩] scope pos) 0 (.ref it) .none Y.env)) [] s := by
  show Seg _ A _ _ _ z _ ((compStart (.GeneratorExp elt [⟨tg, iter, ifs, 0⟩] scope pos) 0 (.ref it) .none Y.env).onRaise (leaving Y.env)) [] s
  unfold compStart
  rw [Sem.onRaise_eq_wrap]
  show Seg _ A _ _ _ z _ ((ask >>= _).wrap _ _ _ _) [] s
  refine seg_bind_wrap (wpAny_askSetting ?_)
  split
  · exact seg_again rfl loop
  · refine seg_bind_wrap (wpAny_rule ?_)
    first
      | exact seg_bind_wrap (wpAny_standAt (seg_bind_wrap (T.self _ 0 s _ _ st (seg_again rfl loop))))
      | (show Seg _ A _ _ _ z _ ((standAt iter.pos >>= _).wrap _ _ _ _) [] s
         exact seg_bind_wrap (wpAny_standAt (seg_bind_wrap (T.self _ 0 s _ _ st (seg_again rfl loop)))))

/-- a generator of ours that sleeps, as its consumer sees it -/
def GAt (Y : Cx) (A : Around) (ps : List (Addr × Obj)) (S : Hp → Prop) (C : CW) (a : Addr) (g n : Nat) (s : Shared) : Prop :=
  ∃ gs, s.gens[g]? = some gs ∧ s.heap.IsGen a g ∧ s.heap.NoLimit ∧
    gs.Goes (model Y.prog Y.w) A.in1 (fun n z r s => r = .ok .next ∧ gOver Y ps S n z s) (gProto Y ps C) n (.send .none) (s.setGen g .running)

theorem bare_set {s : Shared} {g : Nat} {x : GenState} (h : AllBare s.gens) (hx : x.bare = true) : AllBare (s.setGen g x).gens := by
  intro y hy
  simp only [Shared.setGen] at hy
  rcases Array.mem_or_eq_of_mem_setIfInBounds hy with q | q
  · exact h y q
  · rw [q]; exact hx

theorem next_gen {a : Addr} {g n : Nat} {s : Shared} {Q : Option Value → Shared → Prop} {E : Value → Shared → Prop} {go : Obj} (hh : A.handled = none) (hroom : A.depth < recursionLimit)
    (G : GAt Y A ps S C a g n s) (hps : (a, go) ∈ ps) (hgo : ∀ h : Heap, h.get? a = some go → h.IsGen a g)
    (hend : ∀ sg H t, Inv Y ps sg H t → S H → Q none t)
    (hyld : ∀ v y sg H Nx t, RelV y v → Inv Y ps sg H t → C y H Nx → (Nx H → ∃ m, m < n ∧ GAt Y A ps S C a g m t) → Q (some v) t) :
    wpAny (model Y.prog Y.w) A (pyNext (.ref a)) Q E s := by
  obtain ⟨gs, h1, h2, h3, h4⟩ := G
  have hlt : g + 1 ≤ s.gens.size := by
    rcases Nat.lt_or_ge g s.gens.size with h' | h'
    · exact h'
    · rw [Array.getElem?_eq_none h'] at h1; cases h1
  refine GenW.wpAny_gsz hlt (wpAny_pyNext_genexpQ (P := gOver Y ps S) hh h3 hroom h2 h1 h4 ?_ ?_)
  · intro v s1 gs' hb hy hsz
    obtain ⟨y, sg, H, Nx, r, I, hC, hk⟩ := hy
    have hsz1 : g < s1.gens.size := by
      have e : (s1.setGen g gs').gens.size = s1.gens.size := by simp [Shared.setGen]
      rw [e] at hsz; exact hsz
    refine hyld v y sg H Nx _ r (inv_like I rfl rfl (bare_set I.bare hb)) hC fun nx => ?_
    have hget : (s1.setGen g gs').gens[g]? = some gs' := by simp [Shared.setGen, hsz1]
    have hpin := I.pin (a, go) (List.mem_append_right _ hps)
    have hk' := hk nx ((s1.setGen g gs').setGen g .running) rfl rfl (bare_set (bare_set I.bare hb) rfl)
    cases n with
    | zero => exact hk'.elim
    | succ m => exact ⟨m, Nat.lt_succ_self _, gs', hget, hgo _ hpin.1, I.nolimit, hk'⟩
  · intro s1 hp h' hk _
    obtain ⟨sg, H, I, hS⟩ := hp
    have I2 := inv_like (t := s1.setGen g .finished) I rfl rfl (bare_set I.bare rfl)
    exact hend sg H _ (I2.kept (h' := h') (t' := s1.toks) hk) hS
end
end ZG

namespace ZG
open PySem PySem.Spec PyProof.Rows L2 GxR

/-- the record of the frame of a generator expression -/
def gxEnv (X : Cx) (scope : Scope) (L : Addr) (code : Value) : Env :=
  newEnv scope L X.env.globals (cellsFrom (L + 1) scope.names (cloFrom X.env.cells scope.names [])) (X.env.qual ++ "<genexpr>.") none code none builtinsNs

theorem over_gx {A : Around} {elt tg iter : Expr} {ifs : List Expr} {scope : Scope} {pos : Pos} {it : Value} {env : Env} {k : Nat} (hr : Room (k + 1) A) {st : List Env} (hf : A.frames = some st) :
    Room k (A.over (.compLoop (.GeneratorExp elt [⟨tg, iter, ifs, 0⟩] scope pos) 0 it .none env) []) ∧
      (A.over (.compLoop (.GeneratorExp elt [⟨tg, iter, ifs, 0⟩] scope pos) 0 it .none env) []).frames = some (env :: st) := by
  refine ⟨⟨hr.hd, ?_, ?_⟩, ?_⟩
  · have := hr.dp
    show A.depth + 0 + 1 + 3 * k + 5 < _
    omega
  · have := hr.un
    show A.units + 0 + 3 + 16 * k + 200 < _
    omega
  · show (A.over _ []).frames = _
    unfold Around.over
    dsimp only
    rw [hf]
    rfl
/-- a builtin's code (or more) around -/
structure Near (A B : Around) : Prop where
  hd : B.handled = A.handled
  fr : B.frames = A.frames
  dp : B.depth ≤ A.depth
  un : B.units ≤ A.units + 8
theorem Near.room {A B : Around} {k : Nat} (n : Near A B) (r : Room (k + 1) A) : Room k B :=
  ⟨n.hd.trans r.hd, by have := r.dp; have := n.dp; omega, by have := r.un; have := n.un; omega⟩
theorem near0 {A : Around} : Near A A := ⟨rfl, rfl, Nat.le_refl _, by omega⟩
theorem near1 {A : Around} : Near A A.in1 := ⟨rfl, rfl, Nat.le_refl _, by show A.units + 1 ≤ _; omega⟩
theorem near2 {A : Around} : Near A A.in1.in1 := ⟨rfl, rfl, Nat.le_refl _, by show A.units + 1 + 1 ≤ _; omega⟩
theorem near3 {A : Around} : Near A A.in1.in1.in1 := ⟨rfl, rfl, Nat.le_refl _, by show A.units + 1 + 1 + 1 ≤ _; omega⟩

section
variable {X : Cx} {pins : List (Addr × Obj)} {sg : L2.St} {H : Hp} {s : Shared}
variable {elt tg iter : Expr} {ifs : List Expr} {scope : Scope} {pos : Pos} {own : List (Str × Nat)}
variable {wi : TI} {g : TG} {tt : TT} {te : TE} {k : Nat} {c P : Addr}

/-- what the making of a generator expression hands on to its consumer -/
structure Made (X : Cx) (pins : List (Addr × Obj)) (sg : L2.St) (elt tg iter : Expr) (ifs : List Expr) (scope : Scope) (pos : Pos) (vs : List Nat) (g : TG) (tt : TT) (te : TE) (k : Nat) (J : It) (H2 : Hp) (a : Addr) (s5 : Shared) : Prop where
  inv : Inv X pins sg H2 s5
  run : ∀ (A : Around) (S : Hp → Prop) (C : CW) (W : Nat → Nat → Hp → Prop) (m : Nat), Near X.A A → W 0 m H2 →
    (∀ i m H, W i m H → (J.stop i H ∧ S H) ∨ (J.go i H ∧ ∃ Nx : Hp → Prop, (∀ H', Nx H' → ∃ m', m' < m ∧ W (i + 1) m' H') ∧
      ∀ x H', J.yld i H x H' → g x (wipe sg vs) H' fun σ2 H2 => (wipe σ2 vs = wipe sg vs) ∧ tt σ2 H2 fun b H3 => if b = true then te σ2 H3 fun y H4 => C y H4 Nx else Nx H3)) →
    ∃ (Y : Cx) (gn : Nat) (go : Obj) (ps : List (Addr × Obj)), Y.prog = X.prog ∧ Y.w = X.w ∧ GAt Y A ps S C a gn (m + 1) s5 ∧ (a, go) ∈ ps ∧ (∀ h : Heap, h.get? a = some go → h.IsGen a gn) ∧ s5.heap.IsGen a gn ∧
      ∀ sg' H' t, Inv Y ps sg' H' t → Inv X pins sg H' t

theorem wp_dot0 {M : Model} {A : Around} {E : Value → Shared → Prop} {s : Shared} {scope : Scope} {globals : Addr} {cl : List (Str × Addr)} {it : Value} {qual : Str} {code : Value} {bi : Addr} {Q : Env → Shared → Prop}
    (hk : scope.kind = .function) (h0 : scope.names.lookup (".0" : Str) = some NameKind.local)
    (h : ∀ h' m, h'.Ns s.heap.objs.size m → Heap.SameBut s.heap.objs.size (pushCells (s.heap.push { cls := .type "frame", data := .dict #[] }) scope.names) h' →
      Q (newEnv scope s.heap.objs.size globals (cellsFrom (s.heap.objs.size + 1) scope.names cl) qual none code none bi) { s with heap := h', toks := s.toks + 1 }) :
    wpAny M A (newFunctionEnv scope globals cl [(".0", it)] qual none code none bi) Q E s := by
  simp only [newFunctionEnv, Option.isSome_none, Bool.false_eq_true, if_false]
  refine wpAny_bind (wpAny_alloc ?_)
  refine wpAny_bind (wpAny_layCells _ (fun n k c => by cases e : k == NameKind.cell <;> simp [e]) scope.names cl _ _ ?_)
  rw [show ({ s with heap := s.heap.push { cls := .type "frame", data := .dict #[] } } : Shared).heap.objs.size = s.heap.objs.size + 1 from Heap.size_push ..]
  simp only [List.forIn_cons, List.forIn_nil]
  have ns0 : (pushCells (s.heap.push { cls := .type "frame", data := .dict #[] }) scope.names).Ns s.heap.objs.size (fun _ => none) := (Heap.Ns.new s.heap (.type "frame")).keeps (pushCells_keeps _ _)
  refine wpAny_bind (wpAny_bind (wpAny_bind (wpAny_storeName_local (m := fun _ => none) ?_ ns0 (fun h' hn hs => ?_) ?_)))
  · exact h0
  · exact wpAny_pure (wpAny_pure (wpAny_pure (h h' _ hn hs)))
  · show (scope.kind == .class || (scope.kind == .module && _)) = false
    rw [hk]; rfl

theorem gen_make {Q' : Value → Shared → Prop} {R : It → Hp → Prop} (hr : Room (k + 2) X.A) (hN : X.N.Nodup) (hc : X.calm = true) (TB : TabB X.base X.mg c P) (hcode : X.env.code = .ref c)
    (hco : scope.isCoroutine = false) (h0 : scope.names.lookup (".0" : Str) = some NameKind.local) (ok : BlkOk X.N X.env.scope scope own) (hi : PI X tg iter wi)
    (hg : ∀ (A : Around) (s : Shared) (H : Hp) (L : Addr) (code : Value) (fp : List Addr), Room k A → PG (gcx X A s H scope (gxEnv X scope L code) fp) tg g)
    (ht : ∀ (A : Around) (s : Shared) (H : Hp) (L : Addr) (code : Value) (fp : List Addr), Room k A → PTs (gcx X A s H scope (gxEnv X scope L code) fp) ifs tt)
    (he : ∀ (A : Around) (s : Shared) (H : Hp) (L : Addr) (code : Value) (fp : List Addr), Room k A → PE (gcx X A s H scope (gxEnv X scope L code) fp) elt te)
    (hs : ∀ v, genFold iter X.env v = pure v) (I : Inv X pins sg H s) (h : wi sg H fun J H1 => TabG H1 P ∧ R J H1)
    (hQ : ∀ J H1 H2 a s5, R J H1 → Tabbed P H1 H2 → Made X pins sg elt tg iter ifs scope pos (own.map (·.2)) g tt te k J H2 a s5 → Q' (.ref a) s5) :
    wpAny (model X.prog X.w) X.A (eval (.GeneratorExp elt [⟨tg, iter, ifs, 0⟩] scope pos) X.env) Q' X.xe s := by
  have hfree : ∀ y ∈ scope.names, y.2 = .free → ∃ c, X.env.cells.lookup y.1 = some c := fun y hy e => by
    rcases ok.free y hy e with q | q
    · exact I.ok.has _ (.inl q)
    · exact I.ok.has _ (.inr q)
  rw [eval_GeneratorExp1 _ _ _ _ _ _ _ hco, closure_ok hfree]
  refine wpAny_bind (thn (hi.run pins s sg H _ I h) fun xv s1 h1 => ?_)
  refine wpAny_bind (wpAny_standAt ?_)
  refine wpAny_bind (wpAny_of_eq (hs xv) ?_)
  refine wpAny_bind (wpAny_holding (thn h1 fun itv s2 h2 => ?_))
  obtain ⟨it, fp, tn, J, H2, rfl, I2, T, st2, f2, ⟨pt, hP, htr⟩, hR⟩ := h2
  refine wpAny_bind (wpAny_enterFrame I2.nolimit hr.depth ?_)
  refine wpAny_bind (wpAny_pure ?_)
  have hPs : s2.heap.get? P = some { cls := .none, data := .fields pt } := I2.hok P _ hP
  have cd : PySem.W.CodeHd s2.heap c P := TB.code.keeps fun b u e => I2.bk b u e
  -- from the code on
  have cont : ∀ (code : Value) (h3 : Heap) (tk : Nat) (more : Array Value), Heap.ExtBut P s2.heap h3 → s2.heap.objs.size ≤ h3.objs.size → h3.get? P = some { cls := .none, data := .fields (pt ++ more) } → TriplesOk (pt ++ more).toList →
      wpAny (model X.prog X.w) X.A (do
        let bi ← builtinsFor X.env.globals X.env.builtins
        let cenv ← newFunctionEnv scope X.env.globals (cloFrom X.env.cells scope.names []) [(".0", .ref it)] (X.env.qual ++ "<genexpr>.") none code none bi
        newGenerator (.compStart (.GeneratorExp elt [⟨tg, iter, ifs, 0⟩] scope pos) 0 (.ref it) .none cenv) "<genexpr>" (X.env.qual ++ "<genexpr>")) Q' X.xe { s2 with heap := h3, toks := tk } := by
    intro code h3 tk more hx hsz hP3 ht3
    have nP : ∀ b, H2 b = none → b ≠ P := fun b e z => by rw [z, hP] at e; cases e
    have I3 : Inv X pins sg (upd H2 P (.tbl (pt ++ more))) { s2 with heap := h3, toks := tk } :=
      inv_tab (g' := s2.gens) (d' := s2.drawn) I2 hP (fun b o hb e => hx b o hb e) hP3 I2.bare
    have tb3 : Tabbed P H2 (upd H2 P (.tbl (pt ++ more))) := ⟨⟨_, upd_same, ht3⟩, fun b hb => upd_ne hb⟩
    obtain ⟨bm, ob, e1, e2, e3, e4, e5, e6, e7, e8⟩ := TB.bm
    refine wpAny_bind (wpAny_builtinsFor (m := X.mg) (by rw [I3.ok.glob]; exact I3.mod.glob.keeps I3.bk) e1 e2 (I3.bk _ _ e5) e6 e7 e8 ?_)
    generalize hH3 : upd H2 P (.tbl (pt ++ more)) = H3 at I3 tb3
    generalize hs3 : ({ s2 with heap := h3, toks := tk } : Shared) = s3 at I3
    have eh3 : s3.heap = h3 := by rw [← hs3]
    have nf3 : ∀ b ∈ fp, H3 b = none := fun b hb => by
      rw [tb3.2 b (nP b (f2 b hb).1)]; exact (f2 b hb).1
    have st3 : tn 0 s3.heap := T.keep _ _ _ st2 fun b hb o e => by
      rw [eh3]; exact hx b o (nP b (f2 b hb).1) e
    have f3 : ∀ b ∈ fp, FpOk X pins H3 b ∧ b < s3.heap.objs.size := fun b hb => by
      obtain ⟨o, e, _⟩ := T.obj _ _ st3 b hb
      exact ⟨⟨nf3 b hb, (f2 b hb).2⟩, Heap.lt_size e⟩
    refine wpAny_bind (wp_dot0 ok.kind h0 fun h4 m4 ns4 sb4 => ?_)
    simp only [newGenerator, newFields]
    refine wpAny_bind (wpAny_newGen (wpAny_bind (wpAny_mkText (wpAny_bind (wpAny_mkText (wpAny_newObj_type ?_ (by size_fits)))))))
    refine hQ J H2 H3 _ _ hR tb3 ?_
    -- the state behind it
    have kp4 : ∀ b o, s3.heap.get? b = some o → h4.get? b = some o := fun b o e => sb4.extBut b o (Nat.ne_of_lt (Heap.lt_size e)) (pushCells_keeps _ _ _ _ (Heap.get?_push_of_some _ e))
    generalize hgo : ({ cls := .type "generator", data := .fields _ } : Obj) = go
    generalize hs5 : ({ os := s3.os, gens := _, drawn := s3.drawn, toks := _, heap := h4.push go } : Shared) = s5
    have eh5 : s5.heap = h4.push go := by rw [← hs5]
    have eg5 : s5.gens = s3.gens.push (.fresh (.compStart (.GeneratorExp elt [⟨tg, iter, ifs, 0⟩] scope pos) 0 (.ref it) .none (gxEnv X scope s3.heap.objs.size code))) := by rw [← hs5]; rfl
    have eo5 : s5.os = s3.os := by rw [← hs5]
    have kp5 : ∀ b o, s3.heap.get? b = some o → s5.heap.get? b = some o := fun b o e => by rw [eh5]; exact Heap.get?_push_of_some _ (kp4 b o e)
    have eb5 : AllBare s5.gens := by rw [eg5]; exact I3.bare.push rfl
    have sz4 : s3.heap.objs.size + 1 ≤ h4.objs.size := by
      have e := sb4.1
      have e2 := pushCells_size scope.names (s3.heap.push { cls := .type "frame", data := .dict #[] })
      rw [Heap.size_push] at e2
      omega
    have ha5 : s5.heap.get? h4.objs.size = some go := by rw [eh5]; exact Heap.get?_push_size _ (by rw [← hgo]; rfl)
    have hgen : ∀ h : Heap, h.get? h4.objs.size = some go → h.IsGen h4.objs.size s3.gens.size := fun h e => ⟨go, _, _, e, by rw [← hgo], by rw [← hgo]; rfl, by rw [← hgo]⟩
    have inv5 : Inv X pins sg H3 s5 := by
      have J5 := I3.kept (h' := s5.heap) (t' := s3.toks) kp5
      exact inv_like J5 rfl eo5 eb5
    refine ⟨inv5, fun A S C W m nA w0 turn => ?_⟩
    generalize henv : gxEnv X scope s3.heap.objs.size code = env at eg5
    have rA : Room (k + 1) A := nA.room hr
    have ov := over_gx (elt := elt) (tg := tg) (iter := iter) (ifs := ifs) (scope := scope) (pos := pos) (it := .ref it) (env := env) (A := A.in1) (k := k) ?_ (st := X.stack) (by show A.frames = _; rw [nA.fr]; exact I3.ok.frames)
    · generalize hAY : A.in1.over (.compLoop (.GeneratorExp elt [⟨tg, iter, ifs, 0⟩] scope pos) 0 (.ref it) .none env) [] = AY at ov
      have ge : GEnv X s3 scope env := by
        subst henv
        exact ⟨rfl, rfl, rfl, rfl, rfl, rfl⟩
      have I5 : Inv (gcx X AY s3 H3 scope env fp) [] (wipe sg (own.map (·.2))) H3 s5 := by
        refine gen_inv (m0 := m4) I3 ok hN f3 ge ov.1.hd ov.2 eo5 eb5 kp5 (by rw [eh5]; exact ns4.push _) fun y cc hy hl e => ?_
        have e' : (cellsFrom (s3.heap.push { cls := .type "frame", data := .dict #[] }).objs.size scope.names (cloFrom X.env.cells scope.names [])).lookup y = some cc := by
          rw [Heap.size_push, ← ge.cl]; exact e
        rcases cells_mem (PySem.mem_of_lookup e') with hm | ⟨_, _, z⟩
        · rcases cloFrom_mem hm with hm | ⟨h1, _⟩
          · cases hm
          · have q1 := ok.uniq _ h1
            have q2 := ok.uniq _ hy
            have q3 : scope.names.lookup y = some .free := q1
            have q4 : scope.names.lookup y = some .cell := q2
            rw [q3] at q4; cases q4
        · refine ⟨none, ?_⟩
          rw [eh5]
          obtain ⟨oc, hoc, hd⟩ := z
          refine ⟨oc, Heap.get?_push_of_some _ (sb4.extBut _ _ (fun q => ?_) hoc), hd⟩
          rw [q] at hl
          exact absurd hl (Nat.not_succ_le_self _)
      -- the generator's own object is pinned
      have nloc : h4.objs.size ≠ env.locals := by rw [ge.loc]; exact Nat.ne_of_gt sz4
      have young : s3.heap.objs.size ≤ h4.objs.size := Nat.le_of_succ_le sz4
      have I5p : Inv (gcx X AY s3 H3 scope env fp) [(h4.objs.size, go)] (wipe sg (own.map (·.2))) H3 s5 := by
        refine I5.pins_of fun p hp => ?_
        rw [List.mem_singleton.mp hp]
        refine ⟨ha5, I3.hok.fresh young, nloc, ?_, fun v q => ?_⟩
        · intro hb
          obtain ⟨_, o, ho, _⟩ := I3.stack.mem hb
          exact absurd (Nat.lt_of_lt_of_le (Heap.lt_size ho) young) (Nat.lt_irrefl _)
        · rw [← hgo] at q
          have q' : Data.fields _ = Data.cell v := q
          cases q'
      have st5 : tn 0 s5.heap := T.keep _ _ _ st3 fun b _ o e => kp5 b o e
      have ffp : ∀ b ∈ fp, ∀ (sg' : L2.St) (H' : Hp) (t : Shared), Inv (gcx X AY s3 H3 scope env fp) [(h4.objs.size, go)] sg' H' t → H' b = none → FpOk (gcx X AY s3 H3 scope env fp) [(h4.objs.size, go)] H' b := fun b hb sg' H' t I' hn => by
        refine ⟨hn, (I'.ok.exf b hb).1, I'.ok.exfs b hb, .inl hb, fun x cc e => (I'.ok.exf b hb).2 x cc e, fun p hp => ?_⟩
        have e : p = (h4.objs.size, go) := List.mem_singleton.mp (by simpa using hp)
        rw [e]
        exact Nat.ne_of_gt (Nat.lt_of_lt_of_le (f3 b hb).2 young)
      refine ⟨gcx X AY s3 H3 scope env fp, s3.gens.size, go, [(h4.objs.size, go)], rfl, rfl, ⟨.fresh (.compStart (.GeneratorExp elt [⟨tg, iter, ifs, 0⟩] scope pos) 0 (.ref it) .none env), ?_, hgen _ ha5, inv5.nolimit, ?_⟩, List.mem_singleton.mpr rfl, hgen, hgen _ ha5, fun sg' H' t I' => ?_⟩
      · rw [eg5]; exact Array.getElem?_push_size ..
      · refine ⟨rfl, ?_⟩
        have hgY := hg AY s3 H3 s3.heap.objs.size code fp ov.1
        have htY := ht AY s3 H3 s3.heap.objs.size code fp ov.1
        have heY := he AY s3 H3 s3.heap.objs.size code fp ov.1
        rw [henv] at hgY htY heY
        have I6 := inv_like (t := s5.setGen s3.gens.size .running) I5p rfl rfl (bare_set eb5 rfl)
        refine start_seg (Y := gcx X AY s3 H3 scope env fp) T st5 ?_
        refine loop_seg (Y := gcx X AY s3 H3 scope env fp) (fp := fp) (vs := own.map (·.2)) hAY rfl hc T hgY htY heY ?_ ffp W turn m (m + 1) 0 _ _ H3 (Nat.lt_succ_self _) w0 I6 st5 nf3
        show env.scope.isCoroutine = false
        rw [ge.sc]; exact hco
      · have B := I'.base
        refine I3.call' (ch := fp) I'.os B I'.hok I'.bare fun b hb => ?_
        exact ⟨(f3 b hb).1.2.2.2.1, (f3 b hb).1.2.1, (f3 b hb).1.2.2.2.2.1, (f3 b hb).1.2.2.2.2.2⟩
    · exact ⟨rA.hd, rA.dp, by have := hr.un; have := nA.un; show A.units + 1 + 16 * (k + 1) + 200 < _; omega⟩
  cases hf : codeAmong pos pt.toList with
  | none =>
    refine wpAny_bind (wpAny_genexprCodeX hcode (cd.code hPs htr) (cd.tab hPs) hf fun c' h' tk hx hge hlt hco' _ htab' _ => ?_)
    obtain ⟨o1, vs, f1, tf, fl, tg1, inF, tx, tt1, op, _, _, _, _, _, _, _, _, _, htr', _⟩ := hco'
    exact cont _ h' tk _ hx (Nat.le_trans hge (Nat.le_of_lt hlt)) htab'.2 htr'
  | some cv =>
    refine wpAny_bind (wpAny_genexprCode_hit hcode (cd.code hPs htr) hf ?_)
    have q := cont cv s2.heap s2.toks #[] (Heap.ExtBut.refl _ _) (Nat.le_refl _) (by simpa using hPs) (by simpa using htr)
    exact q
end
end ZG

namespace ZG
open PySem PySem.Spec PyProof.Rows L2 GxR

section
variable {Y : Cx} {A : Around} {ps : List (Addr × Obj)} {S F : Hp → Prop} {a : Addr} {gn : Nat} {go : Obj} {R : Result → Shared → Prop}
/-- all, any: what is wanted of a truth value that is handed out -/
def cAll (F : Hp → Prop) : CW := fun y H Nx => ∃ b : Bool, y = .bl b ∧ if b = true then Nx H else F H
def cAny (F : Hp → Prop) : CW := fun y H Nx => ∃ b : Bool, y = .bl b ∧ if b = true then F H else Nx H

theorem all_turns (hh : A.handled = none) (hroom : A.depth < recursionLimit) (hps : (a, go) ∈ ps) (hgo : ∀ h : Heap, h.get? a = some go → h.IsGen a gn)
    (hS : ∀ sg H t, Inv Y ps sg H t → S H → R (.ok (.ret (.bool true))) t) (hF : ∀ sg H t, Inv Y ps sg H t → F H → R (.ok (.ret (.bool false))) t) :
    ∀ (n : Nat) (s : Shared), GAt Y A.in1 ps S (cAll F) a gn n s → codeAny (model Y.prog Y.w) A (.builtin "all.loop" ⟨[.ref a], []⟩) R s := by
  intro n
  induction n using Nat.strongRecOn with
  | ind n ih =>
    intro s G
    refine codeAny_builtin PySem.F.entry_all_loop ?_
    rw [Around.under_plainId PySem.F.plain_all_loop _]
    refine wpAny_bind (m := pyNext (.ref a)) (next_gen hh hroom G hps hgo (fun sg H t I h => ?_) fun v y sg H Nx t r I hC hk => ?_)
    · exact wpAny_bind (wpAny_rule (wpAny_pure (hS sg H t I h)))
    · obtain ⟨b, rfl, hb⟩ := hC
      cases r
      refine wpAny_bind (wpAny_holding (wpAny_truthy_bool ?_))
      refine wpAny_bind (wpAny_letGo ?_)
      cases b with
      | true =>
        obtain ⟨m, hm, G'⟩ := hk hb
        exact wpAny_pure ⟨plainId_quiet PySem.F.plain_all_loop _, ih m hm t G'⟩
      | false => exact wpAny_bind (wpAny_rule (wpAny_pure (hF sg H t I hb)))

theorem any_turns (hh : A.handled = none) (hroom : A.depth < recursionLimit) (hps : (a, go) ∈ ps) (hgo : ∀ h : Heap, h.get? a = some go → h.IsGen a gn)
    (hS : ∀ sg H t, Inv Y ps sg H t → S H → R (.ok (.ret (.bool false))) t) (hF : ∀ sg H t, Inv Y ps sg H t → F H → R (.ok (.ret (.bool true))) t) :
    ∀ (n : Nat) (s : Shared), GAt Y A.in1 ps S (cAny F) a gn n s → codeAny (model Y.prog Y.w) A (.builtin "any.loop" ⟨[.ref a], []⟩) R s := by
  intro n
  induction n using Nat.strongRecOn with
  | ind n ih =>
    intro s G
    refine codeAny_builtin PySem.F.entry_any_loop ?_
    rw [Around.under_plainId PySem.F.plain_any_loop _]
    refine wpAny_bind (m := pyNext (.ref a)) (next_gen hh hroom G hps hgo (fun sg H t I h => ?_) fun v y sg H Nx t r I hC hk => ?_)
    · exact wpAny_bind (wpAny_rule (wpAny_pure (hS sg H t I h)))
    · obtain ⟨b, rfl, hb⟩ := hC
      cases r
      refine wpAny_bind (wpAny_holding (wpAny_truthy_bool ?_))
      refine wpAny_bind (wpAny_letGo ?_)
      cases b with
      | false =>
        obtain ⟨m, hm, G'⟩ := hk hb
        exact wpAny_pure ⟨plainId_quiet PySem.F.plain_any_loop _, ih m hm t G'⟩
      | true => exact wpAny_bind (wpAny_rule (wpAny_pure (hF sg H t I hb)))
end

section
variable {X : Cx} {elt tg iter : Expr} {ifs : List Expr} {scope : Scope} {own : List (Str × Nat)}
variable {wi : TI} {g : TG} {tt : TT} {te : TE} {k : Nat} {c P : Addr} {p pos gpos : Pos}

/-- the turns of a generator expression; the end, what is wanted of each thing -/
def tGen (P : Addr) (wi : TI) (g : TG) (tt : TT) (te : TE) (vs : List Nat) (C : CW) (S : Hp → Prop) : L2.St → Hp → Prop := fun σ H => wi σ H fun J H1 => TabG H1 P ∧ ∀ H2, Tabbed P H1 H2 →
  ∃ W : Nat → Nat → Hp → Prop, (∃ m, W 0 m H2) ∧ ∀ i m H, W i m H → (J.stop i H ∧ S H) ∨ (J.go i H ∧ ∃ Nx : Hp → Prop, (∀ H', Nx H' → ∃ m', m' < m ∧ W (i + 1) m' H') ∧
    ∀ x H', J.yld i H x H' → g x (wipe σ vs) H' fun σ2 H2 => (wipe σ2 vs = wipe σ vs) ∧ tt σ2 H2 fun b H3 => if b = true then te σ2 H3 fun y H4 => C y H4 Nx else Nx H3)
def tAllG (P : Addr) (wi : TI) (g : TG) (tt : TT) (te : TE) (vs : List Nat) : TE := fun σ H Q => tGen P wi g tt te vs (cAll fun H => Q (.bl false) H) (fun H => Q (.bl true) H) σ H
def tAnyG (P : Addr) (wi : TI) (g : TG) (tt : TT) (te : TE) (vs : List Nat) : TE := fun σ H Q => tGen P wi g tt te vs (cAny fun H => Q (.bl true) H) (fun H => Q (.bl false) H) σ H

theorem pe_allG (hr : Room (k + 2) X.A) (hN : X.N.Nodup) (hc : X.calm = true) (hgl : Gl X "all") (hm : X.mg "all" = none) (TB : TabB X.base X.mg c P) (hcode : X.env.code = .ref c)
    (hco : scope.isCoroutine = false) (h0 : scope.names.lookup (".0" : Str) = some NameKind.local) (ok : BlkOk X.N X.env.scope scope own) (hi : PI X tg iter wi)
    (hg : ∀ (A : Around) (s : Shared) (H : Hp) (L : Addr) (code : Value) (fp : List Addr), Room k A → PG (gcx X A s H scope (gxEnv X scope L code) fp) tg g)
    (ht : ∀ (A : Around) (s : Shared) (H : Hp) (L : Addr) (code : Value) (fp : List Addr), Room k A → PTs (gcx X A s H scope (gxEnv X scope L code) fp) ifs tt)
    (he : ∀ (A : Around) (s : Shared) (H : Hp) (L : Addr) (code : Value) (fp : List Addr), Room k A → PE (gcx X A s H scope (gxEnv X scope L code) fp) elt te)
    (hs : ∀ v, genFold iter X.env v = pure v := by intro _; rfl) (hb : bootBuiltins "all" = some (.builtin "all") := by decide +kernel)
    (hse : starEach [.GeneratorExp elt [⟨tg, iter, ifs, 0⟩] scope gpos] X.env = (false, eval (.GeneratorExp elt [⟨tg, iter, ifs, 0⟩] scope gpos) X.env) :: starEach [] X.env := by rfl) :
    PE X (.Call (.Name "all" p) [.GeneratorExp elt [⟨tg, iter, ifs, 0⟩] scope gpos] [] pos) (tAllG P wi g tt te (own.map (·.2))) := by
  refine ⟨fun pins s sg H Q I h => ?_⟩
  refine wpAny_Call_Name_kw (ld_blt I hgl hm hb ?_)
  refine PyProof.Rows.callWith_builtin1 ?_ hse (by rfl)
  rw [hse]
  show wpAny _ _ (spliced ((false, eval (.GeneratorExp elt [⟨tg, iter, ifs, 0⟩] scope gpos) X.env) :: backTo pos (starEach [] X.env))) _ _ s
  refine Calls.spliced_cons (gen_make (own := own) hr hN hc TB hcode hco h0 ok hi hg ht he hs I h fun J H1 H2 a s5 hR tb M => ?_)
  refine Calls.spliced_nil ?_
  obtain ⟨W, ⟨m, w0⟩, turn⟩ := hR H2 tb
  obtain ⟨Y, gn, go, ps, e1, e2, G, hps, hgo, hig, hX⟩ := M.run X.A.in1 (fun H => Q (.bl true) H) (cAll fun H => Q (.bl false) H) W m near1 w0 turn
  refine call_function_tree PySem.F.kind_all PySem.F.plain_all PySem.F.entry_all (PySem.F.args_all1 _) ?_
  unfold Builtin.«all»
  refine wpAny_bind (m := oneArg "all" _) (wpAny_pure ?_)
  refine wpAny_bind (wpAny_pyIter_gen hig ?_)
  rw [← e1, ← e2]
  exact wpAny_pure ⟨plainId_quiet PySem.F.plain_all_loop _, all_turns hr.hd hr.depth hps hgo (fun sg' H' t I' q => ⟨.bl true, H', hX sg' H' t I', rfl, q⟩) (fun sg' H' t I' q => ⟨.bl false, H', hX sg' H' t I', rfl, q⟩) _ _ G⟩

theorem pe_anyG (hr : Room (k + 2) X.A) (hN : X.N.Nodup) (hc : X.calm = true) (hgl : Gl X "any") (hm : X.mg "any" = none) (TB : TabB X.base X.mg c P) (hcode : X.env.code = .ref c)
    (hco : scope.isCoroutine = false) (h0 : scope.names.lookup (".0" : Str) = some NameKind.local) (ok : BlkOk X.N X.env.scope scope own) (hi : PI X tg iter wi)
    (hg : ∀ (A : Around) (s : Shared) (H : Hp) (L : Addr) (code : Value) (fp : List Addr), Room k A → PG (gcx X A s H scope (gxEnv X scope L code) fp) tg g)
    (ht : ∀ (A : Around) (s : Shared) (H : Hp) (L : Addr) (code : Value) (fp : List Addr), Room k A → PTs (gcx X A s H scope (gxEnv X scope L code) fp) ifs tt)
    (he : ∀ (A : Around) (s : Shared) (H : Hp) (L : Addr) (code : Value) (fp : List Addr), Room k A → PE (gcx X A s H scope (gxEnv X scope L code) fp) elt te)
    (hs : ∀ v, genFold iter X.env v = pure v := by intro _; rfl) (hb : bootBuiltins "any" = some (.builtin "any") := by decide +kernel)
    (hse : starEach [.GeneratorExp elt [⟨tg, iter, ifs, 0⟩] scope gpos] X.env = (false, eval (.GeneratorExp elt [⟨tg, iter, ifs, 0⟩] scope gpos) X.env) :: starEach [] X.env := by rfl) :
    PE X (.Call (.Name "any" p) [.GeneratorExp elt [⟨tg, iter, ifs, 0⟩] scope gpos] [] pos) (tAnyG P wi g tt te (own.map (·.2))) := by
  refine ⟨fun pins s sg H Q I h => ?_⟩
  refine wpAny_Call_Name_kw (ld_blt I hgl hm hb ?_)
  refine PyProof.Rows.callWith_builtin1 ?_ hse (by rfl)
  rw [hse]
  show wpAny _ _ (spliced ((false, eval (.GeneratorExp elt [⟨tg, iter, ifs, 0⟩] scope gpos) X.env) :: backTo pos (starEach [] X.env))) _ _ s
  refine Calls.spliced_cons (gen_make (own := own) hr hN hc TB hcode hco h0 ok hi hg ht he hs I h fun J H1 H2 a s5 hR tb M => ?_)
  refine Calls.spliced_nil ?_
  obtain ⟨W, ⟨m, w0⟩, turn⟩ := hR H2 tb
  obtain ⟨Y, gn, go, ps, e1, e2, G, hps, hgo, hig, hX⟩ := M.run X.A.in1 (fun H => Q (.bl false) H) (cAny fun H => Q (.bl true) H) W m near1 w0 turn
  refine call_function_tree PySem.F.kind_any PySem.F.plain_any PySem.F.entry_any (PySem.F.args_any1 _) ?_
  unfold Builtin.«any»
  refine wpAny_bind (m := oneArg "any" _) (wpAny_pure ?_)
  refine wpAny_bind (wpAny_pyIter_gen hig ?_)
  rw [← e1, ← e2]
  exact wpAny_pure ⟨plainId_quiet PySem.F.plain_any_loop _, any_turns hr.hd hr.depth hps hgo (fun sg' H' t I' q => ⟨.bl false, H', hX sg' H' t I', rfl, q⟩) (fun sg' H' t I' q => ⟨.bl true, H', hX sg' H' t I', rfl, q⟩) _ _ G⟩
end
end ZG

/-! programs over trees of data: the state of a def as a list of trees -/
namespace ZD
open PySem PySem.Spec PyProof.Rows L2 GxR ZG

/-- what a name holds: nothing, a tree that stays, a list or dict of one's own, the same of a caller's that is changed here -/
inductive Sl where
  | no | sh (d : PyData) | ow (d : PyData) | io (d : PyData)
abbrev En := List Sl
/-- a value: a tree that stays, or a new list or dict that nobody else has -/
inductive Vl where
  | sh (d : PyData) | ow (d : PyData)
def Vl.d : Vl → PyData
  | .sh d => d
  | .ow d => d

inductive Res (α : Type) where
  | ok (a : α) (en : En) | err (c : String) (en : En) | bad
abbrev M (α : Type) := En → Res α

structure Kx where
  K : PySem.W.Frag
  T : List Addr

/-- a key of a dict as a tree -/
def keyD : Key → PyData
  | .inl i => .int i
  | .inr x => .str x

/-- a list or dict that stands at a, its things in Z -/
inductive Own (K : PySem.W.Frag) (H Z : Hp) (a : Addr) : PyData → Prop
  | lst {vs : List V} {ds : List PyData} : H a = some (.lst vs) → DpAll K Z vs ds → Own K H Z a (.list ds)
  | dct {kvs : List (Key × V)} {ds : List (PyData × PyData)} : H a = some (.dK kvs) → ds.map (·.1) = kvs.map (fun p => keyD p.1) → DpAll K Z (kvs.map (·.2)) (ds.map (·.2)) → Own K H Z a (.dict ds)

def isOwn : Sl → Bool
  | .ow _ => true
  | .io _ => true
  | _ => false
/-- a is the place of an own thing -/
def Mine (sg : L2.St) (en : En) (a : Addr) : Prop := ∃ (i : Nat) (s : Sl), en[i]? = some s ∧ isOwn s = true ∧ sg[i]? = some (some (V.ref a))

def SlOk (K : PySem.W.Frag) (H Z : Hp) (v : Option V) : Sl → Prop
  | .no => True
  | .sh d => ∃ x, v = some x ∧ Dp K Z x d
  | .ow d => ∃ a, v = some (.ref a) ∧ Z a = none ∧ Own K H Z a d
  | .io d => ∃ a, v = some (.ref a) ∧ Z a = none ∧ Own K H Z a d

structure Rel (k : Kx) (sg : L2.St) (H Z : Hp) (en : En) : Prop where
  sub : ∀ a o, Z a = some o → H a = some o
  sl : ∀ (i : Nat) (s : Sl), en[i]? = some s → ∃ v, sg[i]? = some v ∧ SlOk k.K H Z v s
  dis : ∀ (i j : Nat) (s t : Sl) (a : Addr), en[i]? = some s → en[j]? = some t → isOwn s = true → isOwn t = true → sg[i]? = some (some (V.ref a)) → sg[j]? = some (some (V.ref a)) → i = j
  tab : ∀ P ∈ k.T, TabG H P ∧ Z P = none

/-- what a step may do -/
structure Aft (k : Kx) (sg : L2.St) (H Z : Hp) (en : En) (sg' : L2.St) (H' Z' : Hp) (en' : En) : Prop where
  rel : Rel k sg' H' Z' en'
  zz : ∀ a o, Z a = some o → Z' a = some o
  new : ∀ a o, Z' a = some o → Z a = some o ∨ H a = none ∨ Mine sg en a
  keep : ∀ a o, H a = some o → ¬ Mine sg en a → a ∉ k.T → H' a = some o
  own : ∀ a, Mine sg' en' a → Mine sg en a ∨ H a = none
  io : ∀ (i : Nat) (d : PyData), en[i]? = some (.io d) → (∃ d', en'[i]? = some (.io d')) ∧ sg'[i]? = sg[i]?

section
mutual
theorem dp_mono {K : PySem.W.Frag} {Z Z' : Hp} (h : ∀ a o, Z a = some o → Z' a = some o) : ∀ {v : V} {d : PyData}, Dp K Z v d → Dp K Z' v d
  | _, _, .non => .non
  | _, _, .bl b => .bl b
  | _, _, .int i => .int i
  | _, _, .str x => .str x
  | _, _, .lst hs ha => .lst (Same.seq h hs) (dpAll_mono h ha)
  | _, _, .tup hs ha => .tup (by
      rcases hs with (q | ⟨o, q⟩) | q
      · exact .inl (.inl (h _ _ q))
      · exact .inl (.inr ⟨o, h _ _ q⟩)
      · exact .inr q) (dpAll_mono h ha)
theorem dpAll_mono {K : PySem.W.Frag} {Z Z' : Hp} (h : ∀ a o, Z a = some o → Z' a = some o) : ∀ {vs : List V} {ds : List PyData}, DpAll K Z vs ds → DpAll K Z' vs ds
  | _, _, .nil => .nil
  | _, _, .cons q r => .cons (dp_mono h q) (dpAll_mono h r)
end
theorem dpa_length {K : PySem.W.Frag} {Z : Hp} : ∀ {vs : List V} {ds : List PyData}, DpAll K Z vs ds → vs.length = ds.length
  | _, _, .nil => rfl
  | _, _, .cons _ r => by rw [List.length_cons, List.length_cons, dpa_length r]
theorem dpa_append {K : PySem.W.Frag} {Z : Hp} : ∀ {vs ws : List V} {ds es : List PyData}, DpAll K Z vs ds → DpAll K Z ws es → DpAll K Z (vs ++ ws) (ds ++ es)
  | _, _, _, _, .nil, s => s
  | _, _, _, _, .cons q r, s => .cons q (dpa_append r s)
theorem dpa_get {K : PySem.W.Frag} {Z : Hp} : ∀ {vs : List V} {ds : List PyData} {i : Nat} {d : PyData}, DpAll K Z vs ds → ds[i]? = some d → ∃ v, vs[i]? = some v ∧ Dp K Z v d
  | _, _, _, _, .nil, e => by simp at e
  | _, _, 0, _, .cons q _, e => by simp at e; subst e; exact ⟨_, rfl, q⟩
  | _, _, i + 1, _, .cons _ r, e => by
    obtain ⟨v, h1, h2⟩ := dpa_get (i := i) r (by simpa using e)
    exact ⟨v, by simpa using h1, h2⟩
theorem dpa_get' {K : PySem.W.Frag} {Z : Hp} : ∀ {vs : List V} {ds : List PyData} {i : Nat} {v : V}, DpAll K Z vs ds → vs[i]? = some v → ∃ d, ds[i]? = some d ∧ Dp K Z v d
  | _, _, _, _, .nil, e => by simp at e
  | _, _, 0, _, .cons q _, e => by simp at e; subst e; exact ⟨_, rfl, q⟩
  | _, _, i + 1, _, .cons _ r, e => by
    obtain ⟨v, h1, h2⟩ := dpa_get' (i := i) r (by simpa using e)
    exact ⟨v, by simpa using h1, h2⟩
theorem dpa_set {K : PySem.W.Frag} {Z : Hp} {v : V} {d : PyData} (h : Dp K Z v d) : ∀ {vs : List V} {ds : List PyData} (i : Nat), DpAll K Z vs ds → DpAll K Z (vs.set i v) (ds.set i d)
  | _, _, _, .nil => .nil
  | _, _, 0, .cons _ r => .cons h r
  | _, _, i + 1, .cons q r => .cons q (dpa_set h i r)
theorem dpa_take {K : PySem.W.Frag} {Z : Hp} : ∀ {vs : List V} {ds : List PyData} (n : Nat), DpAll K Z vs ds → DpAll K Z (vs.take n) (ds.take n)
  | _, _, 0, _ => .nil
  | _, _, _ + 1, .nil => .nil
  | _, _, n + 1, .cons q r => .cons q (dpa_take n r)
theorem dpa_drop {K : PySem.W.Frag} {Z : Hp} : ∀ {vs : List V} {ds : List PyData} (n : Nat), DpAll K Z vs ds → DpAll K Z (vs.drop n) (ds.drop n)
  | _, _, 0, r => r
  | _, _, _ + 1, .nil => .nil
  | _, _, n + 1, .cons _ r => dpa_drop n r
theorem dpa_dropLast {K : PySem.W.Frag} {Z : Hp} {vs : List V} {ds : List PyData} (h : DpAll K Z vs ds) : DpAll K Z vs.dropLast ds.dropLast := by
  rw [List.dropLast_eq_take, List.dropLast_eq_take, dpa_length h]
  exact dpa_take _ h
theorem dpa_reverse {K : PySem.W.Frag} {Z : Hp} : ∀ {vs : List V} {ds : List PyData}, DpAll K Z vs ds → DpAll K Z vs.reverse ds.reverse
  | _, _, .nil => .nil
  | _, _, .cons q r => by
    rw [List.reverse_cons, List.reverse_cons]
    exact dpa_append (dpa_reverse r) (.cons q .nil)
end

section
variable {k : Kx} {sg sg' sg2 : L2.St} {H H' H2 Z Z' Z2 : Hp} {en en' en2 : En}
theorem Own.mono {K : PySem.W.Frag} {a : Addr} {d : PyData} (h : Own K H Z a d) (hh : ∀ o, H a = some o → H' a = some o) (hz : ∀ a o, Z a = some o → Z' a = some o) : Own K H' Z' a d := by
  cases h with
  | lst h1 h2 => exact .lst (hh _ h1) (dpAll_mono hz h2)
  | dct h1 h2 h3 => exact .dct (hh _ h1) h2 (dpAll_mono hz h3)
theorem Own.here {K : PySem.W.Frag} {a : Addr} {d : PyData} (h : Own K H Z a d) : ∃ o, H a = some o ∧ (∀ ps, o ≠ .tbl ps) ∧ Mut (some o) := by
  cases h with
  | lst h1 h2 => exact ⟨_, h1, (fun _ e => by cases e), trivial⟩
  | dct h1 h2 h3 => exact ⟨_, h1, (fun _ e => by cases e), trivial⟩

theorem Rel.mine (r : Rel k sg H Z en) {a : Addr} (m : Mine sg en a) : Z a = none ∧ ∃ d, Own k.K H Z a d := by
  obtain ⟨i, s, h1, h2, h3⟩ := m
  obtain ⟨v, hv, q⟩ := r.sl i s h1
  rw [h3] at hv
  cases hv
  cases s with
  | no => cases h2
  | sh d => cases h2
  | ow d => obtain ⟨b, e, h4, h5⟩ := q; cases e; exact ⟨h4, d, h5⟩
  | io d => obtain ⟨b, e, h4, h5⟩ := q; cases e; exact ⟨h4, d, h5⟩
theorem Rel.free (r : Rel k sg H Z en) {a : Addr} (h : H a = none) : Z a = none := by
  cases e : Z a with
  | none => rfl
  | some o => rw [r.sub a o e] at h; cases h

theorem Aft.refl (r : Rel k sg H Z en) : Aft k sg H Z en sg H Z en :=
  ⟨r, fun _ _ h => h, fun _ _ h => .inl h, fun _ _ h _ _ => h, fun _ h => .inl h, fun i d h => ⟨⟨d, h⟩, rfl⟩⟩
theorem Aft.trans (a : Aft k sg H Z en sg' H' Z' en') (b : Aft k sg' H' Z' en' sg2 H2 Z2 en2) (r : Rel k sg H Z en) : Aft k sg H Z en sg2 H2 Z2 en2 where
  rel := b.rel
  zz := fun x o h => b.zz x o (a.zz x o h)
  new := fun x o h => by
    rcases b.new x o h with q | q | q
    · exact a.new x o q
    · cases e : H x with
      | none => exact .inr (.inl rfl)
      | some u =>
        by_cases m : Mine sg en x
        · exact .inr (.inr m)
        · by_cases t : x ∈ k.T
          · obtain ⟨⟨ps, hp, _⟩, _⟩ := a.rel.tab x t
            rw [hp] at q; cases q
          · rw [a.keep x u e m t] at q; cases q
    · rcases a.own x q with z | z
      · exact .inr (.inr z)
      · exact .inr (.inl z)
  keep := fun x o h m t => by
    refine b.keep x o (a.keep x o h m t) (fun q => ?_) t
    rcases a.own x q with z | z
    · exact m z
    · rw [h] at z; cases z
  own := fun x h => by
    rcases b.own x h with q | q
    · exact a.own x q
    · cases e : H x with
      | none => exact .inr rfl
      | some u =>
        by_cases m : Mine sg en x
        · exact .inl m
        · by_cases t : x ∈ k.T
          · obtain ⟨⟨ps, hp, _⟩, _⟩ := a.rel.tab x t
            rw [hp] at q; cases q
          · rw [a.keep x u e m t] at q; cases q
  io := fun i d h => by
    obtain ⟨⟨d', h1⟩, h2⟩ := a.io i d h
    obtain ⟨h3, h4⟩ := b.io i d' h1
    exact ⟨h3, h4.trans h2⟩
end

/-- a value behind a step that began at sg, H, en -/
def VlOk (k : Kx) (sg : L2.St) (H : Hp) (en : En) (sg' : L2.St) (H' Z' : Hp) (en' : En) (v : V) : Vl → Prop
  | .sh d => Dp k.K Z' v d
  | .ow d => ∃ a, v = .ref a ∧ Z' a = none ∧ Own k.K H' Z' a d ∧ ¬ Mine sg' en' a ∧ (H a = none ∨ Mine sg en a)

/-- what is wanted where an error of the class leaves -/
abbrev Wish := String → L2.St → Hp → Prop
def W0 : Wish := fun _ _ _ => False

/-- what follows a reckoning -/
def Post {α : Type} (k : Kx) (E : Wish) (sg : L2.St) (H Z : Hp) (en : En) (r : Res α) (P : α → En → Hp → Hp → Prop) : Prop :=
  match r with
  | .ok a en' => ∀ H' Z', Aft k sg H Z en sg H' Z' en' → P a en' H' Z'
  | .err c en' => ∀ H' Z', Aft k sg H Z en sg H' Z' en' → E c sg H'
  | .bad => False

def bnd {α β : Type} (m : M α) (f : α → M β) : M β := fun en => match m en with
  | .ok a en' => f a en'
  | .err c en' => .err c en'
  | .bad => .bad
def ret {α : Type} (a : α) : M α := fun en => .ok a en
def fail {α : Type} : M α := fun _ => .bad

section
variable {k : Kx} {E : Wish} {sg : L2.St} {H H' Z Z' : Hp} {en en' : En} {α β : Type}
theorem post_bnd {m : M α} {f : α → M β} {P : β → En → Hp → Hp → Prop} (r : Rel k sg H Z en) (h : Post k E sg H Z en (bnd m f en) P) :
    Post k E sg H Z en (m en) fun a en1 H1 Z1 => Aft k sg H Z en sg H1 Z1 en1 ∧ Post k E sg H1 Z1 en1 (f a en1) P := by
  unfold bnd at h
  cases q : m en with
  | ok a en1 =>
    rw [q] at h
    intro H1 Z1 a1
    refine ⟨a1, ?_⟩
    have h : Post k E sg H Z en (f a en1) P := h
    cases q2 : f a en1 with
    | ok b en2 =>
      rw [q2] at h
      intro H2 Z2 a2
      exact h H2 Z2 (a1.trans a2 r)
    | err c en2 =>
      rw [q2] at h
      intro H2 Z2 a2
      exact h H2 Z2 (a1.trans a2 r)
    | bad => rw [q2] at h; exact h
  | err c en1 => rw [q] at h; exact h
  | bad => rw [q] at h; exact h
theorem post_mono {r : Res α} {P P' : α → En → Hp → Hp → Prop} (h : Post k E sg H Z en r P) (i : ∀ a en' H' Z', Aft k sg H Z en sg H' Z' en' → P a en' H' Z' → P' a en' H' Z') : Post k E sg H Z en r P' := by
  cases r with
  | ok a en1 => exact fun H1 Z1 a1 => i _ _ _ _ a1 (h H1 Z1 a1)
  | err c en1 => exact h
  | bad => exact h
theorem post_ret {a : α} {P : α → En → Hp → Hp → Prop} (r : Rel k sg H Z en) (h : Post k E sg H Z en (ret a en) P) : P a en H Z := h H Z (Aft.refl r)

theorem free_back (a : Aft k sg H Z en sg H' Z' en') {x : Addr} (h : H' x = none) : H x = none ∨ Mine sg en x := by
  cases e : H x with
  | none => exact .inl rfl
  | some u =>
    by_cases m : Mine sg en x
    · exact .inr m
    · by_cases t : x ∈ k.T
      · obtain ⟨⟨ps, hp, _⟩, _⟩ := a.rel.tab x t
        rw [hp] at h; cases h
      · rw [a.keep x u e m t] at h; cases h
theorem vl_back {H2 Z2 : Hp} {en2 : En} {v : V} {x : Vl} (a : Aft k sg H Z en sg H' Z' en') (h : VlOk k sg H' en' sg H2 Z2 en2 v x) : VlOk k sg H en sg H2 Z2 en2 v x := by
  cases x with
  | sh d => exact h
  | ow d =>
    obtain ⟨p, e, h1, h2, h3, h4⟩ := h
    refine ⟨p, e, h1, h2, h3, ?_⟩
    rcases h4 with q | q
    · exact free_back a q
    · exact (a.own p q).symm
theorem mine_there (r : Rel k sg H Z en) {a : Addr} (m : Mine sg en a) : ∃ o, H a = some o ∧ a ∉ k.T := by
  obtain ⟨_, d, q⟩ := r.mine m
  obtain ⟨o, h1, h2, _⟩ := q.here
  refine ⟨o, h1, fun t => ?_⟩
  obtain ⟨⟨ps, hp, _⟩, _⟩ := r.tab a t
  rw [h1] at hp
  exact h2 ps (Option.some.inj hp)
/-- a new thing stands at p, and stays one's own -/
theorem aft_new {p : Addr} {o : HO} (r : Rel k sg H Z en) (hp : H p = none) : Aft k sg H Z en sg (upd H p o) Z en := by
  have ne : ∀ a u, H a = some u → a ≠ p := fun a u h e => by rw [e, hp] at h; cases h
  have up : ∀ a u, H a = some u → upd H p o a = some u := fun a u h => by rw [upd_ne (ne a u h)]; exact h
  refine ⟨⟨fun a u h => up a u (r.sub a u h), fun i s h => ?_, r.dis, fun P hP => ?_⟩, fun _ _ h => h, fun _ _ h => .inl h, fun a u h _ _ => up a u h, fun _ h => .inl h, fun i d h => ⟨⟨d, h⟩, rfl⟩⟩
  · obtain ⟨v, hv, q⟩ := r.sl i s h
    refine ⟨v, hv, ?_⟩
    cases s with
    | no => trivial
    | sh d => exact q
    | ow d => obtain ⟨a, e, h1, h2⟩ := q; exact ⟨a, e, h1, h2.mono (up a) fun _ _ z => z⟩
    | io d => obtain ⟨a, e, h1, h2⟩ := q; exact ⟨a, e, h1, h2.mono (up a) fun _ _ z => z⟩
  · obtain ⟨⟨ps, h1, h2⟩, h3⟩ := r.tab P hP
    exact ⟨⟨ps, up _ _ h1, h2⟩, h3⟩
/-- .. and is there for all -/
theorem aft_all {p : Addr} {o : HO} (r : Rel k sg H Z en) (hp : H p = none) : Aft k sg H Z en sg (upd H p o) (upd Z p o) en := by
  have ne : ∀ a u, H a = some u → a ≠ p := fun a u h e => by rw [e, hp] at h; cases h
  have up : ∀ a u, H a = some u → upd H p o a = some u := fun a u h => by rw [upd_ne (ne a u h)]; exact h
  have uz : ∀ a u, Z a = some u → upd Z p o a = some u := fun a u h => by rw [upd_ne (ne a u (r.sub a u h))]; exact h
  refine ⟨⟨fun a u h => ?_, fun i s h => ?_, r.dis, fun P hP => ?_⟩, uz, fun a u h => ?_, fun a u h _ _ => up a u h, fun _ h => .inl h, fun i d h => ⟨⟨d, h⟩, rfl⟩⟩
  · by_cases e : a = p
    · rw [e, upd_same] at h; rw [e, upd_same]; exact h
    · rw [upd_ne e] at h; rw [upd_ne e]; exact r.sub a u h
  · obtain ⟨v, hv, q⟩ := r.sl i s h
    refine ⟨v, hv, ?_⟩
    cases s with
    | no => trivial
    | sh d => obtain ⟨x, e, q⟩ := q; exact ⟨x, e, dp_mono uz q⟩
    | ow d =>
      obtain ⟨a, e, h1, h2⟩ := q
      obtain ⟨u, h3, _⟩ := h2.here
      exact ⟨a, e, by rw [upd_ne (ne a u h3)]; exact h1, h2.mono (up a) uz⟩
    | io d =>
      obtain ⟨a, e, h1, h2⟩ := q
      obtain ⟨u, h3, _⟩ := h2.here
      exact ⟨a, e, by rw [upd_ne (ne a u h3)]; exact h1, h2.mono (up a) uz⟩
  · obtain ⟨⟨ps, h1, h2⟩, h3⟩ := r.tab P hP
    exact ⟨⟨ps, up _ _ h1, h2⟩, by rw [upd_ne (ne P _ h1)]; exact h3⟩
  · by_cases e : a = p
    · rw [e]; exact .inr (.inl hp)
    · rw [upd_ne e] at h; exact .inl h
/-- one's own thing at a is from now on there for all -/
theorem aft_frz {i : Nat} {a : Addr} {o : HO} {d : PyData} (r : Rel k sg H Z en) (he : en[i]? = some (.ow d)) (hs : sg[i]? = some (some (V.ref a))) (ho : H a = some o) (hd : Dp k.K (upd Z a o) (.ref a) d) :
    Aft k sg H Z en sg H (upd Z a o) (en.set i (.sh d)) := by
  have hm : Mine sg en a := ⟨i, _, he, rfl, hs⟩
  have za : Z a = none := (r.mine hm).1
  have hi : i < en.length := (List.getElem?_eq_some_iff.mp he).1
  have uz : ∀ b u, Z b = some u → upd Z a o b = some u := fun b u h => by
    rw [upd_ne (fun e => by rw [e, za] at h; cases h)]; exact h
  have at_ : ∀ (j : Nat) (s : Sl), (en.set i (.sh d))[j]? = some s → (j = i ∧ s = .sh d) ∨ (j ≠ i ∧ en[j]? = some s) := fun j s h => by
    by_cases e : j = i
    · rw [e, List.getElem?_set_self hi] at h; cases h; exact .inl ⟨e, rfl⟩
    · rw [List.getElem?_set_ne (Ne.symm e)] at h; exact .inr ⟨e, h⟩
  have mn : ∀ b, Mine sg (en.set i (.sh d)) b → Mine sg en b ∧ b ≠ a := fun b ⟨j, s, h1, h2, h3⟩ => by
    rcases at_ j s h1 with ⟨_, e⟩ | ⟨hj, e⟩
    · rw [e] at h2; cases h2
    · exact ⟨⟨j, s, e, h2, h3⟩, fun z => hj (r.dis j i s _ a e he h2 rfl (by rw [← z]; exact h3) hs)⟩
  refine ⟨⟨fun b u h => ?_, fun j s h => ?_, fun j l s t b h1 h2 h3 h4 h5 h6 => ?_, fun P hP => ?_⟩, uz, fun b u h => ?_, fun b u h _ _ => h, fun b h => .inl (mn b h).1, fun j d' h => ?_⟩
  · by_cases e : b = a
    · rw [e, upd_same] at h; rw [e, ho]; exact h
    · rw [upd_ne e] at h; exact r.sub b u h
  · rcases at_ j s h with ⟨e1, e2⟩ | ⟨hj, e⟩
    · rw [e1, e2]; exact ⟨_, hs, _, rfl, hd⟩
    · obtain ⟨v, hv, q⟩ := r.sl j s e
      refine ⟨v, hv, ?_⟩
      have nb : ∀ b, isOwn s = true → v = some (.ref b) → b ≠ a := fun b ho' hv' z => hj (r.dis j i s _ a e he ho' rfl (by rw [hv, hv', z]) hs)
      cases s with
      | no => trivial
      | sh d' => obtain ⟨x, e, q⟩ := q; exact ⟨x, e, dp_mono uz q⟩
      | ow d' => obtain ⟨b, e, h1, h2⟩ := q; exact ⟨b, e, by rw [upd_ne (nb b rfl e)]; exact h1, h2.mono (fun _ z => z) uz⟩
      | io d' => obtain ⟨b, e, h1, h2⟩ := q; exact ⟨b, e, by rw [upd_ne (nb b rfl e)]; exact h1, h2.mono (fun _ z => z) uz⟩
  · rcases at_ j s h1 with ⟨_, e⟩ | ⟨_, e⟩
    · rw [e] at h3; cases h3
    · rcases at_ l t h2 with ⟨_, e'⟩ | ⟨_, e'⟩
      · rw [e'] at h4; cases h4
      · exact r.dis j l s t b e e' h3 h4 h5 h6
  · obtain ⟨h1, h3⟩ := r.tab P hP
    obtain ⟨_, _, hn⟩ := mine_there r hm
    exact ⟨h1, by rw [upd_ne (fun e => hn (by rw [← e]; exact hP))]; exact h3⟩
  · by_cases e : b = a
    · rw [e]; exact .inr (.inr hm)
    · rw [upd_ne e] at h; exact .inl h
  · have hj : j ≠ i := fun e => by rw [e, he] at h; cases h
    exact ⟨⟨d', by rw [List.getElem?_set_ne (Ne.symm hj)]; exact h⟩, rfl⟩
/-- a fresh thing of a value is from now on there for all -/
theorem aft_vl {a : Addr} {o : HO} (r : Rel k sg H Z en) (ho : H a = some o) (hz : Z a = none) (nm : ¬ Mine sg en a) (ht : a ∉ k.T) :
    Rel k sg H (upd Z a o) en ∧ (∀ b u, Z b = some u → upd Z a o b = some u) := by
  have uz : ∀ b u, Z b = some u → upd Z a o b = some u := fun b u h => by
    rw [upd_ne (fun e => by rw [e, hz] at h; cases h)]; exact h
  refine ⟨⟨fun b u h => ?_, fun j s h => ?_, r.dis, fun P hP => ?_⟩, uz⟩
  · by_cases e : b = a
    · rw [e, upd_same] at h; rw [e, ho]; exact h
    · rw [upd_ne e] at h; exact r.sub b u h
  · obtain ⟨v, hv, q⟩ := r.sl j s h
    refine ⟨v, hv, ?_⟩
    have nb : ∀ b, isOwn s = true → v = some (.ref b) → b ≠ a := fun b ho' hv' z => nm ⟨j, s, h, ho', by rw [hv, hv', z]⟩
    cases s with
    | no => trivial
    | sh d' => obtain ⟨x, e, q⟩ := q; exact ⟨x, e, dp_mono uz q⟩
    | ow d' => obtain ⟨b, e, h1, h2⟩ := q; exact ⟨b, e, by rw [upd_ne (nb b rfl e)]; exact h1, h2.mono (fun _ z => z) uz⟩
    | io d' => obtain ⟨b, e, h1, h2⟩ := q; exact ⟨b, e, by rw [upd_ne (nb b rfl e)]; exact h1, h2.mono (fun _ z => z) uz⟩
  · obtain ⟨h1, h3⟩ := r.tab P hP
    exact ⟨h1, by rw [upd_ne (fun e => ht (by rw [← e]; exact hP))]; exact h3⟩
end

/-! ### the judgements -/
/-- a thing that is looked at: a tree, or what stands in a place -/
inductive Od where
  | d (x : PyData) | s (i : Nat)
def look (en : En) : Od → Option PyData
  | .d x => some x
  | .s i => match en[i]? with
    | some (.ow d) => some d
    | some (.io d) => some d
    | _ => none
def OdOk (k : Kx) (sg : L2.St) (Z : Hp) (v : V) : Od → Prop
  | .d d => Dp k.K Z v d
  | .s i => sg[i]? = some (some v)
def Top (K : PySem.W.Frag) (H Z : Hp) (v : V) (d : PyData) : Prop := Dp K Z v d ∨ ∃ a, v = .ref a ∧ Own K H Z a d

def tV (k : Kx) (E : Wish) (m : M Vl) : TE := fun sg H Q => ∃ en Z, Rel k sg H Z en ∧ Post k E sg H Z en (m en) fun x en' H' Z' => ∀ v, VlOk k sg H en sg H' Z' en' v x → Q v H'
def tD (k : Kx) (E : Wish) (m : M PyData) : TE := fun sg H Q => ∃ en Z, Rel k sg H Z en ∧ Post k E sg H Z en (m en) fun x _ H' Z' => ∀ v, Dp k.K Z' v x → Q v H'
def tO (k : Kx) (E : Wish) (m : M Od) : TE := fun sg H Q => ∃ en Z, Rel k sg H Z en ∧ Post k E sg H Z en (m en) fun x _ H' Z' => ∀ v, OdOk k sg Z' v x → Q v H'
def tT (k : Kx) (E : Wish) (m : M Bool) : TT := fun sg H Q => ∃ en Z, Rel k sg H Z en ∧ Post k E sg H Z en (m en) fun b _ H' _ => Q b H'
def tA (k : Kx) (E : Wish) (m : M (List PyData)) : TA := fun sg H Q => ∃ en Z, Rel k sg H Z en ∧ Post k E sg H Z en (m en) fun ds _ H' Z' => ∀ vs, DpAll k.K Z' vs ds → Q vs H'

theorem pe_imp {X : Cx} {e : Expr} {t u : TE} (h : PE X e t) (i : ∀ sg H Q, u sg H Q → t sg H Q) : PE X e u := ⟨fun pins s sg H Q I q => h.run pins s sg H Q I (i _ _ _ q)⟩
theorem pt_imp {X : Cx} {e : Expr} {t u : TT} (h : PT X e t) (i : ∀ sg H Q, u sg H Q → t sg H Q) : PT X e u := ⟨fun pins s sg H Q I q => h.run pins s sg H Q I (i _ _ _ q)⟩
theorem pw_imp {X : Cx} {e : Expr} {t u : TT} (h : PW X e t) (i : ∀ sg H Q, u sg H Q → t sg H Q) : PW X e u := ⟨fun w pins s sg H Q I q => h.run w pins s sg H Q I (i _ _ _ q)⟩
theorem pa_imp {X : Cx} {e : List Expr} {t u : TA} (h : PA X e t) (i : ∀ sg H Q, u sg H Q → t sg H Q) : PA X e u := ⟨fun p pins s sg H Q I q => h.run p pins s sg H Q I (i _ _ _ q)⟩
theorem ps_imp {X : Cx} {e : Stmt} {t u : TS} (h : PS X e t) (i : ∀ D sg H, u D sg H → t D sg H) : PS X e u := ⟨fun pins s sg H D I q => h.run pins s sg H D I (i _ _ _ q)⟩
theorem pss_imp {X : Cx} {e : List Stmt} {t u : TS} (h : PSs X e t) (i : ∀ D sg H, u D sg H → t D sg H) : PSs X e u := ⟨fun pins s sg H D I q => h.run pins s sg H D I (i _ _ _ q)⟩
end ZD

namespace ZD
open PySem PySem.Spec PyProof.Rows L2 GxR ZG

abbrev GE (T : List Addr) (E : Wish) (X : Cx) (e : Expr) (m : M Vl) : Prop := PE X e (tV ⟨X.K, T⟩ E m)
abbrev GD (T : List Addr) (E : Wish) (X : Cx) (e : Expr) (m : M PyData) : Prop := PE X e (tD ⟨X.K, T⟩ E m)
abbrev GO (T : List Addr) (E : Wish) (X : Cx) (e : Expr) (m : M Od) : Prop := PE X e (tO ⟨X.K, T⟩ E m)
abbrev GT (T : List Addr) (E : Wish) (X : Cx) (e : Expr) (m : M Bool) : Prop := PT X e (tT ⟨X.K, T⟩ E m)
abbrev GW (T : List Addr) (E : Wish) (X : Cx) (e : Expr) (m : M Bool) : Prop := PW X e (tT ⟨X.K, T⟩ E m)
abbrev GA (T : List Addr) (E : Wish) (X : Cx) (es : List Expr) (m : M (List PyData)) : Prop := PA X es (tA ⟨X.K, T⟩ E m)

def shV (m : M PyData) : M Vl := bnd m fun d => ret (.sh d)
def fz (m : M Vl) : M PyData := bnd m fun x => match x with
  | .sh d => ret d
  | .ow (.list ds) => ret (.list ds)
  | .ow _ => fail
def odD (m : M PyData) : M Od := bnd m fun d => ret (.d d)
/-- a name that is looked at -/
def nm (i : Nat) : M Od := fun en => match en[i]? with
  | some (.sh d) => .ok (.d d) en
  | some (.ow _) => .ok (.s i) en
  | some (.io _) => .ok (.s i) en
  | _ => .bad
/-- a name whose thing is handed on -/
def nv (i : Nat) : M PyData := fun en => match en[i]? with
  | some (.sh d) => .ok d en
  | some (.ow (.list ds)) => .ok (.list ds) (en.set i (.sh (.list ds)))
  | _ => .bad
def cst (d : PyData) : M PyData := ret d

section
variable {T : List Addr} {E : Wish} {X : Cx} {e a b c : Expr} {pos : Pos}
variable {k : Kx} {sg : L2.St} {H Z : Hp} {en : En}

theorem post_okD {r : Rel k sg H Z en} {d : PyData} {P : PyData → En → Hp → Hp → Prop} (h : Post k E sg H Z en (.ok d en) P) : P d en H Z := h H Z (Aft.refl r)

theorem ge_sh {m : M PyData} (h : GD T E X e m) : GE T E X e (shV m) := pe_imp h fun sg H Q ⟨en, Z, r, q⟩ => ⟨en, Z, r, post_mono (post_bnd r q) fun d en1 H1 Z1 _ ⟨a1, q1⟩ v hv => post_ret a1.rel q1 v hv⟩
/-- a fresh thing is handed to all -/
theorem aft_vl2 {H1 Z1 : Hp} {en1 : En} {a : Addr} {o : HO} (a1 : Aft k sg H Z en sg H1 Z1 en1) (ho : H1 a = some o) (hz : Z1 a = none) (nm : ¬ Mine sg en1 a) (ht : a ∉ k.T) (hf : H a = none ∨ Mine sg en a) :
    Aft k sg H Z en sg H1 (upd Z1 a o) en1 := by
  obtain ⟨r2, uz⟩ := aft_vl a1.rel ho hz nm ht
  refine ⟨r2, fun b u h => uz b u (a1.zz b u h), fun b u h => ?_, a1.keep, a1.own, a1.io⟩
  by_cases e : b = a
  · rw [e]; exact .inr hf
  · rw [upd_ne e] at h; exact a1.new b u h
theorem not_tab (r : Rel k sg H Z en) {a : Addr} {o : HO} (h : H a = some o) (n : ∀ ps, o ≠ .tbl ps) : a ∉ k.T := fun t => by
  obtain ⟨⟨ps, hp, _⟩, _⟩ := r.tab a t
  rw [h] at hp
  exact n ps (Option.some.inj hp)
theorem fz_v {m : M Vl} {sg : L2.St} {H : Hp} {Q : VK} (h : tD ⟨X.K, T⟩ E (fz m) sg H Q) : tV ⟨X.K, T⟩ E m sg H Q := by
  obtain ⟨en, Z, r, q⟩ := h
  refine ⟨en, Z, r, ?_⟩
  unfold fz bnd at q
  cases hm : m en with
  | ok x en1 =>
    rw [hm] at q
    intro H1 Z1 a1 v hv
    cases x with
    | sh d => exact q H1 Z1 a1 v hv
    | ow d =>
      cases d with
      | list ds =>
        obtain ⟨p, rfl, hz, ho, nmn, hf⟩ := hv
        cases ho with
        | lst h1 h2 =>
          have nt : p ∉ T := not_tab a1.rel h1 fun _ z => by cases z
          have a2 := aft_vl2 a1 h1 hz nmn nt hf
          exact q H1 _ a2 (.ref p) (.lst (.inl (.inl upd_same)) (dpAll_mono (aft_vl a1.rel h1 hz nmn nt).2 h2))
      | _ => exact q.elim
  | err c en1 => rw [hm] at q; exact q
  | bad => rw [hm] at q; exact q
theorem gd_fz {m : M Vl} (h : GE T E X e m) : GD T E X e (fz m) := pe_imp h fun sg H Q q => fz_v q
theorem go_d {m : M PyData} (h : GD T E X e m) : GO T E X e (odD m) := pe_imp h fun sg H Q ⟨en, Z, r, q⟩ => ⟨en, Z, r, post_mono (post_bnd r q) fun d en1 H1 Z1 _ ⟨a1, q1⟩ v hv => post_ret a1.rel q1 v hv⟩

theorem upd_more {Z : Hp} {a : Addr} {o : HO} (hz : Z a = none) : ∀ b u, Z b = some u → upd Z a o b = some u := fun b u z => by
  rw [upd_ne (fun e => by rw [e, hz] at z; cases z)]; exact z
theorem gd_c {d : PyData} {v : V} (h : PE X e (tC v)) (hv : Dp X.K (fun _ => none) v d) : GD T E X e (cst d) := pe_imp h fun sg H Q ⟨en, Z, r, q⟩ => post_ret r q v (dp_mono (fun a o h => by cases h) hv)
theorem gd_int {i : Int} {j : Nat} : GD T E X (.Constant (.int i) j pos) (cst (.int i)) := gd_c pe_int (.int i)
theorem gd_bool {i : Bool} {j : Nat} : GD T E X (.Constant (.bool i) j pos) (cst (.bool i)) := gd_c pe_bl (.bl i)
theorem gd_none {j : Nat} : GD T E X (.Constant .none j pos) (cst .none) := gd_c pe_non .non
theorem gd_str {i : Str} {j : Nat} : GD T E X (.Constant (.str i) j pos) (cst (.str i)) := gd_c pe_str (.str i)

/-- a name -/
theorem gd_v (i : Nat) (h : PE X e (tVar i)) : GD T E X e (nv i) := pe_imp h fun sg H Q ⟨en, Z, r, q⟩ => by
  unfold nv at q
  cases he : en[i]? with
  | none => rw [he] at q; exact q.elim
  | some s =>
    rw [he] at q
    obtain ⟨v, hv, hs⟩ := r.sl i s he
    cases s with
    | no => exact q.elim
    | io d => exact q.elim
    | sh d =>
      obtain ⟨x, rfl, hd⟩ := hs
      exact ⟨x, hv, q H Z (Aft.refl r) x hd⟩
    | ow d =>
      cases d with
      | list ds =>
        obtain ⟨a, rfl, hz, ho⟩ := hs
        cases ho with
        | lst h1 h2 =>
          have nt : a ∉ T := not_tab r h1 fun _ z => by cases z
          have hd : Dp X.K (upd Z a (.lst _)) (.ref a) (.list ds) := .lst (.inl (.inl upd_same)) (dpAll_mono (upd_more hz) h2)
          exact ⟨.ref a, hv, q H _ (aft_frz r he hv h1 hd) (.ref a) hd⟩
      | _ => exact q.elim
/-- a name that is looked at -/
theorem go_s (i : Nat) (h : PE X e (tVar i)) : GO T E X e (nm i) := pe_imp h fun sg H Q ⟨en, Z, r, q⟩ => by
  unfold nm at q
  cases he : en[i]? with
  | none => rw [he] at q; exact q.elim
  | some s =>
    rw [he] at q
    obtain ⟨v, hv, hs⟩ := r.sl i s he
    cases s with
    | no => exact q.elim
    | sh d =>
      obtain ⟨x, rfl, hd⟩ := hs
      exact ⟨x, hv, q H Z (Aft.refl r) x hd⟩
    | ow d =>
      obtain ⟨a, rfl, hz, ho⟩ := hs
      exact ⟨.ref a, hv, q H Z (Aft.refl r) (.ref a) hv⟩
    | io d =>
      obtain ⟨a, rfl, hz, ho⟩ := hs
      exact ⟨.ref a, hv, q H Z (Aft.refl r) (.ref a) hv⟩

/-! ### what is looked at -/
theorem Top.of_d {K : PySem.W.Frag} {v : V} {d : PyData} (h : Dp K Z v d) : Top K H Z v d := .inl h
theorem top_of {x : Od} {v : V} {d : PyData} (r : Rel k sg H Z en) (h : OdOk k sg Z v x) (l : look en x = some d) : Top k.K H Z v d := by
  cases x with
  | d y =>
    have e : y = d := Option.some.inj l
    subst e
    exact .inl h
  | s i =>
    have h : sg[i]? = some (some v) := h
    simp only [look] at l
    cases he : en[i]? with
    | none => rw [he] at l; cases l
    | some s =>
      rw [he] at l
      obtain ⟨u, hu, hs⟩ := r.sl i s he
      rw [h] at hu
      cases hu
      cases s with
      | no => cases l
      | sh _ => cases l
      | ow y =>
        cases l
        obtain ⟨a, e, _, ho⟩ := hs
        cases e
        exact .inr ⟨a, rfl, ho⟩
      | io y =>
        cases l
        obtain ⟨a, e, _, ho⟩ := hs
        cases e
        exact .inr ⟨a, rfl, ho⟩
theorem od_mono {H' Z' : Hp} {en' : En} {x : Od} {v : V} (a : Aft k sg H Z en sg H' Z' en') (h : OdOk k sg Z v x) : OdOk k sg Z' v x := by
  cases x with
  | d y => exact dp_mono a.zz h
  | s i => exact h
theorem Top.dp {K : PySem.W.Frag} {v : V} {d : PyData} (hz : ∀ a o, Z a = some o → H a = some o) (h : Top K H Z v d) (n : ∀ kv, d ≠ .dict kv) : Dp K H v d := by
  rcases h with h | ⟨a, rfl, h⟩
  · exact dp_mono hz h
  · cases h with
    | lst h1 h2 => exact .lst (.inl (.inl h1)) (dpAll_mono hz h2)
    | dct h1 h2 h3 => exact absurd rfl (n _)
theorem Top.list {K : PySem.W.Frag} {v : V} {ds : List PyData} (hz : ∀ a o, Z a = some o → H a = some o) (h : Top K H Z v (.list ds)) : ∃ a vs, v = .ref a ∧ SqL K H a vs ∧ DpAll K Z vs ds := by
  rcases h with h | ⟨a, rfl, h⟩
  · cases h with
    | lst h1 h2 => exact ⟨_, _, rfl, Same.seq hz h1, h2⟩
  · cases h with
    | lst h1 h2 => exact ⟨a, _, rfl, .inl (.inl h1), h2⟩
theorem Top.tup {K : PySem.W.Frag} {v : V} {ds : List PyData} (hz : ∀ a o, Z a = some o → H a = some o) (h : Top K H Z v (.tuple ds)) : ∃ a vs, v = .ref a ∧ SqT K H a vs ∧ DpAll K Z vs ds := by
  rcases h with h | ⟨a, rfl, h⟩
  · cases h with
    | tup h1 h2 =>
      refine ⟨_, _, rfl, ?_, h2⟩
      rcases h1 with (q | ⟨o, q⟩) | q
      · exact .inl (.inl (hz _ _ q))
      · exact .inl (.inr ⟨o, hz _ _ q⟩)
      · exact .inr q
  · cases h
theorem Top.int {K : PySem.W.Frag} {v : V} {i : Int} (h : Top K H Z v (.int i)) : v = .int i := by
  rcases h with h | ⟨a, rfl, h⟩
  · cases h; rfl
  · cases h
theorem Top.str {K : PySem.W.Frag} {v : V} {i : Str} (h : Top K H Z v (.str i)) : v = .str i := by
  rcases h with h | ⟨a, rfl, h⟩
  · cases h; rfl
  · cases h
theorem Top.bool {K : PySem.W.Frag} {v : V} {i : Bool} (h : Top K H Z v (.bool i)) : v = .bl i := by
  rcases h with h | ⟨a, rfl, h⟩
  · cases h; rfl
  · cases h
theorem Top.none {K : PySem.W.Frag} {v : V} (h : Top K H Z v .none) : v = .non := by
  rcases h with h | ⟨a, rfl, h⟩
  · cases h; rfl
  · cases h

/-! ### what an operation gives -/
inductive Out where
  | d (x : PyData) | nl (ds : List PyData) | nt (ds : List PyData) | nd (kvs : List (PyData × PyData)) | bad
def out : Out → M Vl
  | .d x => ret (.sh x)
  | .nl ds => ret (.ow (.list ds))
  | .nt ds => ret (.sh (.tuple ds))
  | .nd kvs => ret (.ow (.dict kvs))
  | .bad => fail
def OutOk (K : PySem.W.Frag) (H Z : Hp) (Q : VK) : Out → Prop
  | .d x => ∀ v, Dp K Z v x → Q v H
  | .nl ds => ∀ p vs, H p = none → DpAll K Z vs ds → Q (.ref p) (upd H p (.lst vs))
  | .nt ds => (∀ v, Dp K Z v (.tuple ds) → Q v H) ∧ ∀ p vs, H p = none → DpAll K Z vs ds → Q (.ref p) (upd H p (.tup vs))
  | .nd ds => ∀ p (kvs : List (Key × V)), H p = none → ds.map (·.1) = kvs.map (fun p => keyD p.1) → DpAll K Z (kvs.map (·.2)) (ds.map (·.2)) → Q (.ref p) (upd H p (.dK kvs))
  | .bad => False
theorem out_ok {sg0 : L2.St} {Q : VK} {o : Out} {en0 : En} {H0 Z0 : Hp} (r : Rel k sg H Z en) (a0 : Aft k sg H0 Z0 en0 sg H Z en)
    (h : Post k E sg H Z en (out o en) fun x en' H' Z' => ∀ v, VlOk k sg H0 en0 sg H' Z' en' v x → Q v H') : OutOk k.K H Z Q o := by
  have nmine : ∀ p, H p = none → ¬ Mine sg en p := fun p hp m => by
    obtain ⟨u, hu, _⟩ := mine_there r m
    rw [hp] at hu; cases hu
  cases o with
  | d x => exact fun v hv => post_ret (a := Vl.sh x) r h v hv
  | nl ds => exact fun p vs hp hd => h _ _ (aft_new r hp) (.ref p) ⟨p, rfl, r.free hp, .lst upd_same hd, nmine p hp, free_back a0 hp⟩
  | nt ds => exact ⟨fun v hv => post_ret (a := Vl.sh (.tuple ds)) r h v hv, fun p vs hp hd => h _ _ (aft_all r hp) (.ref p) (.tup (.inl (.inl upd_same)) (dpAll_mono (aft_all r hp (o := .tup vs)).zz hd))⟩
  | nd ds => exact fun p kvs hp hk hd => h _ _ (aft_new r hp) (.ref p) ⟨p, rfl, r.free hp, .dct upd_same hk hd, nmine p hp, free_back a0 hp⟩
  | bad => exact h
/-- an operation of one, of two things that are looked at -/
def op1 (f : PyData → Out) (p : M Od) : M Vl := bnd p fun x => fun en => match look en x with
  | some d => out (f d) en
  | none => .bad
def op2 (f : PyData → PyData → Out) (p q : M Od) : M Vl := bnd p fun x => bnd q fun y => fun en => match look en x, look en y with
  | some d, some e => out (f d e) en
  | _, _ => .bad
def op3 (f : PyData → PyData → PyData → Out) (p q w : M Od) : M Vl := bnd p fun x => bnd q fun y => bnd w fun z => fun en => match look en x, look en y, look en z with
  | some d, some e, some c => out (f d e c) en
  | _, _, _ => .bad
/-- the rule says what f says -/
def Says1 (K : PySem.W.Frag) (f : PyData → Out) (r : V → Hp → VK → Prop) : Prop :=
  ∀ (H Z : Hp) (v : V) (d : PyData) (Q : VK), (∀ a o, Z a = some o → H a = some o) → Top K H Z v d → OutOk K H Z Q (f d) → r v H Q
def Says2 (K : PySem.W.Frag) (f : PyData → PyData → Out) (r : R2) : Prop :=
  ∀ (H Z : Hp) (v w : V) (d e : PyData) (Q : VK), (∀ a o, Z a = some o → H a = some o) → Top K H Z v d → Top K H Z w e → OutOk K H Z Q (f d e) → r v w H Q
def Says3 (K : PySem.W.Frag) (f : PyData → PyData → PyData → Out) (r : V → V → V → Hp → VK → Prop) : Prop :=
  ∀ (H Z : Hp) (v w u : V) (d e c : PyData) (Q : VK), (∀ a o, Z a = some o → H a = some o) → Top K H Z v d → Top K H Z w e → Top K H Z u c → OutOk K H Z Q (f d e c) → r v w u H Q

theorem ge_op1 {f : PyData → Out} {r : V → Hp → VK → Prop} {p : M Od} (ha : GO T E X a p) (hB : ∀ ta, PE X a ta → PE X e fun sg H Q => ta sg H fun x H1 => r x H1 Q) (hf : Says1 X.K f r) : GE T E X e (op1 f p) :=
  pe_imp (hB _ ha) fun sg H Q ⟨en, Z, r0, q⟩ => ⟨en, Z, r0, post_mono (post_bnd r0 q) fun x en1 H1 Z1 _ ⟨a1, q1⟩ v hv => by
    cases hl : look en1 x with
    | none => simp only [hl] at q1; exact q1.elim
    | some d =>
      simp only [hl] at q1
      exact hf H1 Z1 v d Q a1.rel.sub (top_of a1.rel hv hl) (out_ok (sg0 := sg) a1.rel a1 q1)⟩
theorem ge_op2 {f : PyData → PyData → Out} {r : R2} {p q : M Od} (ha : GO T E X a p) (hb : GO T E X b q) (hB : ∀ ta tb, PE X a ta → PE X b tb → PE X e (tOp r ta tb)) (hf : Says2 X.K f r) : GE T E X e (op2 f p q) :=
  pe_imp (hB _ _ ha hb) fun sg H Q ⟨en, Z, r0, q⟩ => ⟨en, Z, r0, post_mono (post_bnd r0 q) fun x en1 H1 Z1 _ ⟨a1, q1⟩ v hv => ⟨en1, Z1, a1.rel, post_mono (post_bnd a1.rel q1) fun y en2 H2 Z2 _ ⟨a2, q2⟩ w hw => by
    cases hl : look en2 x with
    | none => simp only [hl] at q2; exact q2.elim
    | some d =>
      cases hl2 : look en2 y with
      | none => simp only [hl, hl2] at q2; exact q2.elim
      | some d2 =>
        simp only [hl, hl2] at q2
        exact hf H2 Z2 v w d d2 Q a2.rel.sub (top_of a2.rel (od_mono a2 hv) hl) (top_of a2.rel hw hl2) (out_ok (sg0 := sg) a2.rel (a1.trans a2 r0) q2)⟩⟩
theorem ge_op3 {f : PyData → PyData → PyData → Out} {r : V → V → V → Hp → VK → Prop} {p q w : M Od} (ha : GO T E X a p) (hb : GO T E X b q) (hc : GO T E X c w)
    (hB : ∀ ta tb tc, PE X a ta → PE X b tb → PE X c tc → PE X e fun sg H Q => ta sg H fun x H1 => tb sg H1 fun y H2 => tc sg H2 fun z H3 => r x y z H3 Q) (hf : Says3 X.K f r) : GE T E X e (op3 f p q w) :=
  pe_imp (hB _ _ _ ha hb hc) fun sg H Q ⟨en, Z, r0, q⟩ => ⟨en, Z, r0, post_mono (post_bnd r0 q) fun x en1 H1 Z1 _ ⟨a1, q1⟩ v hv => ⟨en1, Z1, a1.rel, post_mono (post_bnd a1.rel q1) fun y en2 H2 Z2 _ ⟨a2, q2⟩ w hw =>
    ⟨en2, Z2, a2.rel, post_mono (post_bnd a2.rel q2) fun z en3 H3 Z3 _ ⟨a3, q3⟩ u hu => by
    cases hl : look en3 x with
    | none => simp only [hl] at q3; exact q3.elim
    | some d =>
      cases hl2 : look en3 y with
      | none => simp only [hl, hl2] at q3; exact q3.elim
      | some d2 =>
        cases hl3 : look en3 z with
        | none => simp only [hl, hl2, hl3] at q3; exact q3.elim
        | some d3 =>
          simp only [hl, hl2, hl3] at q3
          exact hf H3 Z3 v w u d d2 d3 Q a3.rel.sub (top_of a3.rel (od_mono a3 (od_mono a2 hv)) hl) (top_of a3.rel (od_mono a3 hw) hl2) (top_of a3.rel hu hl3) (out_ok (sg0 := sg) a3.rel ((a1.trans a2 r0).trans a3 r0) q3)⟩⟩⟩

/-! ### tests -/
def tst (m : M PyData) : M Bool := bnd m fun d => match d with
  | .bool b => ret b
  | _ => fail
theorem tst_ok {m : M PyData} {sg : L2.St} {H : Hp} {Q : Bool → Hp → Prop} (h : tT ⟨X.K, T⟩ E (tst m) sg H Q) : tD ⟨X.K, T⟩ E m sg H fun x H1 => ∃ c, x = .bl c ∧ Q c H1 := by
  obtain ⟨en, Z, r, q⟩ := h
  refine ⟨en, Z, r, post_mono (post_bnd r q) fun d en1 H1 Z1 _ ⟨a1, q1⟩ v hv => ?_⟩
  cases d with
  | bool b =>
    cases hv
    exact ⟨b, rfl, post_ret a1.rel q1⟩
  | _ => exact q1.elim
/-- an expression that gives a truth value, as a test -/
theorem gt_val {m : M PyData} (h : GD T E X e m) (he : ∀ whole, isTrue e X.env whole = (do let v ← whole; standAt e.pos; holding [v] (truthy v)) := by intro _; rfl) : GT T E X e (tst m) :=
  pt_imp (pt_val h he) fun sg H Q q => tst_ok q
def mnot (m : M Bool) : M Bool := bnd m fun b => ret (!b)
theorem gt_not {m : M Bool} (h : GT T E X a m) : GT T E X (.UnaryOp .Not a pos) (mnot m) := pt_imp (pt_not h) fun sg H Q ⟨en, Z, r, q⟩ => ⟨en, Z, r, post_mono (post_bnd r q) fun b en1 H1 Z1 _ ⟨a1, q1⟩ => post_ret a1.rel q1⟩
def mand (m n : M Bool) : M Bool := bnd m fun b => if b = true then n else ret false
def mor (m n : M Bool) : M Bool := bnd m fun b => if b = true then ret true else n
theorem gw_and1 {m : M Bool} (h : GT T E X a m) : GW T E X (.BoolOp .And [a] pos) m := pw_and1 h
theorem gw_or1 {m : M Bool} (h : GT T E X a m) : GW T E X (.BoolOp .Or [a] pos) m := pw_or1 h
theorem gw_and {m n : M Bool} {rest : List Expr} (h : GT T E X a m) (h2 : GW T E X (.BoolOp .And (b :: rest) pos) n) : GW T E X (.BoolOp .And (a :: b :: rest) pos) (mand m n) :=
  pw_imp (pw_and h h2) fun sg H Q ⟨en, Z, r, q⟩ => ⟨en, Z, r, post_mono (post_bnd r q) fun b en1 H1 Z1 _ ⟨a1, q1⟩ => by
    cases b with
    | true => exact ⟨en1, Z1, a1.rel, q1⟩
    | false => exact post_ret (a := false) a1.rel q1⟩
theorem gw_or {m n : M Bool} {rest : List Expr} (h : GT T E X a m) (h2 : GW T E X (.BoolOp .Or (b :: rest) pos) n) : GW T E X (.BoolOp .Or (a :: b :: rest) pos) (mor m n) :=
  pw_imp (pw_or h h2) fun sg H Q ⟨en, Z, r, q⟩ => ⟨en, Z, r, post_mono (post_bnd r q) fun b en1 H1 Z1 _ ⟨a1, q1⟩ => by
    cases b with
    | false => exact ⟨en1, Z1, a1.rel, q1⟩
    | true => exact post_ret (a := true) a1.rel q1⟩
theorem gt_w {m : M Bool} (h : GW T E X e m) : GT T E X e m := h.pt
/-- and, or, not as values (all but the last one truth values) -/
def vand (m n : M PyData) : M PyData := bnd m fun d => match d with
  | .bool b => if b = true then n else ret (.bool false)
  | _ => fail
def vor (m n : M PyData) : M PyData := bnd m fun d => match d with
  | .bool b => if b = true then ret (.bool true) else n
  | _ => fail
def vnot (m : M PyData) : M PyData := bnd m fun d => match d with
  | .bool b => ret (.bool (!b))
  | _ => fail
theorem gd_one {op : BoolOp} {m : M PyData} (h : GD T E X a m) : GD T E X (.BoolOp op [a] pos) m := pe_one h
theorem gd_and {m n : M PyData} {rest : List Expr} (h : GD T E X a m) (h2 : GD T E X (.BoolOp .And (b :: rest) pos) n) : GD T E X (.BoolOp .And (a :: b :: rest) pos) (vand m n) :=
  pe_imp (pe_and h h2) fun sg H Q ⟨en, Z, r, q⟩ => ⟨en, Z, r, post_mono (post_bnd r q) fun d en1 H1 Z1 _ ⟨a1, q1⟩ v hv => by
    cases d with
    | bool b =>
      cases hv
      refine ⟨b, rfl, ?_⟩
      cases b with
      | true => exact ⟨en1, Z1, a1.rel, q1⟩
      | false => exact post_ret (a := PyData.bool false) a1.rel q1 _ (.bl false)
    | _ => exact q1.elim⟩
theorem gd_or {m n : M PyData} {rest : List Expr} (h : GD T E X a m) (h2 : GD T E X (.BoolOp .Or (b :: rest) pos) n) : GD T E X (.BoolOp .Or (a :: b :: rest) pos) (vor m n) :=
  pe_imp (pe_or h h2) fun sg H Q ⟨en, Z, r, q⟩ => ⟨en, Z, r, post_mono (post_bnd r q) fun d en1 H1 Z1 _ ⟨a1, q1⟩ v hv => by
    cases d with
    | bool b =>
      cases hv
      refine ⟨b, rfl, ?_⟩
      cases b with
      | false => exact ⟨en1, Z1, a1.rel, q1⟩
      | true => exact post_ret (a := PyData.bool true) a1.rel q1 _ (.bl true)
    | _ => exact q1.elim⟩
theorem gd_not {m : M PyData} (h : GD T E X a m) : GD T E X (.UnaryOp .Not a pos) (vnot m) := pe_imp (pe_not h) fun sg H Q ⟨en, Z, r, q⟩ => ⟨en, Z, r, post_mono (post_bnd r q) fun d en1 H1 Z1 _ ⟨a1, q1⟩ v hv => by
    cases d with
    | bool b =>
      cases hv
      exact ⟨b, rfl, post_ret a1.rel q1 _ (.bl _)⟩
    | _ => exact q1.elim⟩
/-- a if t else b -/
def mif {α : Type} (t : M Bool) (m n : M α) : M α := bnd t fun b => if b = true then m else n
theorem ge_if {t : M Bool} {m n : M Vl} (hc : GT T E X c t) (ha : GE T E X a m) (hb : GE T E X b n) : GE T E X (.IfExp c a b pos) (mif t m n) :=
  pe_imp (pe_ifExp hc ha hb) fun sg H Q ⟨en, Z, r, q⟩ => ⟨en, Z, r, post_mono (post_bnd r q) fun d en1 H1 Z1 _ ⟨a1, q1⟩ => by
    have q2 : ∀ x en' H' Z', (∀ v, VlOk ⟨X.K, T⟩ sg H en sg H' Z' en' v x → Q v H') → ∀ v, VlOk ⟨X.K, T⟩ sg H1 en1 sg H' Z' en' v x → Q v H' := fun x en' H' Z' h v hv => h v (vl_back a1 hv)
    cases d with
    | true => exact ⟨en1, Z1, a1.rel, post_mono q1 fun x en' H' Z' _ h => q2 x en' H' Z' h⟩
    | false => exact ⟨en1, Z1, a1.rel, post_mono q1 fun x en' H' Z' _ h => q2 x en' H' Z' h⟩⟩
theorem gd_if {t : M Bool} {m n : M PyData} (hc : GT T E X c t) (ha : GD T E X a m) (hb : GD T E X b n) : GD T E X (.IfExp c a b pos) (mif t m n) :=
  pe_imp (pe_ifExp hc ha hb) fun sg H Q ⟨en, Z, r, q⟩ => ⟨en, Z, r, post_mono (post_bnd r q) fun d en1 H1 Z1 _ ⟨a1, q1⟩ => by
    cases d with
    | true => exact ⟨en1, Z1, a1.rel, q1⟩
    | false => exact ⟨en1, Z1, a1.rel, q1⟩⟩

/-! ### argument lists, displays -/
def manil : M (List PyData) := ret []
def macons (m : M PyData) (ms : M (List PyData)) : M (List PyData) := bnd m fun d => bnd ms fun ds => ret (d :: ds)
theorem ga_nil : GA T E X [] manil := pa_imp pa_nil fun sg H Q ⟨en, Z, r, q⟩ => post_ret r q [] .nil
theorem ga_cons {m : M PyData} {ms : M (List PyData)} {es : List Expr} (h : GD T E X a m) (hs : GA T E X es ms) (hq : starEach (a :: es) X.env = (false, eval a X.env) :: starEach es X.env := by rfl) : GA T E X (a :: es) (macons m ms) :=
  pa_imp (pa_cons h hs hq) fun sg H Q ⟨en, Z, r, q⟩ => ⟨en, Z, r, post_mono (post_bnd r q) fun d en1 H1 Z1 _ ⟨a1, q1⟩ v hv => ⟨en1, Z1, a1.rel, post_mono (post_bnd a1.rel q1) fun ds en2 H2 Z2 _ ⟨a2, q2⟩ vs hvs =>
    post_ret a2.rel q2 (v :: vs) (.cons (dp_mono a2.zz hv) hvs)⟩⟩
def mlst (ms : M (List PyData)) : M Vl := bnd ms fun ds => if ds.length ≤ 1000 then ret (.ow (.list ds)) else fail
def mtup (ms : M (List PyData)) : M PyData := bnd ms fun ds => if ds.length ≤ 1000 then ret (.tuple ds) else fail
theorem ge_lst {ms : M (List PyData)} {es : List Expr} (h : GA T E X es ms) : GE T E X (.List es pos) (mlst ms) :=
  pe_imp (pe_lst h) fun sg H Q ⟨en, Z, r, q⟩ => ⟨en, Z, r, post_mono (post_bnd r q) fun ds en1 H1 Z1 _ ⟨a1, q1⟩ vs hvs => by
    by_cases hl : ds.length ≤ 1000
    · simp only [hl, if_true] at q1
      refine ⟨by rw [dpa_length hvs, sizeLine_eq]; omega, fun p hp => ?_⟩
      exact out_ok (o := .nl ds) (sg0 := sg) a1.rel a1 q1 p vs hp hvs
    · simp only [hl, if_false] at q1; exact q1.elim⟩
theorem gd_tup {ms : M (List PyData)} {es : List Expr} {x1 : Nat} (h : GA T E X es ms) : GD T E X (.Tuple es x1 pos) (mtup ms) :=
  pe_imp (pe_tup h) fun sg H Q ⟨en, Z, r, q⟩ => ⟨en, Z, r, post_mono (post_bnd r q) fun ds en1 H1 Z1 _ ⟨a1, q1⟩ vs hvs => by
    by_cases hl : ds.length ≤ 1000
    · simp only [hl, if_true] at q1
      refine ⟨by rw [dpa_length hvs, sizeLine_eq]; omega, fun p hp => ?_⟩
      have a2 := aft_all (o := .tup vs) a1.rel hp
      exact q1 _ _ a2 (.ref p) (.tup (.inl (.inl upd_same)) (dpAll_mono a2.zz hvs))
    · simp only [hl, if_false] at q1; exact q1.elim⟩
end
end ZD

namespace ZD
open PySem PySem.Spec PyProof.Rows L2 GxR ZG

inductive Fl where
  | nx | rt (x : Vl) | bk | ct
def endF (k : Kx) (sg : L2.St) (H : Hp) (en : En) (D : Ends) (sg' : L2.St) (H' Z' : Hp) (en' : En) : Fl → Prop
  | .nx => D.nx sg' H'
  | .bk => D.bk sg' H'
  | .ct => D.ct sg' H'
  | .rt x => ∀ v, VlOk k sg H en sg' H' Z' en' v x → D.rt v H'
/-- what follows a statement, the names change -/
def PostS {α : Type} (k : Kx) (E : Wish) (sg : L2.St) (H Z : Hp) (en : En) (r : Res α) (P : α → En → L2.St → Hp → Hp → Prop) : Prop :=
  match r with
  | .ok a en' => ∀ sg' H' Z', Aft k sg H Z en sg' H' Z' en' → P a en' sg' H' Z'
  | .err c en' => ∀ sg' H' Z', Aft k sg H Z en sg' H' Z' en' → E c sg' H'
  | .bad => False
def tS (k : Kx) (E : Wish) (m : M Fl) : TS := fun D sg H => ∃ en Z, Rel k sg H Z en ∧ PostS k E sg H Z en (m en) fun f en' sg' H' Z' => endF k sg H en D sg' H' Z' en' f
abbrev GS (T : List Addr) (E : Wish) (X : Cx) (st : Stmt) (m : M Fl) : Prop := PS X st (tS ⟨X.K, T⟩ E m)
abbrev GSs (T : List Addr) (E : Wish) (X : Cx) (st : List Stmt) (m : M Fl) : Prop := PSs X st (tS ⟨X.K, T⟩ E m)

section
variable {k : Kx} {E : Wish} {sg sg1 : L2.St} {H H1 Z Z1 : Hp} {en en1 : En} {α β : Type}
theorem posts_post {m : Res α} {P : α → En → L2.St → Hp → Hp → Prop} (h : PostS k E sg H Z en m P) : Post k E sg H Z en m fun a en' H' Z' => P a en' sg H' Z' := by
  cases m with
  | ok a en1 => exact fun H1 Z1 a1 => h sg H1 Z1 a1
  | err c en1 => exact fun H1 Z1 a1 => h sg H1 Z1 a1
  | bad => exact h
theorem posts_bnd {m : M α} {f : α → M β} {P : β → En → L2.St → Hp → Hp → Prop} (r : Rel k sg H Z en) (h : PostS k E sg H Z en (bnd m f en) P) :
    PostS k E sg H Z en (m en) fun a en1 sg1 H1 Z1 => Aft k sg H Z en sg1 H1 Z1 en1 ∧ PostS k E sg1 H1 Z1 en1 (f a en1) P := by
  unfold bnd at h
  cases q : m en with
  | ok a en1 =>
    rw [q] at h
    intro sg1 H1 Z1 a1
    refine ⟨a1, ?_⟩
    have h : PostS k E sg H Z en (f a en1) P := h
    cases q2 : f a en1 with
    | ok b en2 =>
      rw [q2] at h
      intro sg2 H2 Z2 a2
      exact h sg2 H2 Z2 (a1.trans a2 r)
    | err c en2 =>
      rw [q2] at h
      intro sg2 H2 Z2 a2
      exact h sg2 H2 Z2 (a1.trans a2 r)
    | bad => rw [q2] at h; exact h
  | err c en1 => rw [q] at h; exact h
  | bad => rw [q] at h; exact h
theorem posts_mono {r : Res α} {P P' : α → En → L2.St → Hp → Hp → Prop} (h : PostS k E sg H Z en r P) (i : ∀ a en' sg' H' Z', Aft k sg H Z en sg' H' Z' en' → P a en' sg' H' Z' → P' a en' sg' H' Z') : PostS k E sg H Z en r P' := by
  cases r with
  | ok a en1 => exact fun sg1 H1 Z1 a1 => i _ _ _ _ _ a1 (h sg1 H1 Z1 a1)
  | err c en1 => exact h
  | bad => exact h
theorem posts_ret {a : α} {P : α → En → L2.St → Hp → Hp → Prop} (r : Rel k sg H Z en) (h : PostS k E sg H Z en (ret a en) P) : P a en sg H Z := h sg H Z (Aft.refl r)
theorem free_backS (a : Aft k sg H Z en sg1 H1 Z1 en1) {x : Addr} (h : H1 x = none) : H x = none ∨ Mine sg en x := by
  cases e : H x with
  | none => exact .inl rfl
  | some u =>
    by_cases m : Mine sg en x
    · exact .inr m
    · by_cases t : x ∈ k.T
      · obtain ⟨⟨ps, hp, _⟩, _⟩ := a.rel.tab x t
        rw [hp] at h; cases h
      · rw [a.keep x u e m t] at h; cases h
theorem vl_backS {sg2 : L2.St} {H2 Z2 : Hp} {en2 : En} {v : V} {x : Vl} (a : Aft k sg H Z en sg1 H1 Z1 en1) (h : VlOk k sg1 H1 en1 sg2 H2 Z2 en2 v x) : VlOk k sg H en sg2 H2 Z2 en2 v x := by
  cases x with
  | sh d => exact h
  | ow d =>
    obtain ⟨p, e, h1, h2, h3, h4⟩ := h
    refine ⟨p, e, h1, h2, h3, ?_⟩
    rcases h4 with q | q
    · exact free_backS a q
    · exact (a.own p q).symm
theorem endF_back {D : Ends} {sg2 : L2.St} {H2 Z2 : Hp} {en2 : En} {f : Fl} (a : Aft k sg H Z en sg1 H1 Z1 en1) (h : endF k sg H en D sg2 H2 Z2 en2 f) : endF k sg1 H1 en1 D sg2 H2 Z2 en2 f := by
  cases f with
  | rt x => exact fun v hv => h v (vl_backS a hv)
  | nx => exact h
  | bk => exact h
  | ct => exact h

def slOf : Vl → Sl
  | .sh d => .sh d
  | .ow d => .ow d
/-- a name gets a value -/
theorem aft_set {sg0 : L2.St} {H0 Z0 : Hp} {en0 : En} {i : Nat} {s0 : Sl} {v : V} {x : Vl} (a : Aft k sg0 H0 Z0 en0 sg H Z en) (he : en[i]? = some s0) (n : ∀ d, s0 ≠ .io d) (hv : VlOk k sg0 H0 en0 sg H Z en v x) :
    Aft k sg0 H0 Z0 en0 (sg.set i (some v)) H Z (en.set i (slOf x)) := by
  have r := a.rel
  have hi : i < en.length := (List.getElem?_eq_some_iff.mp he).1
  obtain ⟨u0, hu0, _⟩ := r.sl i s0 he
  have hg : i < sg.length := (List.getElem?_eq_some_iff.mp hu0).1
  have at_ : ∀ (j : Nat) (s : Sl), (en.set i (slOf x))[j]? = some s → (j = i ∧ s = slOf x) ∨ (j ≠ i ∧ en[j]? = some s) := fun j s h => by
    by_cases e : j = i
    · rw [e, List.getElem?_set_self hi] at h; cases h; exact .inl ⟨e, rfl⟩
    · rw [List.getElem?_set_ne (Ne.symm e)] at h; exact .inr ⟨e, h⟩
  have sne : ∀ (j : Nat), j ≠ i → (sg.set i (some v))[j]? = sg[j]? := fun j e => List.getElem?_set_ne (Ne.symm e)
  have new : isOwn (slOf x) = true → ∃ p, v = .ref p ∧ ¬ Mine sg en p ∧ (H0 p = none ∨ Mine sg0 en0 p) := fun h => by
    cases x with
    | sh d => cases h
    | ow d => obtain ⟨p, e, _, _, h3, h4⟩ := hv; exact ⟨p, e, h3, h4⟩
  refine ⟨⟨r.sub, fun j s h => ?_, fun j l s t b h1 h2 h3 h4 h5 h6 => ?_, r.tab⟩, a.zz, a.new, a.keep, fun b ⟨j, s, h1, h2, h3⟩ => ?_, fun j d h => ?_⟩
  · rcases at_ j s h with ⟨e1, e2⟩ | ⟨hj, e⟩
    · rw [e1, e2]
      refine ⟨some v, List.getElem?_set_self hg, ?_⟩
      cases x with
      | sh d => exact ⟨v, rfl, hv⟩
      | ow d => obtain ⟨p, e, h1, h2, _⟩ := hv; exact ⟨p, by rw [e], h1, h2⟩
    · obtain ⟨w, hw, q⟩ := r.sl j s e
      exact ⟨w, (sne j hj).trans hw, q⟩
  · rcases at_ j s h1 with ⟨e1, e2⟩ | ⟨hj, e⟩
    · rcases at_ l t h2 with ⟨e1', e2'⟩ | ⟨hl, e'⟩
      · rw [e1, e1']
      · rw [e1, List.getElem?_set_self hg] at h5
        rw [sne l hl] at h6
        rw [e2] at h3
        obtain ⟨p, hp, nm, _⟩ := new h3
        rw [hp] at h5
        have hb : p = b := by cases h5; rfl
        rw [hb] at nm
        exact absurd ⟨l, t, e', h4, h6⟩ nm
    · rcases at_ l t h2 with ⟨e1', e2'⟩ | ⟨hl, e'⟩
      · rw [e1', List.getElem?_set_self hg] at h6
        rw [sne j hj] at h5
        rw [e2'] at h4
        obtain ⟨p, hp, nm, _⟩ := new h4
        rw [hp] at h6
        have hb : p = b := by cases h6; rfl
        rw [hb] at nm
        exact absurd ⟨j, s, e, h3, h5⟩ nm
      · rw [sne j hj] at h5
        rw [sne l hl] at h6
        exact r.dis j l s t b e e' h3 h4 h5 h6
  · rcases at_ j s h1 with ⟨e1, e2⟩ | ⟨hj, e⟩
    · rw [e2] at h2
      obtain ⟨p, hp, _, hf⟩ := new h2
      rw [e1, List.getElem?_set_self hg, hp] at h3
      have hb : p = b := by cases h3; rfl
      rw [← hb]
      exact hf.symm
    · rw [sne j hj] at h3
      exact a.own b ⟨j, s, e, h2, h3⟩
  · obtain ⟨⟨d', h1⟩, h2⟩ := a.io j d h
    have hj : j ≠ i := fun e => by rw [e, he] at h1; cases h1; exact n d' rfl
    exact ⟨⟨d', by rw [List.getElem?_set_ne (Ne.symm hj)]; exact h1⟩, (sne j hj).trans h2⟩
end

/-! ### blocks and small statements -/
section
variable {T : List Addr} {E : Wish} {X : Cx} {e a b c : Expr} {pos : Pos} {st : Stmt} {rest : List Stmt}
def mnx : M Fl := ret .nx
def mseq (m n : M Fl) : M Fl := bnd m fun f => match f with
  | .nx => n
  | f => ret f
theorem gss_nil : GSs T E X [] mnx := pss_imp pss_nil fun D sg H ⟨en, Z, r, q⟩ => posts_ret (a := Fl.nx) r q
theorem gss_cons {m n : M Fl} (h1 : GS T E X st m) (h2 : GSs T E X rest n) : GSs T E X (st :: rest) (mseq m n) :=
  pss_imp (pss_cons h1 h2) fun D sg H ⟨en, Z, r, q⟩ => ⟨en, Z, r, posts_mono (posts_bnd r q) fun f en1 sg1 H1 Z1 _ ⟨a1, q1⟩ => by
    cases f with
    | nx => exact ⟨en1, Z1, a1.rel, posts_mono q1 fun f en2 sg2 H2 Z2 _ h => endF_back a1 h⟩
    | rt x => exact posts_ret (a := Fl.rt x) a1.rel q1
    | bk => exact posts_ret (a := Fl.bk) a1.rel q1
    | ct => exact posts_ret (a := Fl.ct) a1.rel q1⟩
theorem gss_one {m : M Fl} (h1 : GS T E X st m) : GSs T E X [st] m := pss_one h1
theorem gs_pass : GS T E X (.Pass pos) mnx := ps_imp ps_pass fun D sg H ⟨en, Z, r, q⟩ => posts_ret (a := Fl.nx) r q
theorem gs_break : GS T E X (.Break pos) (ret .bk) := ps_imp ps_break fun D sg H ⟨en, Z, r, q⟩ => posts_ret (a := Fl.bk) r q
theorem gs_continue : GS T E X (.Continue pos) (ret .ct) := ps_imp ps_continue fun D sg H ⟨en, Z, r, q⟩ => posts_ret (a := Fl.ct) r q
def mret (m : M Vl) : M Fl := bnd m fun x => ret (.rt x)
theorem gs_ret {m : M Vl} (h : GE T E X e m) : GS T E X (.Return (some e) pos) (mret m) :=
  ps_imp (ps_ret h) fun D sg H ⟨en, Z, r, q⟩ => ⟨en, Z, r, post_mono (posts_post (posts_bnd r q)) fun x en1 H1 Z1 _ ⟨a1, q1⟩ v hv => posts_ret (a := Fl.rt x) a1.rel q1 v hv⟩
/-- a name's thing is given back -/
def mretN (i : Nat) : M Fl := fun en => match en[i]? with
  | some (.sh d) => .ok (.rt (.sh d)) en
  | some (.ow d) => .ok (.rt (.ow d)) (en.set i .no)
  | _ => .bad
theorem aft_drop {k : Kx} {sg : L2.St} {H Z : Hp} {en : En} {i : Nat} {d : PyData} (r : Rel k sg H Z en) (he : en[i]? = some (.ow d)) : Aft k sg H Z en sg H Z (en.set i .no) ∧ (∀ a, sg[i]? = some (some (V.ref a)) → ¬ Mine sg (en.set i .no) a) := by
  have hi : i < en.length := (List.getElem?_eq_some_iff.mp he).1
  have at_ : ∀ (j : Nat) (s : Sl), (en.set i .no)[j]? = some s → (j = i ∧ s = .no) ∨ (j ≠ i ∧ en[j]? = some s) := fun j s h => by
    by_cases e : j = i
    · rw [e, List.getElem?_set_self hi] at h; cases h; exact .inl ⟨e, rfl⟩
    · rw [List.getElem?_set_ne (Ne.symm e)] at h; exact .inr ⟨e, h⟩
  refine ⟨⟨⟨r.sub, fun j s h => ?_, fun j l s t b h1 h2 h3 h4 h5 h6 => ?_, r.tab⟩, fun _ _ h => h, fun _ _ h => .inl h, fun _ _ h _ _ => h, fun b ⟨j, s, h1, h2, h3⟩ => ?_, fun j d' h => ?_⟩, fun a ha ⟨j, s, h1, h2, h3⟩ => ?_⟩
  · rcases at_ j s h with ⟨e1, e2⟩ | ⟨_, e⟩
    · obtain ⟨v, hv, _⟩ := r.sl i _ he
      rw [e1, e2]; exact ⟨v, hv, trivial⟩
    · exact r.sl j s e
  · rcases at_ j s h1 with ⟨_, e⟩ | ⟨_, e⟩
    · rw [e] at h3; cases h3
    · rcases at_ l t h2 with ⟨_, e'⟩ | ⟨_, e'⟩
      · rw [e'] at h4; cases h4
      · exact r.dis j l s t b e e' h3 h4 h5 h6
  · rcases at_ j s h1 with ⟨_, e⟩ | ⟨_, e⟩
    · rw [e] at h2; cases h2
    · exact .inl ⟨j, s, e, h2, h3⟩
  · have hj : j ≠ i := fun e => by rw [e, he] at h; cases h
    exact ⟨⟨d', by rw [List.getElem?_set_ne (Ne.symm hj)]; exact h⟩, rfl⟩
  · rcases at_ j s h1 with ⟨_, e⟩ | ⟨hj, e⟩
    · rw [e] at h2; cases h2
    · exact hj (r.dis j i s _ a e he h2 rfl h3 ha)
theorem gs_retN (i : Nat) (h : PE X e (tVar i)) : GS T E X (.Return (some e) pos) (mretN i) := ps_imp (ps_ret h) fun D sg H ⟨en, Z, r, q⟩ => by
  unfold mretN at q
  cases he : en[i]? with
  | none => rw [he] at q; exact q.elim
  | some s =>
    rw [he] at q
    obtain ⟨v, hv, hs⟩ := r.sl i s he
    cases s with
    | no => exact q.elim
    | io d => exact q.elim
    | sh d =>
      obtain ⟨x, rfl, hd⟩ := hs
      exact ⟨x, hv, q sg H Z (Aft.refl r) x hd⟩
    | ow d =>
      obtain ⟨a, rfl, hz, ho⟩ := hs
      obtain ⟨a2, nm⟩ := aft_drop r he
      exact ⟨.ref a, hv, q sg H Z a2 (.ref a) ⟨a, rfl, hz, ho, nm a hv, .inr ⟨i, _, he, rfl, hv⟩⟩⟩
theorem gs_retNone : GS T E X (.Return none pos) (ret (.rt (.sh .none))) := ps_imp ps_retN fun D sg H ⟨en, Z, r, q⟩ => posts_ret (a := Fl.rt (.sh .none)) r q .non .non
def mifS (t : M Bool) (m n : M Fl) : M Fl := bnd t fun b => if b = true then m else n
theorem gs_if {t : M Bool} {m n : M Fl} {p q : List Stmt} (hc : GT T E X c t) (ha : GSs T E X p m) (hb : GSs T E X q n) : GS T E X (.If c p q pos) (mifS t m n) :=
  ps_imp (ps_if hc ha hb) fun D sg H ⟨en, Z, r, q⟩ => ⟨en, Z, r, post_mono (posts_post (posts_bnd r q)) fun d en1 H1 Z1 _ ⟨a1, q1⟩ => by
    cases d with
    | true => exact ⟨en1, Z1, a1.rel, posts_mono q1 fun f en2 sg2 H2 Z2 _ h => endF_back a1 h⟩
    | false => exact ⟨en1, Z1, a1.rel, posts_mono q1 fun f en2 sg2 H2 Z2 _ h => endF_back a1 h⟩⟩
/-- an expression alone -/
def mdrop (m : M Vl) : M Fl := bnd m fun _ => mnx
theorem gs_expr {m : M Vl} (h : GE T E X e m) (hs : swapsWith e none pos.line X.env = pure false := by rfl) : GS T E X (.Expr e pos) (mdrop m) :=
  ps_imp (ps_expr h hs) fun D sg H ⟨en, Z, r, q⟩ => ⟨en, Z, r, by
    have q0 := posts_post (posts_bnd r q)
    unfold mdrop bnd at q
    cases hm : m en with
    | ok x en1 =>
      rw [hm] at q
      intro H1 Z1 a1 v hv
      exact q sg H1 Z1 a1
    | err c en1 => rw [hm] at q; exact fun H1 Z1 a1 => q sg H1 Z1 a1
    | bad => rw [hm] at q; exact q⟩

/-! ### targets -/
def masg (i : Nat) (x : Vl) : M Fl := fun en => match en[i]? with
  | some (.io _) => .bad
  | some _ => .ok .nx (en.set i (slOf x))
  | none => .bad
def asgN (i : Nat) (m : M Vl) : M Fl := bnd m (masg i)
theorem masg_ok {k : Kx} {sg0 sg : L2.St} {H0 Z0 H Z : Hp} {en0 en : En} {i : Nat} {v : V} {x : Vl} {P : Fl → En → L2.St → Hp → Hp → Prop} (a : Aft k sg0 H0 Z0 en0 sg H Z en) (hv : VlOk k sg0 H0 en0 sg H Z en v x)
    (h : PostS k E sg0 H0 Z0 en0 (masg i x en) P) : P .nx (en.set i (slOf x)) (sg.set i (some v)) H Z := by
  unfold masg at h
  cases he : en[i]? with
  | none => rw [he] at h; exact h.elim
  | some s =>
    rw [he] at h
    cases s with
    | io d => exact h.elim
    | no => exact h _ _ _ (aft_set a he (fun _ z => by cases z) hv)
    | sh d => exact h _ _ _ (aft_set a he (fun _ z => by cases z) hv)
    | ow d => exact h _ _ _ (aft_set a he (fun _ z => by cases z) hv)
/-- name = e -/
theorem gs_set {i : Nat} {x : Str} {m : M Vl} {pos' : Pos} (hN : X.N.Nodup) (hi : X.N[i]? = some x) (hx : Loc X.env.scope x) (he : GE T E X e m)
    (hs : swapsWith e (some (.Name x pos')) pos.line X.env = pure false := by rfl) (hf : X.fn x = true ∨ X.env.scope.names.lookup x = some .local := by first | exact .inl rfl | exact .inr rfl | assumption) :
    GS T E X (.Assign [.Name x pos'] e pos) (asgN i m) :=
  ps_imp (ps_set hN hi hx he hs hf) fun D sg H ⟨en, Z, r, q⟩ => ⟨en, Z, r, by
    unfold asgN bnd at q
    cases hm : m en with
    | ok x en1 =>
      rw [hm] at q
      intro H1 Z1 a1 v hv
      exact masg_ok a1 hv q
    | err c en1 => rw [hm] at q; exact fun H1 Z1 a1 => q sg H1 Z1 a1
    | bad => rw [hm] at q; exact q⟩
/-- what a target does with a tree; the places that it changes -/
abbrev TgF := PyData → M Fl
def Only (L : List Nat) (sg sg' : L2.St) : Prop := (∀ j, j ∉ L → sg'[j]? = sg[j]?) ∧ sg'.length = sg.length
theorem Only.refl {L : List Nat} {sg : L2.St} : Only L sg sg := ⟨fun _ _ => rfl, rfl⟩
theorem Only.trans {L : List Nat} {sg sg1 sg2 : L2.St} (a : Only L sg sg1) (b : Only L sg1 sg2) : Only L sg sg2 := ⟨fun j h => (b.1 j h).trans (a.1 j h), b.2.trans a.2⟩
theorem Only.set {L : List Nat} {sg : L2.St} {i : Nat} {v : Option V} (h : i ∈ L) : Only L sg (sg.set i v) := ⟨fun j hj => List.getElem?_set_ne (fun (e : i = j) => hj (by rw [← e]; exact h)), List.length_set ..⟩
def tG (k : Kx) (E : Wish) (L : List Nat) (f : TgF) : TG := fun v sg H Q => ∃ en Z d, Rel k sg H Z en ∧ Dp k.K Z v d ∧ PostS k E sg H Z en (f d en) fun fl _ sg' H' _ => fl = .nx → Only L sg sg' → Q sg' H'
def tGT (k : Kx) (E : Wish) (L : List Nat) (f : TgF) : TG := fun v sg H Q => ∃ en Z d, Rel k sg H Z en ∧ Top k.K H Z v d ∧ PostS k E sg H Z en (f d en) fun fl _ sg' H' _ => fl = .nx → Only L sg sg' → Q sg' H'
def tGs (k : Kx) (E : Wish) (L : List Nat) (f : List PyData → M Fl) : TGs := fun vs sg H Q => ∃ en Z ds, Rel k sg H Z en ∧ DpAll k.K Z vs ds ∧ PostS k E sg H Z en (f ds en) fun fl _ sg' H' _ => fl = .nx → Only L sg sg' → Q sg' H'
theorem pg_imp {X : Cx} {e : Expr} {t u : TG} (h : PG X e t) (i : ∀ v sg H Q, u v sg H Q → t v sg H Q) : PG X e u := ⟨fun pins s sg H v w Q I r q => h.run pins s sg H v w Q I r (i _ _ _ _ q)⟩
theorem pgs_imp {X : Cx} {e : List Expr} {t u : TGs} (h : PGs X e t) (i : ∀ v sg H Q, u v sg H Q → t v sg H Q) : PGs X e u := ⟨fun pins s sg H v w Q I r q => h.run pins s sg H v w Q I r (i _ _ _ _ q)⟩
theorem pg_or {X : Cx} {e : Expr} {t u : TG} (h : PG X e t) (h' : PG X e u) : PG X e fun v sg H Q => t v sg H Q ∨ u v sg H Q := ⟨fun pins s sg H v w Q I r q => q.elim (h.run pins s sg H v w Q I r) (h'.run pins s sg H v w Q I r)⟩
abbrev GG (T : List Addr) (E : Wish) (X : Cx) (L : List Nat) (e : Expr) (f : TgF) : Prop := PG X e (tG ⟨X.K, T⟩ E L f)
abbrev GGT (T : List Addr) (E : Wish) (X : Cx) (L : List Nat) (e : Expr) (f : TgF) : Prop := PG X e (tGT ⟨X.K, T⟩ E L f)
abbrev GGs (T : List Addr) (E : Wish) (X : Cx) (L : List Nat) (es : List Expr) (f : List PyData → M Fl) : Prop := PGs X es (tGs ⟨X.K, T⟩ E L f)
def tgN (i : Nat) : TgF := fun d => masg i (.sh d)
theorem gg_name {L : List Nat} {i : Nat} {x : Str} (hL : i ∈ L) (hN : X.N.Nodup) (hi : X.N[i]? = some x) (hx : Loc X.env.scope x) (hf : X.fn x = true ∨ X.env.scope.names.lookup x = some .local := by first | exact .inl rfl | exact .inr rfl | assumption) : GG T E X L (.Name x pos) (tgN i) :=
  pg_imp (pg_name hN hi hx hf) fun v sg H Q ⟨en, Z, d, r, hd, q⟩ => masg_ok (x := .sh d) (Aft.refl r) hd q rfl (Only.set hL)
def tgnil : List PyData → M Fl := fun ds => match ds with
  | [] => mnx
  | _ => fail
def tgcons (f : TgF) (g : List PyData → M Fl) : List PyData → M Fl := fun ds => match ds with
  | [] => fail
  | d :: ds => bnd (f d) fun fl => match fl with
    | .nx => g ds
    | _ => fail
theorem ggs_nil {L : List Nat} : GGs T E X L [] tgnil := pgs_imp pgs_nil fun v sg H Q ⟨en, Z, ds, r, hd, q⟩ => by
  cases hd with
  | nil => exact ⟨rfl, posts_ret (a := Fl.nx) r q rfl Only.refl⟩
  | cons _ _ => exact q.elim
theorem ggs_cons {L : List Nat} {f : TgF} {g : List PyData → M Fl} {es : List Expr} (h1 : GG T E X L e f) (h2 : GGs T E X L es g)
    (hs : (assignEach (e :: es) X.env).map (·.2) = assign e X.env :: (assignEach es X.env).map (·.2) := by rfl) : GGs T E X L (e :: es) (tgcons f g) := pgs_imp (pgs_cons h1 h2 hs) fun v sg H Q ⟨en, Z, ds, r, hd, q⟩ => by
  cases hd with
  | nil => exact q.elim
  | cons hd hr =>
    refine ⟨_, _, rfl, en, Z, _, r, hd, posts_mono (posts_bnd r q) fun fl en1 sg1 H1 Z1 _ ⟨a1, q1⟩ e o1 => ?_⟩
    subst e
    exact ⟨en1, Z1, _, a1.rel, dpAll_mono a1.zz hr, posts_mono q1 fun fl2 en2 sg2 H2 Z2 _ h e o2 => h e (o1.trans o2)⟩
def tgtup (n : Nat) (g : List PyData → M Fl) : TgF := fun d => match d with
  | .tuple ds => if ds.length = n then g ds else fail
  | .list ds => if ds.length = n then g ds else fail
  | _ => fail
theorem ggt_tup {L : List Nat} {es : List Expr} {j n : Nat} {g : List PyData → M Fl} (hc : X.calm = true) (h : GGs T E X L es g) (hn : (assignEach es X.env).length = n := by rfl) (hst : (assignEach es X.env).findIdx? (·.1) = none := by rfl) :
    GGT T E X L (.Tuple es j pos) (tgtup n g) :=
  pg_imp (pg_or (pg_tup hc h hn hst) (pg_unl hc h hn hst)) fun v sg H Q ⟨en, Z, d, r, hd, q⟩ => by
    cases d with
    | tuple ds =>
      obtain ⟨a, vs, rfl, hs, hds⟩ := hd.tup r.sub
      by_cases hl : ds.length = n
      · simp only [tgtup, hl, if_true] at q
        exact .inl ⟨a, vs, rfl, hs, (dpa_length hds).trans hl, en, Z, ds, r, hds, q⟩
      · simp only [tgtup, hl, if_false] at q; exact q.elim
    | list ds =>
      obtain ⟨a, vs, rfl, hs, hds⟩ := hd.list r.sub
      by_cases hl : ds.length = n
      · simp only [tgtup, hl, if_true] at q
        exact .inr ⟨a, vs, rfl, hs, (dpa_length hds).trans hl, en, Z, ds, r, hds, q⟩
      · simp only [tgtup, hl, if_false] at q; exact q.elim
    | _ => exact q.elim
theorem gg_top {L : List Nat} {f : TgF} (h : GGT T E X L e f) : GG T E X L e f := pg_imp h fun v sg H Q ⟨en, Z, d, r, hd, q⟩ => ⟨en, Z, d, r, .inl hd, q⟩
/-- a, b = e: e is looked at -/
def asgT (f : TgF) (m : M Od) : M Fl := bnd m fun x => fun en => match look en x with
  | some d => bnd (f d) (fun fl => match fl with | .nx => mnx | _ => fail) en
  | none => .bad
theorem gs_asgT {L : List Nat} {tg : Expr} {f : TgF} {m : M Od} (he : GO T E X e m) (hg : GGT T E X L tg f) (hs : swapsWithSole [tg] e pos.line X.env = pure false := by rfl) (hw : swappedStores [tg] e X.env = pure none := by rfl)
    (h1 : (assignEach [tg] X.env).map (·.2) = [assign tg X.env] := by rfl) : GS T E X (.Assign [tg] e pos) (asgT f m) :=
  ps_imp (ps_asg he hg hs hw h1) fun D sg H ⟨en, Z, r, q⟩ => ⟨en, Z, r, post_mono (posts_post (posts_bnd r q)) fun x en1 H1 Z1 _ ⟨a1, q1⟩ v hv => by
    cases hl : look en1 x with
    | none => simp only [hl] at q1; exact q1.elim
    | some d =>
      simp only [hl] at q1
      refine ⟨en1, Z1, d, a1.rel, top_of a1.rel hv hl, posts_mono (posts_bnd a1.rel q1) fun fl en2 sg2 H2 Z2 _ ⟨a2, q2⟩ e _ => ?_⟩
      subst e
      exact posts_ret (a := Fl.nx) a2.rel q2⟩
end
end ZD

namespace ZD
open PySem PySem.Spec PyProof.Rows L2 GxR ZG

/-! ### what is walked -/
/-- the walk J hands out ds, as long as Zs stands -/
structure ItIs (k : Kx) (ds : List PyData) (J : It) (Zs : Hp) : Prop where
  stop : ∀ (sg : L2.St) (H Z : Hp) (en : En), Rel k sg H Z en → (∀ a o, Zs a = some o → Z a = some o) → J.stop ds.length H
  go : ∀ (sg : L2.St) (H Z : Hp) (en : En) (i : Nat) (d : PyData), Rel k sg H Z en → (∀ a o, Zs a = some o → Z a = some o) → ds[i]? = some d →
    J.go i H ∧ ∀ x H', J.yld i H x H' → ∃ Z', Aft k sg H Z en sg H' Z' en ∧ Dp k.K Z' x d
def tI (k : Kx) (E : Wish) (m : M (List PyData)) : TI := fun sg H R => ∃ en Z, Rel k sg H Z en ∧ Post k E sg H Z en (m en) fun ds en' H' Z' => ∀ J, ItIs k ds J Z' → R J H'
abbrev GI (T : List Addr) (E : Wish) (X : Cx) (tg iter : Expr) (m : M (List PyData)) : Prop := PI X tg iter (tI ⟨X.K, T⟩ E m)
theorem pi_imp {X : Cx} {tg e : Expr} {t u : TI} (h : PI X tg e t) (i : ∀ sg H R, u sg H R → t sg H R) : PI X tg e u := ⟨fun pins s sg H R I q => h.run pins s sg H R I (i _ _ _ q)⟩
theorem pi_orI {X : Cx} {tg e : Expr} {t u : TI} (h : PI X tg e t) (h' : PI X tg e u) : PI X tg e fun sg H R => t sg H R ∨ u sg H R := ⟨fun pins s sg H R I q => q.elim (h.run pins s sg H R I) (h'.run pins s sg H R I)⟩

section
variable {T : List Addr} {E : Wish} {X : Cx} {tg e a b : Expr} {pos p : Pos} {k : Kx}
theorem itis_list {a : Addr} {vs : List V} {ds : List PyData} {Zs : Hp} (h : SqL k.K Zs a vs) (hd : DpAll k.K Zs vs ds) : ItIs k ds (Itl k.K a) Zs where
  stop := fun sg H Z en r hz => ⟨vs, Same.seq (fun x o q => r.sub x o (hz x o q)) h, by rw [dpa_length hd]; exact Nat.le_refl _⟩
  go := fun sg H Z en i d r hz hi => by
    obtain ⟨v, hv, hvd⟩ := dpa_get hd hi
    have hs : SqL k.K H a vs := Same.seq (fun x o q => r.sub x o (hz x o q)) h
    refine ⟨⟨vs, v, hs, hv⟩, fun x H' hy => ?_⟩
    obtain ⟨rfl, hy⟩ := hy
    have e : some v = some x := hv.symm.trans (hy vs hs)
    cases e
    exact ⟨Z, Aft.refl r, dp_mono hz hvd⟩
theorem SqT.mono {K : PySem.W.Frag} {H H' : Hp} {a : Addr} {vs : List V} (hz : ∀ x o, H x = some o → H' x = some o) (h : SqT K H a vs) : SqT K H' a vs := by
  rcases h with (q | ⟨o, q⟩) | q
  · exact .inl (.inl (hz _ _ q))
  · exact .inl (.inr ⟨o, hz _ _ q⟩)
  · exact .inr q
theorem itis_tup {a : Addr} {vs : List V} {ds : List PyData} {Zs : Hp} (h : SqT k.K Zs a vs) (hd : DpAll k.K Zs vs ds) : ItIs k ds (Itt k.K a) Zs where
  stop := fun sg H Z en r hz => ⟨vs, SqT.mono (fun x o q => r.sub x o (hz x o q)) h, by rw [dpa_length hd]; exact Nat.le_refl _⟩
  go := fun sg H Z en i d r hz hi => by
    obtain ⟨v, hv, hvd⟩ := dpa_get hd hi
    have hs : SqT k.K H a vs := SqT.mono (fun x o q => r.sub x o (hz x o q)) h
    refine ⟨⟨vs, v, hs, hv⟩, fun x H' hy => ?_⟩
    obtain ⟨rfl, hy⟩ := hy
    have e : some v = some x := hv.symm.trans (hy vs hs)
    cases e
    exact ⟨Z, Aft.refl r, dp_mono hz hvd⟩
/-- the signs of a text -/
def signs (x : Str) : List PyData := x.cps.toList.map fun c => .str ⟨#[c]⟩
theorem itis_str {x : Str} {Zs : Hp} : ItIs k (signs x) (Its x) Zs where
  stop := fun sg H Z en r hz => by
    show x.cps.size ≤ (signs x).length
    simp [signs]
  go := fun sg H Z en i d r hz hi => by
    have h0 : i < (signs x).length := (List.getElem?_eq_some_iff.mp hi).1
    have hlt : i < x.cps.size := by simpa [signs] using h0
    refine ⟨hlt, fun y H' hy => ?_⟩
    obtain ⟨rfl, c, hc, rfl⟩ := hy
    have e : d = .str ⟨#[c]⟩ := by
      have q : (signs x)[i]? = some (.str ⟨#[c]⟩) := by
        unfold signs
        rw [List.getElem?_map, Array.getElem?_toList, hc]
        rfl
      rw [q] at hi
      exact (Option.some.inj hi).symm
    subst e
    exact ⟨Z, Aft.refl r, .str _⟩
def rngL (lo : Int) (n : Nat) : List PyData := (List.range n).map fun i => .int (lo + (i : Nat))
theorem itis_rng {lo : Int} {n : Nat} {Zs : Hp} : ItIs k (rngL lo n) (Itr lo n) Zs where
  stop := fun sg H Z en r hz => by
    show n ≤ (rngL lo n).length
    simp [rngL]
  go := fun sg H Z en i d r hz hi => by
    have h0 : i < (rngL lo n).length := (List.getElem?_eq_some_iff.mp hi).1
    have hlt : i < n := by simpa [rngL] using h0
    refine ⟨hlt, fun y H' hy => ?_⟩
    obtain ⟨rfl, rfl⟩ := hy
    have e : d = .int (lo + (i : Nat)) := by
      have q : (rngL lo n)[i]? = some (.int (lo + (i : Nat))) := by
        unfold rngL
        rw [List.getElem?_map, List.getElem?_range hlt]
        rfl
      rw [q] at hi
      exact (Option.some.inj hi).symm
    subst e
    exact ⟨Z, Aft.refl r, .int _⟩

/-- a list, a tuple, a text -/
def seqM (m : M PyData) : M (List PyData) := bnd m fun d => match d with
  | .list ds => ret ds
  | .tuple ds => ret ds
  | .str x => ret (signs x)
  | _ => fail
theorem gi_seq {m : M PyData} (h : GD T E X e m) : GI T E X tg e (seqM m) :=
  pi_imp (pi_orI (pi_list (tg := tg) h) (pi_orI (pi_tup (tg := tg) h) (pi_str (tg := tg) h))) fun sg H R ⟨en, Z, r, q⟩ => by
    unfold seqM bnd at q
    have hz : ∀ a o, Z a = some o → H a = some o := r.sub
    cases hm : m en with
    | bad => rw [hm] at q; exact q.elim
    | err c en1 =>
      rw [hm] at q
      exact .inl ⟨en, Z, r, by rw [hm]; exact q⟩
    | ok d en1 =>
      rw [hm] at q
      cases d with
      | list ds =>
        refine .inl ⟨en, Z, r, ?_⟩
        rw [hm]
        intro H1 Z1 a1 v hv
        cases hv with
        | lst h1 h2 => exact ⟨_, rfl, ⟨_, Same.seq a1.rel.sub h1⟩, q H1 Z1 a1 _ (itis_list (k := ⟨X.K, T⟩) h1 h2)⟩
      | tuple ds =>
        refine .inr (.inl ⟨en, Z, r, ?_⟩)
        rw [hm]
        intro H1 Z1 a1 v hv
        cases hv with
        | tup h1 h2 => exact ⟨_, rfl, ⟨_, SqT.mono a1.rel.sub h1⟩, q H1 Z1 a1 _ (itis_tup (k := ⟨X.K, T⟩) h1 h2)⟩
      | str x =>
        refine .inr (.inr ⟨en, Z, r, ?_⟩)
        rw [hm]
        intro H1 Z1 a1 v hv
        cases hv
        exact ⟨x, rfl, q H1 Z1 a1 _ itis_str⟩
      | _ => exact q.elim
/-- range(n), range(a, b) -/
def rngM1 (m : M PyData) : M (List PyData) := bnd m fun d => match d with
  | .int n => if n < 2 ^ 62 ∧ -(2 ^ 62) ≤ n then ret (rngL 0 n.toNat) else fail
  | _ => fail
def rngM2 (m n : M PyData) : M (List PyData) := bnd m fun d => bnd n fun d2 => match d, d2 with
  | .int i, .int j => if i < 2 ^ 62 ∧ -(2 ^ 62) ≤ i ∧ j < 2 ^ 62 ∧ -(2 ^ 62) ≤ j then ret (rngL i (j - i).toNat) else fail
  | _, _ => fail
theorem gi_range1 {m : M PyData} (hg : Gl X "range") (hm : X.mg "range" = none) (h : GD T E X a m) (hq : starEach [a] X.env = (false, eval a X.env) :: starEach [] X.env := by rfl) : GI T E X tg (.Call (.Name "range" p) [a] [] pos) (rngM1 m) :=
  pi_imp (pi_range1 (tg := tg) hg hm (pa_cons h pa_nil hq) (by rw [hq]; rfl)) fun sg H R ⟨en, Z, r, q⟩ => ⟨en, Z, r, post_mono (post_bnd r q) fun d en1 H1 Z1 _ ⟨a1, q1⟩ v hv => by
    cases d with
    | int n =>
      cases hv
      by_cases hc : n < 2 ^ 62 ∧ -(2 ^ 62) ≤ n
      · simp only [hc, and_self, if_true] at q1
        exact ⟨n, rfl, hc.2, hc.1, post_ret a1.rel q1 _ itis_rng⟩
      · simp only [hc, if_false] at q1; exact q1.elim
    | _ => exact q1.elim⟩
theorem gi_range2 {m n : M PyData} (hg : Gl X "range") (hm : X.mg "range" = none) (h : GD T E X a m) (h2 : GD T E X b n) (hq : starEach [a, b] X.env = (false, eval a X.env) :: starEach [b] X.env := by rfl) (hq2 : starEach [b] X.env = (false, eval b X.env) :: starEach [] X.env := by rfl) :
    GI T E X tg (.Call (.Name "range" p) [a, b] [] pos) (rngM2 m n) :=
  pi_imp (pi_range2 (tg := tg) hg hm (pa_cons h (pa_cons h2 pa_nil hq2) hq) (by rw [hq, hq2]; rfl) (by rw [hq2]; rfl)) fun sg H R ⟨en, Z, r, q⟩ => ⟨en, Z, r, post_mono (post_bnd r q) fun d en1 H1 Z1 _ ⟨a1, q1⟩ v hv =>
    ⟨en1, Z1, a1.rel, post_mono (post_bnd a1.rel q1) fun d2 en2 H2 Z2 _ ⟨a2, q2⟩ w hw => by
    cases d with
    | int i =>
      cases d2 with
      | int j =>
        cases hv
        cases hw
        by_cases hc : i < 2 ^ 62 ∧ -(2 ^ 62) ≤ i ∧ j < 2 ^ 62 ∧ -(2 ^ 62) ≤ j
        · simp only [hc, and_self, if_true] at q2
          exact ⟨i, j, rfl, ⟨hc.2.1, hc.1, hc.2.2.2, hc.2.2.1⟩, post_ret a2.rel q2 _ itis_rng⟩
        · simp only [hc, if_false] at q2; exact q2.elim
      | _ => exact q2.elim
    | _ => exact q2.elim⟩⟩
end

/-! ### for -/
def forM (f : TgF) (body : M Fl) : List PyData → M Fl
  | [] => mnx
  | d :: ds => bnd (f d) fun fl => match fl with
    | .nx => bnd body fun g => match g with
      | .nx => forM f body ds
      | .ct => forM f body ds
      | .bk => mnx
      | .rt x => ret (.rt x)
    | _ => fail
def mfor (m : M (List PyData)) (f : TgF) (body : M Fl) : M Fl := bnd m (forM f body)
section
variable {T : List Addr} {E : Wish} {X : Cx} {tg iter : Expr} {body : List Stmt} {pos : Pos}
theorem gs_for {L : List Nat} {m : M (List PyData)} {f : TgF} {mb : M Fl} (hp : PassesOwn (model X.prog X.w) X.A X.env X.xe) (hc : X.calm = true) (hi : GI T E X tg iter m) (hg : GG T E X L tg f) (hb : GSs T E X body mb)
    (hs : ∀ x, foldedSetIterable iter X.env x = pure x := by intro _; rfl) : GS T E X (.For tg iter body [] pos) (mfor m f mb) :=
  ps_imp (ps_for hp hc hi hg hb hs) fun D sg H ⟨en, Z, r, q⟩ => ⟨en, Z, r, post_mono (posts_post (posts_bnd r q)) fun ds en1 H1 Z1 _ ⟨a1, q1⟩ J hJ => by
    refine ⟨fun i m' sg2 H2 => m' = ds.length - i ∧ i ≤ ds.length ∧ ∃ en2 Z2, Rel ⟨X.K, T⟩ sg2 H2 Z2 en2 ∧ (∀ a o, Z1 a = some o → Z2 a = some o) ∧ Aft ⟨X.K, T⟩ sg H Z en sg2 H2 Z2 en2 ∧
      PostS ⟨X.K, T⟩ E sg2 H2 Z2 en2 (forM f mb (ds.drop i) en2) fun fl en' sg' H' Z' => endF ⟨X.K, T⟩ sg H en D sg' H' Z' en' fl, ⟨ds.length, by simp, Nat.zero_le _, en1, Z1, a1.rel, fun _ _ h => h, a1, by rw [List.drop_zero]; exact q1⟩, ?_⟩
    rintro i m' sg2 H2 ⟨rfl, hi', en2, Z2, r2, hz, a2, q2⟩
    by_cases hlt : i < ds.length
    · have hd : ds[i]? = some ds[i] := List.getElem?_eq_getElem hlt
      obtain ⟨hgo, hy⟩ := hJ.go sg2 H2 Z2 en2 i _ r2 hz hd
      refine .inr ⟨hgo, fun sg3 H3 => ds.length - (i + 1) = ds.length - (i + 1) ∧ i + 1 ≤ ds.length ∧ ∃ en3 Z3, Rel ⟨X.K, T⟩ sg3 H3 Z3 en3 ∧ (∀ a o, Z1 a = some o → Z3 a = some o) ∧ Aft ⟨X.K, T⟩ sg H Z en sg3 H3 Z3 en3 ∧
        PostS ⟨X.K, T⟩ E sg3 H3 Z3 en3 (forM f mb (ds.drop (i + 1)) en3) fun fl en' sg' H' Z' => endF ⟨X.K, T⟩ sg H en D sg' H' Z' en' fl, fun sg3 H3 h => ⟨_, by omega, h⟩, fun x H3 hx => ?_⟩
      obtain ⟨Z3, a3, hdp⟩ := hy x H3 hx
      rw [List.drop_eq_getElem_cons hlt] at q2
      unfold forM at q2
      refine ⟨en2, Z3, _, a3.rel, hdp, ?_⟩
      have q3 : PostS ⟨X.K, T⟩ E sg2 H3 Z3 en2 (bnd (f ds[i]) (fun fl => match fl with
        | .nx => bnd mb fun g => match g with
          | .nx => forM f mb (ds.drop (i + 1))
          | .ct => forM f mb (ds.drop (i + 1))
          | .bk => mnx
          | .rt x => ret (.rt x)
        | _ => fail) en2) fun fl en' sg' H' Z' => endF ⟨X.K, T⟩ sg H en D sg' H' Z' en' fl := by
        revert q2
        generalize bnd (f ds[i]) _ en2 = rr
        intro q2
        cases rr with
        | ok fl en3 => exact fun sg' H' Z' a' => q2 sg' H' Z' (a3.trans a' r2)
        | err c en3 => exact fun sg' H' Z' a' => q2 sg' H' Z' (a3.trans a' r2)
        | bad => exact q2
      refine posts_mono (posts_bnd a3.rel q3) fun fl en4 sg4 H4 Z4 _ ⟨a4, q4⟩ e _ => ?_
      subst e
      refine ⟨en4, Z4, a4.rel, posts_mono (posts_bnd a4.rel q4) fun g en5 sg5 H5 Z5 _ ⟨a5, q5⟩ => ?_⟩
      have a05 : Aft ⟨X.K, T⟩ sg H Z en sg5 H5 Z5 en5 := ((a2.trans a3 r).trans a4 r).trans a5 r
      have z05 : ∀ a o, Z1 a = some o → Z5 a = some o := fun a o h => a5.zz a o (a4.zz a o (a3.zz a o (hz a o h)))
      cases g with
      | nx => exact ⟨rfl, hlt, en5, Z5, a5.rel, z05, a05, q5⟩
      | ct => exact ⟨rfl, hlt, en5, Z5, a5.rel, z05, a05, q5⟩
      | bk => exact posts_ret (a := Fl.nx) a5.rel q5
      | rt x => exact fun v hv => posts_ret (a := Fl.rt x) a5.rel q5 v (vl_backS (((a2.trans a3 r).trans a4 r)) hv)
    · have e : i = ds.length := by omega
      subst e
      rw [List.drop_of_length_le (Nat.le_refl _)] at q2
      exact .inl ⟨hJ.stop sg2 H2 Z2 en2 r2 hz, posts_ret (a := Fl.nx) r2 q2⟩⟩

/-! ### while -/
def whileM (t : M Bool) (body : M Fl) : Nat → M Fl
  | 0 => fail
  | n + 1 => bnd t fun b => if b = true then bnd body (fun g => match g with
      | .nx => whileM t body n
      | .ct => whileM t body n
      | .bk => mnx
      | .rt x => ret (.rt x)) else mnx
theorem gs_while {c : Expr} {mt : M Bool} {mb : M Fl} (n : Nat) (hp : PassesOwn (model X.prog X.w) X.A X.env X.xe) (hc : GT T E X c mt) (hb : GSs T E X body mb) : GS T E X (.While c body [] pos) (whileM mt mb n) :=
  ps_imp (ps_while hp hc hb) fun D sg H ⟨en, Z, r, q⟩ => by
    refine ⟨fun n' sg2 H2 => ∃ en2 Z2, Rel ⟨X.K, T⟩ sg2 H2 Z2 en2 ∧ Aft ⟨X.K, T⟩ sg H Z en sg2 H2 Z2 en2 ∧
      PostS ⟨X.K, T⟩ E sg2 H2 Z2 en2 (whileM mt mb n' en2) fun fl en' sg' H' Z' => endF ⟨X.K, T⟩ sg H en D sg' H' Z' en' fl, ⟨n, en, Z, r, Aft.refl r, q⟩, ?_⟩
    rintro n' sg2 H2 ⟨en2, Z2, r2, a2, q2⟩
    cases n' with
    | zero => exact q2.elim
    | succ n' =>
      refine ⟨en2, Z2, r2, post_mono (posts_post (posts_bnd r2 q2)) fun b en3 H3 Z3 _ ⟨a3, q3⟩ => ?_⟩
      cases b with
      | true =>
        rw [if_pos rfl]
        refine ⟨fun sg4 H4 => ∃ en4 Z4, Rel ⟨X.K, T⟩ sg4 H4 Z4 en4 ∧ Aft ⟨X.K, T⟩ sg H Z en sg4 H4 Z4 en4 ∧
          PostS ⟨X.K, T⟩ E sg4 H4 Z4 en4 (whileM mt mb n' en4) fun fl en' sg' H' Z' => endF ⟨X.K, T⟩ sg H en D sg' H' Z' en' fl, fun sg4 H4 h => ⟨n', Nat.lt_succ_self _, h⟩, ?_⟩
        have q3 : PostS ⟨X.K, T⟩ E sg2 H3 Z3 en3 (bnd mb _ en3) _ := q3
        refine ⟨en3, Z3, a3.rel, posts_mono (posts_bnd a3.rel q3) fun g en5 sg5 H5 Z5 _ ⟨a5, q5⟩ => ?_⟩
        have a05 : Aft ⟨X.K, T⟩ sg H Z en sg5 H5 Z5 en5 := (a2.trans a3 r).trans a5 r
        cases g with
        | nx => exact ⟨en5, Z5, a5.rel, a05, q5⟩
        | ct => exact ⟨en5, Z5, a5.rel, a05, q5⟩
        | bk => exact posts_ret (a := Fl.nx) a5.rel q5
        | rt x => exact fun v hv => posts_ret (a := Fl.rt x) a5.rel q5 v (vl_backS (a2.trans a3 r) hv)
      | false =>
        rw [if_neg Bool.false_ne_true]
        exact posts_ret (a := Fl.nx) a3.rel q3
end
end ZD

namespace ZD
open PySem PySem.Spec PyProof.Rows L2 GxR ZG

/-! ### the names of a block of its own -/
def wipeE (en : En) : List Nat → En
  | [] => en
  | v :: vs => (wipeE en vs).set v .no
def restE (en0 en : En) : List Nat → En
  | [] => en
  | v :: vs => (restE en0 en vs).set v (en0[v]?.getD .no)
def isPlain : Option Sl → Bool
  | some .no => true
  | some (.sh _) => true
  | _ => false
def wipeable (en : En) (vs : List Nat) : Bool := vs.all fun v => isPlain en[v]?

theorem wipe_get (sg : L2.St) : ∀ (vs : List Nat) (i : Nat), (i ∉ vs → (wipe sg vs)[i]? = sg[i]?) ∧ (i ∈ vs → ∀ v, sg[i]? = some v → (wipe sg vs)[i]? = some none)
  | [], i => ⟨fun _ => rfl, fun h => nomatch h⟩
  | v :: vs, i => by
    obtain ⟨h1, h2⟩ := wipe_get sg vs i
    unfold wipe
    by_cases e : v = i
    · refine ⟨fun h => absurd (by rw [e]; exact List.mem_cons_self) h, fun _ u hu => ?_⟩
      have hl : v < (wipe sg vs).length := by rw [wipe_length, e]; exact (List.getElem?_eq_some_iff.mp hu).1
      rw [← e, List.getElem?_set_self hl]
    · rw [List.getElem?_set_ne e]
      exact ⟨fun h => h1 fun q => h (List.mem_cons_of_mem _ q), fun h => h2 ((List.mem_cons.mp h).resolve_left fun q => e q.symm)⟩
theorem wipeE_len (en : En) : ∀ vs : List Nat, (wipeE en vs).length = en.length
  | [] => rfl
  | v :: vs => by unfold wipeE; rw [List.length_set, wipeE_len en vs]
theorem wipeE_get (en : En) : ∀ (vs : List Nat) (i : Nat), (i ∉ vs → (wipeE en vs)[i]? = en[i]?) ∧ (i ∈ vs → ∀ s, (wipeE en vs)[i]? = some s → s = .no ∧ ∃ s0, en[i]? = some s0)
  | [], i => ⟨fun _ => rfl, fun h => nomatch h⟩
  | v :: vs, i => by
    obtain ⟨h1, h2⟩ := wipeE_get en vs i
    unfold wipeE
    by_cases e : v = i
    · refine ⟨fun h => absurd (by rw [e]; exact List.mem_cons_self) h, fun _ s hs => ?_⟩
      have hl : v < (wipeE en vs).length := by
        have q := (List.getElem?_eq_some_iff.mp hs).1
        rw [List.length_set] at q
        rw [e]; exact q
      rw [← e, List.getElem?_set_self hl] at hs
      rw [wipeE_len] at hl
      exact ⟨(Option.some.inj hs).symm, en[v], by rw [← e]; exact List.getElem?_eq_getElem hl⟩
    · rw [List.getElem?_set_ne e]
      exact ⟨fun h => h1 fun q => h (List.mem_cons_of_mem _ q), fun h => h2 ((List.mem_cons.mp h).resolve_left fun q => e q.symm)⟩
theorem restE_len (en0 en : En) : ∀ vs : List Nat, (restE en0 en vs).length = en.length
  | [] => rfl
  | v :: vs => by unfold restE; rw [List.length_set, restE_len en0 en vs]
theorem restE_get (en0 en : En) : ∀ (vs : List Nat) (i : Nat), (i ∉ vs → (restE en0 en vs)[i]? = en[i]?) ∧ (i ∈ vs → ∀ s, (restE en0 en vs)[i]? = some s → s = en0[i]?.getD .no ∧ ∃ s1, en[i]? = some s1)
  | [], i => ⟨fun _ => rfl, fun h => nomatch h⟩
  | v :: vs, i => by
    obtain ⟨h1, h2⟩ := restE_get en0 en vs i
    unfold restE
    by_cases e : v = i
    · refine ⟨fun h => absurd (by rw [e]; exact List.mem_cons_self) h, fun _ s hs => ?_⟩
      have hl : v < (restE en0 en vs).length := by
        have q := (List.getElem?_eq_some_iff.mp hs).1
        rw [List.length_set] at q
        rw [e]; exact q
      rw [← e, List.getElem?_set_self hl] at hs
      rw [restE_len] at hl
      exact ⟨by rw [← e]; exact (Option.some.inj hs).symm, en[v], by rw [← e]; exact List.getElem?_eq_getElem hl⟩
    · rw [List.getElem?_set_ne e]
      exact ⟨fun h => h1 fun q => h (List.mem_cons_of_mem _ q), fun h => h2 ((List.mem_cons.mp h).resolve_left fun q => e q.symm)⟩
theorem only_wipe {L vs : List Nat} {sg sg' : L2.St} (h : Only L sg sg') (hl : ∀ i ∈ L, i ∈ vs) : wipe sg' vs = wipe sg vs := by
  refine List.ext_getElem? fun i => ?_
  by_cases hi : i ∈ vs
  · by_cases hlt : i < sg.length
    · rw [(wipe_get sg' vs i).2 hi _ (List.getElem?_eq_getElem (show i < sg'.length by rw [h.2]; exact hlt)), (wipe_get sg vs i).2 hi _ (List.getElem?_eq_getElem hlt)]
    · rw [List.getElem?_eq_none (by rw [wipe_length, h.2]; omega), List.getElem?_eq_none (by rw [wipe_length]; omega)]
  · rw [(wipe_get sg' vs i).1 hi, (wipe_get sg vs i).1 hi]
    exact h.1 i fun q => hi (hl i q)
theorem wipe_wipe {vs : List Nat} {sg : L2.St} : wipe (wipe sg vs) vs = wipe sg vs := by
  refine only_wipe (L := vs) ⟨fun j hj => (wipe_get sg vs j).1 hj, wipe_length _ _⟩ fun i h => h

section
variable {k : Kx} {E : Wish} {sg : L2.St} {H H' Z Z' : Hp} {en en' : En} {vs : List Nat}
theorem mine_wipe {a : Addr} (m : Mine (wipe sg vs) (wipeE en vs) a) : Mine sg en a := by
  obtain ⟨i, s, h1, h2, h3⟩ := m
  by_cases hi : i ∈ vs
  · obtain ⟨e, _⟩ := (wipeE_get en vs i).2 hi s h1
    rw [e] at h2; cases h2
  · exact ⟨i, s, by rw [← (wipeE_get en vs i).1 hi]; exact h1, h2, by rw [← (wipe_get sg vs i).1 hi]; exact h3⟩
theorem rel_wipe (r : Rel k sg H Z en) : Rel k (wipe sg vs) H Z (wipeE en vs) where
  sub := r.sub
  sl := fun i s h => by
    by_cases hi : i ∈ vs
    · obtain ⟨e, s0, hs0⟩ := (wipeE_get en vs i).2 hi s h
      obtain ⟨v, hv, _⟩ := r.sl i s0 hs0
      exact ⟨none, (wipe_get sg vs i).2 hi v hv, by rw [e]; trivial⟩
    · obtain ⟨v, hv, q⟩ := r.sl i s (by rw [← (wipeE_get en vs i).1 hi]; exact h)
      exact ⟨v, by rw [(wipe_get sg vs i).1 hi]; exact hv, q⟩
  dis := fun i j s t a h1 h2 h3 h4 h5 h6 => by
    by_cases hi : i ∈ vs
    · obtain ⟨e, _⟩ := (wipeE_get en vs i).2 hi s h1
      rw [e] at h3; cases h3
    · by_cases hj : j ∈ vs
      · obtain ⟨e, _⟩ := (wipeE_get en vs j).2 hj t h2
        rw [e] at h4; cases h4
      · rw [(wipeE_get en vs i).1 hi] at h1
        rw [(wipeE_get en vs j).1 hj] at h2
        rw [(wipe_get sg vs i).1 hi] at h5
        rw [(wipe_get sg vs j).1 hj] at h6
        exact r.dis i j s t a h1 h2 h3 h4 h5 h6
  tab := r.tab
theorem plain_own {o : Option Sl} {s : Sl} (h : isPlain o = true) (e : o = some s) : isOwn s = false := by
  rw [e] at h
  cases s with
  | no => rfl
  | sh d => rfl
  | ow d => cases h
  | io d => cases h
/-- within a block: the names of its own are forgotten -/
theorem aft_wipe (r : Rel k sg H Z en) (hw : wipeable en vs = true) : Aft k sg H Z en (wipe sg vs) H Z (wipeE en vs) :=
  ⟨rel_wipe r, fun _ _ h => h, fun _ _ h => .inl h, fun _ _ h _ _ => h, fun _ h => .inl (mine_wipe h), fun i d h => by
    have hi : i ∉ vs := fun q => by
      have z := plain_own (List.all_eq_true.mp hw i q) h
      cases z
    exact ⟨⟨d, by rw [(wipeE_get en vs i).1 hi]; exact h⟩, (wipe_get sg vs i).1 hi⟩⟩
/-- back from the block -/
theorem blk_back (r : Rel k sg H Z en) (hw : wipeable en vs = true) {H1 : Hp} (hk : ∀ a o, H a = some o → H1 a = some o) (hn : ∀ a, H1 a = none → H a = none) (a : Aft k (wipe sg vs) H1 Z (wipeE en vs) (wipe sg vs) H' Z' en') :
    Aft k sg H Z en sg H' Z' (restE en en' vs) := by
  have out : ∀ i, i ∉ vs → (restE en en' vs)[i]? = en'[i]? := fun i hi => (restE_get en en' vs i).1 hi
  have pl : ∀ i ∈ vs, isPlain en[i]? = true := fun i hi => List.all_eq_true.mp hw i hi
  have inn : ∀ i s, i ∈ vs → (restE en en' vs)[i]? = some s → en[i]? = some s := fun i s hi h => by
    obtain ⟨e, _⟩ := (restE_get en en' vs i).2 hi s h
    cases q : en[i]? with
    | none => have z := pl i hi; rw [q] at z; cases z
    | some s0 => rw [e, q]; rfl
  have nown : ∀ i s, i ∈ vs → (restE en en' vs)[i]? = some s → isOwn s = false := fun i s hi h => plain_own (pl i hi) (inn i s hi h)
  have mb : ∀ b, Mine sg (restE en en' vs) b → Mine (wipe sg vs) en' b := fun b ⟨i, s, h1, h2, h3⟩ => by
    by_cases hi : i ∈ vs
    · rw [nown i s hi h1] at h2; cases h2
    · exact ⟨i, s, by rw [← out i hi]; exact h1, h2, by rw [(wipe_get sg vs i).1 hi]; exact h3⟩
  refine ⟨⟨a.rel.sub, fun i s h => ?_, fun i j s t b h1 h2 h3 h4 h5 h6 => ?_, a.rel.tab⟩, a.zz, fun b o h => ?_, fun b o h m t => a.keep b o (hk b o h) (fun q => m (mine_wipe q)) t, fun b h => ?_, fun i d h => ?_⟩
  · by_cases hi : i ∈ vs
    · have e := inn i s hi h
      obtain ⟨v, hv, q⟩ := r.sl i s e
      refine ⟨v, hv, ?_⟩
      have no := nown i s hi h
      cases s with
      | no => trivial
      | sh d => obtain ⟨x, e, q⟩ := q; exact ⟨x, e, dp_mono a.zz q⟩
      | ow d => cases no
      | io d => cases no
    · obtain ⟨v, hv, q⟩ := a.rel.sl i s (by rw [← out i hi]; exact h)
      exact ⟨v, by rw [← (wipe_get sg vs i).1 hi]; exact hv, q⟩
  · by_cases hi : i ∈ vs
    · rw [nown i s hi h1] at h3; cases h3
    · by_cases hj : j ∈ vs
      · rw [nown j t hj h2] at h4; cases h4
      · exact a.rel.dis i j s t b (by rw [← out i hi]; exact h1) (by rw [← out j hj]; exact h2) h3 h4 (by rw [(wipe_get sg vs i).1 hi]; exact h5) (by rw [(wipe_get sg vs j).1 hj]; exact h6)
  · rcases a.new b o h with q | q | q
    · exact .inl q
    · exact .inr (.inl (hn b q))
    · exact .inr (.inr (mine_wipe q))
  · rcases a.own b (mb b h) with q | q
    · exact .inl (mine_wipe q)
    · exact .inr (hn b q)
  · have hi : i ∉ vs := fun q => by
      have z := plain_own (pl i q) h
      cases z
    obtain ⟨⟨d', h1⟩, h2⟩ := a.io i d (by rw [(wipeE_get en vs i).1 hi]; exact h)
    exact ⟨⟨d', by rw [out i hi]; exact h1⟩, rfl⟩
end

/-- no error leaves it -/
def nox {α : Type} (m : M α) : M α := fun en => match m en with
  | .ok a en' => .ok a en'
  | _ => .bad
def blk {α : Type} (vs : List Nat) (m : M α) : M α := fun en => if wipeable en vs = true then (match m (wipeE en vs) with
  | .ok a en' => .ok a (restE en en' vs)
  | _ => .bad) else .bad
def wp (vs : List Nat) : M Unit := fun en => if wipeable en vs = true then .ok () (wipeE en vs) else .bad
def compL (vs : List Nat) (f : TgF) (t : M Bool) (e : M PyData) : List PyData → M (List PyData)
  | [] => ret []
  | d :: ds => bnd (f d) fun fl => match fl with
    | .nx => bnd t fun b => if b = true then bnd e (fun y => bnd (wp vs) fun _ => bnd (compL vs f t e ds) fun ys => ret (y :: ys)) else bnd (wp vs) fun _ => compL vs f t e ds
    | _ => fail
/-- one turn -/
def stepC (vs : List Nat) (f : TgF) (t : M Bool) (e : M PyData) (d : PyData) : M (Option PyData) := bnd (f d) fun fl => match fl with
  | .nx => bnd t fun b => if b = true then bnd e (fun y => bnd (wp vs) fun _ => ret (some y)) else bnd (wp vs) fun _ => ret none
  | _ => fail
theorem compL_cons (vs : List Nat) (f : TgF) (t : M Bool) (e : M PyData) (d : PyData) (ds : List PyData) (en : En) :
    compL vs f t e (d :: ds) en = bnd (stepC vs f t e d) (fun oy => bnd (compL vs f t e ds) fun ys => ret (oy.toList ++ ys)) en := by
  rw [compL]
  unfold stepC bnd
  cases f d en with
  | bad => rfl
  | err c e2 => rfl
  | ok fl e2 =>
    cases fl with
    | nx =>
      dsimp only
      cases t e2 with
      | bad => rfl
      | err c e3 => rfl
      | ok b e3 =>
        cases b with
        | true =>
          simp only [if_true]
          cases e e3 with
          | bad => rfl
          | err c e4 => rfl
          | ok y e4 =>
            dsimp only
            cases wp vs e4 with
            | bad => rfl
            | err c e5 => rfl
            | ok u e5 =>
              dsimp only [ret]
              cases compL vs f t e ds e5 with
              | bad => rfl
              | err c e6 => rfl
              | ok ys e6 => rfl
        | false =>
          simp only [Bool.false_eq_true, if_false]
          cases wp vs e3 with
          | bad => rfl
          | err c e5 => rfl
          | ok u e5 =>
            dsimp only [ret]
            cases compL vs f t e ds e5 with
            | bad => rfl
            | err c e6 => rfl
            | ok ys e6 => rfl
    | rt x => rfl
    | bk => rfl
    | ct => rfl
def Cont (r full : Res (List PyData)) (dn : List PyData) : Prop := match r with
  | .ok ys en' => full = .ok (dn ++ ys) en'
  | _ => False
/-- [e for f in m if t] -/
def mcomp (vs : List Nat) (m : M (List PyData)) (f : TgF) (t : M Bool) (e : M PyData) : M Vl := bnd m fun ds => if ds.length ≤ 1000000 then bnd (blk vs (compL vs f t e ds)) (fun ys => ret (.ow (.list ys))) else fail
def mtrue : M Bool := ret true
def tTs (k : Kx) (E : Wish) (m : M Bool) : TT := tT k E m
abbrev GTs (T : List Addr) (E : Wish) (X : Cx) (es : List Expr) (m : M Bool) : Prop := PTs X es (tT ⟨X.K, T⟩ E m)
theorem gts_nil {T : List Addr} {E : Wish} {X : Cx} : GTs T E X [] mtrue := ⟨fun pins s sg H Q I ⟨en, Z, r, q⟩ => (pts_nil (X := X)).run pins s sg H Q I (post_ret (a := true) r q)⟩
theorem gts_one {T : List Addr} {E : Wish} {X : Cx} {c : Expr} {m : M Bool} (h : GT T E X c m) : GTs T E X [c] m := pts_one h

section
variable {k : Kx} {E : Wish} {sg : L2.St} {H H' Z Z' : Hp} {en en' : En} {vs : List Nat} {α β : Type}
theorem postsW {m : M α} {P : α → En → L2.St → Hp → Hp → Prop} (h : PostS k W0 sg H Z en (m en) P) : PostS k E sg H Z en (m en) P := by
  cases q : m en with
  | ok a e => rw [q] at h; exact h
  | err c e => rw [q] at h; exact fun sg' H' Z' a => (h sg' H' Z' a).elim
  | bad => rw [q] at h; exact h
/-- the names of the block are forgotten again -/
theorem wp_ok {P : Unit → En → L2.St → Hp → Hp → Prop} (r : Rel k sg H Z en) (h : PostS k E sg H Z en (wp vs en) P) : wipeable en vs = true ∧ P () (wipeE en vs) (wipe sg vs) H Z := by
  unfold wp at h
  by_cases hw : wipeable en vs = true
  · rw [if_pos hw] at h
    exact ⟨hw, h _ _ _ (aft_wipe r hw)⟩
  · rw [if_neg hw] at h
    exact h.elim
end

section
variable {T : List Addr} {E : Wish} {X : Cx} {elt tg iter : Expr} {ifs : List Expr} {scope : Scope} {pos : Pos}
theorem pos_lt {n m : Nat} (h : n ≤ m) (h2 : m < 1000000) : n < sizeLine := by rw [sizeLine_eq]; omega
theorem tLc_ok {own : List (Str × Nat)} {m : M (List PyData)} {f : TgF} {t : M Bool} {e : M PyData} {L : List Nat} (hL : ∀ i ∈ L, i ∈ own.map (·.2)) {sg : L2.St} {H : Hp} {Q : VK}
    (h : tV ⟨X.K, T⟩ E (mcomp (own.map (·.2)) m f t e) sg H Q) :
    tLc (tI ⟨X.K, T⟩ E m) (tG ⟨X.K, T⟩ W0 L f) (tT ⟨X.K, T⟩ W0 t) (tD ⟨X.K, T⟩ W0 e) (own.map (·.2)) sg H Q := by
  generalize hvs : own.map (·.2) = vs at h hL ⊢
  obtain ⟨en, Z, r, q⟩ := h
  refine ⟨en, Z, r, post_mono (post_bnd r q) fun ds en1 H1 Z1 _ ⟨a1, q1⟩ J hJ => ?_⟩
  by_cases hlen : ds.length ≤ 1000000
  · rw [if_pos hlen] at q1
    intro D hD
    unfold bnd blk at q1
    by_cases hw : wipeable en1 vs = true
    · rw [if_pos hw] at q1
      have aD : Aft ⟨X.K, T⟩ sg H1 Z1 en1 sg (upd H1 D (.lst [])) Z1 en1 := aft_new a1.rel hD
      have r0 : Rel ⟨X.K, T⟩ (wipe sg vs) (upd H1 D (.lst [])) Z1 (wipeE en1 vs) := rel_wipe aD.rel
      have hkD : ∀ a o, H1 a = some o → upd H1 D (.lst []) a = some o := fun a o h => by rw [upd_ne (ne_of_none h hD)]; exact h
      have hnD : ∀ a, upd H1 D (.lst []) a = none → H1 a = none := fun a h => by
        by_cases e : a = D
        · rw [e, upd_same] at h; cases h
        · rw [upd_ne e] at h; exact h
      have nD : ¬ Mine (wipe sg vs) (wipeE en1 vs) D := fun q => by
        obtain ⟨o, ho, _⟩ := mine_there a1.rel (mine_wipe q)
        rw [hD] at ho; cases ho
      have tD' : D ∉ T := fun q => by
        obtain ⟨⟨ps, hp, _⟩, _⟩ := a1.rel.tab D q
        rw [hD] at hp; cases hp
      -- the end
      have fin : ∀ (ys : List PyData) (en' : En) (H' Z' : Hp) (acc : List V), compL vs f t e ds (wipeE en1 vs) = .ok ys en' → Aft ⟨X.K, T⟩ (wipe sg vs) H1 Z1 (wipeE en1 vs) (wipe sg vs) H' Z' en' →
          H' D = some (.lst acc) → Z' D = none → ¬ Mine (wipe sg vs) en' D → DpAll X.K Z' acc ys → Q (.ref D) H' := by
        intro ys en' H' Z' acc hc ab hDl hDz hDm hacc
        rw [hc] at q1
        have b := blk_back a1.rel hw (fun _ _ h => h) (fun _ h => h) ab
        refine q1 H' Z' b (.ref D) ⟨D, rfl, hDz, .lst hDl hacc, fun q => ?_, free_back a1 hD⟩
        obtain ⟨i, s, h1, h2, h3⟩ := q
        by_cases hi : i ∈ vs
        · obtain ⟨e, _⟩ := (restE_get en1 en' vs i).2 hi s h1
          have z : isPlain en1[i]? = true := List.all_eq_true.mp hw i hi
          cases q0 : en1[i]? with
          | none => rw [q0] at z; cases z
          | some s0 =>
            rw [q0] at e
            have e : s = s0 := e
            have no := plain_own z q0
            rw [← e, h2] at no; cases no
        · exact hDm ⟨i, s, by rw [← (restE_get en1 en' vs i).1 hi]; exact h1, h2, by rw [(wipe_get sg vs i).1 hi]; exact h3⟩
      -- what stands between two turns
      have nb : compL vs f t e ds (wipeE en1 vs) = compL vs f t e ds (wipeE en1 vs) := rfl
      refine ⟨fun i m' H2 => m' = ds.length - i ∧ i ≤ ds.length ∧ ∃ en2 Z2 acc dn, Rel ⟨X.K, T⟩ (wipe sg vs) H2 Z2 en2 ∧ H2 D = some (.lst acc) ∧ Z2 D = none ∧ ¬ Mine (wipe sg vs) en2 D ∧ DpAll X.K Z2 acc dn ∧ dn.length ≤ i ∧
          (∀ a o, Z1 a = some o → Z2 a = some o) ∧ Aft ⟨X.K, T⟩ (wipe sg vs) H1 Z1 (wipeE en1 vs) (wipe sg vs) H2 Z2 en2 ∧
          Cont (compL vs f t e (ds.drop i) en2) (compL vs f t e ds (wipeE en1 vs)) dn, ⟨ds.length, by simp, Nat.zero_le _, wipeE en1 vs, Z1, [], [], r0, upd_same, aD.rel.sub D |> fun _ => (a1.rel.free hD), nD, .nil, Nat.le_refl _, fun _ _ h => h, aft_new (rel_wipe a1.rel) hD, ?_⟩, ?_⟩
      · rw [List.drop_zero]
        cases hc : compL vs f t e ds (wipeE en1 vs) with
        | ok ys en' => rfl
        | err c en' => rw [hc] at q1; exact q1
        | bad => rw [hc] at q1; exact q1
      · rintro i m' H2 ⟨rfl, hi', en2, Z2, acc, dn, r2, hDl, hDz, hDm, hacc, hdn, hz, a2, q2⟩
        by_cases hlt : i < ds.length
        · have hd : ds[i]? = some ds[i] := List.getElem?_eq_getElem hlt
          obtain ⟨hgo, hy⟩ := hJ.go (wipe sg vs) H2 Z2 en2 i _ r2 hz hd
          refine .inr ⟨hgo, fun H3 => ds.length - (i + 1) = ds.length - (i + 1) ∧ i + 1 ≤ ds.length ∧ ∃ en3 Z3 acc3 dn3, Rel ⟨X.K, T⟩ (wipe sg vs) H3 Z3 en3 ∧ H3 D = some (.lst acc3) ∧ Z3 D = none ∧ ¬ Mine (wipe sg vs) en3 D ∧ DpAll X.K Z3 acc3 dn3 ∧ dn3.length ≤ i + 1 ∧
            (∀ a o, Z1 a = some o → Z3 a = some o) ∧ Aft ⟨X.K, T⟩ (wipe sg vs) H1 Z1 (wipeE en1 vs) (wipe sg vs) H3 Z3 en3 ∧
            Cont (compL vs f t e (ds.drop (i + 1)) en3) (compL vs f t e ds (wipeE en1 vs)) dn3, fun H3 h => ⟨_, by omega, h⟩, fun x H3 hx => ?_⟩
          obtain ⟨Z3, a3, hdp⟩ := hy x H3 hx
          rw [List.drop_eq_getElem_cons hlt] at q2
          -- the turn as a reckoning
          rw [compL_cons] at q2
          have hall : PostS ⟨X.K, T⟩ W0 (wipe sg vs) H3 Z3 en2 (stepC vs f t e ds[i] en2) fun oy en' sg' H' Z' => Cont (compL vs f t e (ds.drop (i + 1)) en') (compL vs f t e ds (wipeE en1 vs)) (dn ++ oy.toList) := by
            unfold bnd at q2
            cases hst : stepC vs f t e ds[i] en2 with
            | bad => rw [hst] at q2; exact q2
            | err c e5 => rw [hst] at q2; exact q2.elim
            | ok oy e5 =>
              rw [hst] at q2
              dsimp only at q2
              intro sg' H' Z' _
              cases hc : compL vs f t e (ds.drop (i + 1)) e5 with
              | bad => rw [hc] at q2; exact q2
              | err c e6 => rw [hc] at q2; exact q2
              | ok ys e6 =>
                rw [hc] at q2
                have q2 : _ = Res.ok (dn ++ (oy.toList ++ ys)) e6 := q2
                show _ = Res.ok ((dn ++ oy.toList) ++ ys) e6
                rw [List.append_assoc]
                exact q2
          unfold stepC at hall
          refine ⟨en2, Z3, _, a3.rel, hdp, posts_mono (posts_bnd a3.rel hall) fun fl en4 sg4 H4 Z4 _ ⟨a4, q4⟩ he o4 => ?_⟩
          subst he
          refine ⟨(only_wipe o4 hL).trans wipe_wipe, en4, Z4, a4.rel, post_mono (posts_post (posts_bnd a4.rel q4)) fun b en5 H5 Z5 _ ⟨a5, q5⟩ => ?_⟩
          have hw4 : wipe sg4 vs = wipe sg vs := (only_wipe o4 hL).trans wipe_wipe
          have kD : ∀ {sgx : L2.St} {Hx Zx : Hp} {enx : En}, Aft ⟨X.K, T⟩ (wipe sg vs) H2 Z2 en2 sgx Hx Zx enx → Hx D = some (.lst acc) ∧ Zx D = none ∧ ¬ Mine sgx enx D := fun {sgx Hx Zx enx} ax => by
            refine ⟨ax.keep D _ hDl hDm tD', ?_, fun mq => ?_⟩
            · cases hzx : Zx D with
              | none => rfl
              | some o =>
                rcases ax.new D o hzx with z | z | z
                · rw [hDz] at z; cases z
                · rw [hDl] at z; cases z
                · exact (hDm z).elim
            · rcases ax.own D mq with z | z
              · exact hDm z
              · rw [hDl] at z; cases z
          cases b with
          | false =>
            have q5 : PostS ⟨X.K, T⟩ W0 sg4 H5 Z5 en5 (bnd (wp vs) (fun _ => ret none) en5) _ := q5
            obtain ⟨hw5, a6, q6⟩ := wp_ok a5.rel (posts_bnd a5.rel q5)
            rw [hw4] at a6 q6
            have hc := posts_ret (a := (none : Option PyData)) a6.rel q6
            rw [show (none : Option PyData).toList = [] from rfl, List.append_nil] at hc
            have aX := ((a3.trans a4 r2).trans a5 r2).trans a6 r2
            obtain ⟨d1, d2, d3⟩ := kD aX
            dsimp only
            rw [if_neg Bool.false_ne_true]
            refine ⟨rfl, hlt, wipeE en5 vs, Z5, acc, dn, a6.rel, d1, d2, d3, dpAll_mono aX.zz hacc, Nat.le_succ_of_le hdn, fun a o h => aX.zz a o (hz a o h), a2.trans aX (rel_wipe a1.rel), ?_⟩
            exact hc
          | true =>
            have q5 : PostS ⟨X.K, T⟩ W0 sg4 H5 Z5 en5 (bnd e (fun y => bnd (wp vs) fun _ => ret (some y)) en5) _ := q5
            dsimp only
            rw [if_pos rfl]
            refine ⟨en5, Z5, a5.rel, post_mono (posts_post (posts_bnd a5.rel q5)) fun y en6 H6 Z6 _ ⟨a6, q6⟩ v hv => ?_⟩
            obtain ⟨hw6, a7, q7⟩ := wp_ok a6.rel (posts_bnd a6.rel q6)
            rw [hw4] at a7 q7
            have hc := posts_ret (a := some y) a7.rel q7
            have aX := (((a3.trans a4 r2).trans a5 r2).trans a6 r2).trans a7 r2
            obtain ⟨d1, d2, d3⟩ := kD aX
            have al : acc.length = dn.length := dpa_length hacc
            have a27 := a2.trans aX (rel_wipe a1.rel)
            have r7 := a7.rel
            have up : ∀ a o, a ≠ D → H6 a = some o → upd H6 D (.lst (acc ++ [v])) a = some o := fun a o h e => by rw [upd_ne h]; exact e
            have r8 : Rel ⟨X.K, T⟩ (wipe sg vs) (upd H6 D (.lst (acc ++ [v]))) Z6 (wipeE en6 vs) := by
              refine ⟨fun a o h => up a o (fun z => by rw [z, d2] at h; cases h) (r7.sub a o h), fun j s h => ?_, r7.dis, fun P hP => ?_⟩
              · obtain ⟨w, hw, q⟩ := r7.sl j s h
                refine ⟨w, hw, ?_⟩
                have nb : ∀ b, isOwn s = true → w = some (.ref b) → b ≠ D := fun b ho hwb z => d3 ⟨j, s, h, ho, by rw [hw, hwb, z]⟩
                cases s with
                | no => trivial
                | sh d => exact q
                | ow d => obtain ⟨b, e1, h1, h2⟩ := q; exact ⟨b, e1, h1, h2.mono (fun o z => up b o (nb b rfl e1) z) fun _ _ z => z⟩
                | io d => obtain ⟨b, e1, h1, h2⟩ := q; exact ⟨b, e1, h1, h2.mono (fun o z => up b o (nb b rfl e1) z) fun _ _ z => z⟩
              · obtain ⟨⟨ps, h1, h2⟩, h3⟩ := r7.tab P hP
                exact ⟨⟨ps, up P _ (fun z => by rw [z] at hP; exact tD' hP) h1, h2⟩, h3⟩
            refine ⟨acc, d1, pos_lt (m := i) (by omega) (by omega), rfl, hlt, wipeE en6 vs, Z6, acc ++ [v], dn ++ [y], r8, upd_same, d2, d3, dpa_append (dpAll_mono aX.zz hacc) (.cons hv .nil), by rw [List.length_append, List.length_singleton]; omega, fun a o h => aX.zz a o (hz a o h), ?_, ?_⟩
            · exact ⟨r8, a27.zz, a27.new, fun a o h m tt => up a o (fun z => by rw [z, hD] at h; cases h) (a27.keep a o h m tt), a27.own, a27.io⟩
            · exact hc
        · have e : i = ds.length := by omega
          subst e
          rw [List.drop_of_length_le (Nat.le_refl _)] at q2
          refine .inl ⟨hJ.stop _ H2 Z2 en2 r2 hz, fin dn en2 H2 Z2 acc ?_ a2 hDl hDz hDm hacc⟩
          have q2 : _ = Res.ok (dn ++ []) en2 := q2
          rw [List.append_nil] at q2
          exact q2
    · rw [if_neg hw] at q1; exact q1.elim
  · rw [if_neg hlen] at q1; exact q1.elim
end
end ZD

namespace ZD
open PySem PySem.Spec PyProof.Rows L2 GxR ZG

section
variable {T : List Addr} {E : Wish} {X : Cx} {elt tg iter : Expr} {ifs : List Expr} {scope : Scope} {pos : Pos} {own : List (Str × Nat)} {m : M (List PyData)} {f : TgF} {t : M Bool} {e : M PyData} {L : List Nat}
theorem ge_lc (hL : L = own.map (·.2)) (hc : X.calm = true) (hN : X.N.Nodup) (hi : GI T E X tg iter m) (ok : BlkOk X.N X.env.scope scope own)
    (hg : ∀ (s : Shared) (H : Hp) (C : Addr) (cl : List (Str × Addr)) (fp : List Addr), GG T W0 (X.blk s H scope (compEnvC scope cl C X.env) fp) L tg f)
    (ht : ∀ (s : Shared) (H : Hp) (C : Addr) (cl : List (Str × Addr)) (fp : List Addr), GTs T W0 (X.blk s H scope (compEnvC scope cl C X.env) fp) ifs t)
    (he : ∀ (s : Shared) (H : Hp) (C : Addr) (cl : List (Str × Addr)) (fp : List Addr), GD T W0 (X.blk s H scope (compEnvC scope cl C X.env) fp) elt e) (hs : ∀ x, foldedSetIterable iter X.env x = pure x := by intro _; rfl) :
    GE T E X (.ListComp elt [⟨tg, iter, ifs, 0⟩] scope pos) (mcomp L m f t e) := by
  subst hL
  exact pe_imp (pe_lc hc hN hi ok hg ht he hs) fun sg H Q h => tLc_ok (fun i h => h) h
theorem tS_asgN {k : Kx} {i : Nat} {mv : M Vl} {D : Ends} {sg : L2.St} {H : Hp} (h : tS k E (asgN i mv) D sg H) : tV k E mv sg H fun v H1 => D.nx (sg.set i (some v)) H1 := by
  obtain ⟨en, Z, r, q⟩ := h
  refine ⟨en, Z, r, ?_⟩
  unfold asgN bnd at q
  cases hm : mv en with
  | ok x en1 =>
    rw [hm] at q
    intro H1 Z1 a1 v hv
    exact masg_ok a1 hv q
  | err c en1 => rw [hm] at q; exact fun H1 Z1 a1 => q sg H1 Z1 a1
  | bad => rw [hm] at q; exact q
theorem gs_setLc {i : Nat} {y : Str} {py spos : Pos} (hL : L = own.map (·.2)) (hc : X.calm = true) (hN : X.N.Nodup) (hy : X.N[i]? = some y) (hyl : X.env.scope.names.lookup y = some .local)
    (hsw : swapsWith (.ListComp elt [⟨tg, iter, ifs, 0⟩] scope pos) (some (.Name y py)) spos.line X.env = pure true) (hi : GI T E X tg iter m) (ok : BlkOk X.N X.env.scope scope own)
    (hg : ∀ (s : Shared) (H : Hp) (C : Addr) (cl : List (Str × Addr)) (fp : List Addr), GG T W0 (X.blk s H scope (compEnvC scope cl C X.env) fp) L tg f)
    (ht : ∀ (s : Shared) (H : Hp) (C : Addr) (cl : List (Str × Addr)) (fp : List Addr), GTs T W0 (X.blk s H scope (compEnvC scope cl C X.env) fp) ifs t)
    (he : ∀ (s : Shared) (H : Hp) (C : Addr) (cl : List (Str × Addr)) (fp : List Addr), GD T W0 (X.blk s H scope (compEnvC scope cl C X.env) fp) elt e) (hs : ∀ x, foldedSetIterable iter X.env x = pure x := by intro _; rfl) :
    GS T E X (.Assign [.Name y py] (.ListComp elt [⟨tg, iter, ifs, 0⟩] scope pos) spos) (asgN i (mcomp L m f t e)) := by
  subst hL
  exact ps_imp (ps_setLc hc hN hy hyl hsw hi ok hg ht he hs) fun D sg H h => tLc_ok (fun i h => h) (tS_asgN h)
end

/-! ### all, any of a generator expression -/
def allL (vs : List Nat) (f : TgF) (t : M Bool) (e : M PyData) : List PyData → M Bool
  | [] => ret true
  | d :: ds => bnd (stepC vs f t e d) fun oy => match oy with
    | none => allL vs f t e ds
    | some (.bool true) => allL vs f t e ds
    | some (.bool false) => ret false
    | _ => fail
def anyL (vs : List Nat) (f : TgF) (t : M Bool) (e : M PyData) : List PyData → M Bool
  | [] => ret false
  | d :: ds => bnd (stepC vs f t e d) fun oy => match oy with
    | none => anyL vs f t e ds
    | some (.bool false) => anyL vs f t e ds
    | some (.bool true) => ret true
    | _ => fail
def mall (vs : List Nat) (m : M (List PyData)) (f : TgF) (t : M Bool) (e : M PyData) : M PyData := bnd m fun ds => bnd (blk vs (allL vs f t e ds)) fun b => ret (.bool b)
def many (vs : List Nat) (m : M (List PyData)) (f : TgF) (t : M Bool) (e : M PyData) : M PyData := bnd m fun ds => bnd (blk vs (anyL vs f t e ds)) fun b => ret (.bool b)

theorem aft_tab {k : Kx} {sg : L2.St} {H H2 Z : Hp} {en : En} {P : Addr} (r : Rel k sg H Z en) (hP : P ∈ k.T) (h : Tabbed P H H2) : Aft k sg H Z en sg H2 Z en := by
  obtain ⟨hg, hb⟩ := h
  have zP : Z P = none := (r.tab P hP).2
  have up : ∀ a o, a ∉ k.T → H a = some o → H2 a = some o := fun a o n e => by rw [hb a (fun z => n (z ▸ hP))]; exact e
  refine ⟨⟨fun a o e => ?_, fun i s e => ?_, r.dis, fun P' hP' => ?_⟩, fun _ _ e => e, fun _ _ e => .inl e, fun a o e _ n => up a o n e, fun _ m => .inl m, fun i d e => ⟨⟨d, e⟩, rfl⟩⟩
  · rw [hb a (fun z => by rw [z, zP] at e; cases e)]; exact r.sub a o e
  · obtain ⟨v, hv, q⟩ := r.sl i s e
    refine ⟨v, hv, ?_⟩
    have go : ∀ a d, isOwn s = true → v = some (.ref a) → Own k.K H Z a d → Own k.K H2 Z a d := fun a d ho ha hd => by
      obtain ⟨_, _, n⟩ := mine_there r ⟨i, s, e, ho, by rw [hv, ha]⟩
      exact hd.mono (fun o => up a o n) fun _ _ z => z
    cases s with
    | no => trivial
    | sh d => exact q
    | ow d => obtain ⟨a, e1, h1, h2⟩ := q; exact ⟨a, e1, h1, go a d rfl e1 h2⟩
    | io d => obtain ⟨a, e1, h1, h2⟩ := q; exact ⟨a, e1, h1, go a d rfl e1 h2⟩
  · by_cases e : P' = P
    · rw [e]; exact ⟨hg, zP⟩
    · obtain ⟨⟨ps, h1, h2⟩, h3⟩ := r.tab P' hP'
      exact ⟨⟨ps, by rw [hb P' e]; exact h1, h2⟩, h3⟩

section
variable {T : List Addr} {E : Wish} {X : Cx} {elt tg iter : Expr} {ifs : List Expr} {scope : Scope} {own : List (Str × Nat)} {m : M (List PyData)} {f : TgF} {t : M Bool} {e : M PyData} {L : List Nat} {P : Addr}
/-- the two results of a turn, for all and any: go on (true), or end -/
theorem tGen_ok {vs : List Nat} (b0 : Bool) {lp : List PyData → M Bool} (h0 : lp [] = ret b0)
    (hl : ∀ d ds, lp (d :: ds) = bnd (stepC vs f t e d) fun oy => match oy with
      | none => lp ds
      | some (.bool b) => if b = b0 then lp ds else ret (!b0)
      | _ => fail)
    (hL : ∀ i ∈ L, i ∈ vs) (hP : P ∈ T) {sg : L2.St} {H : Hp} {Q : VK}
    (h : tD ⟨X.K, T⟩ E (bnd m fun ds => bnd (blk vs (lp ds)) fun b => ret (.bool b)) sg H Q) :
    tGen P (tI ⟨X.K, T⟩ E m) (tG ⟨X.K, T⟩ W0 L f) (tT ⟨X.K, T⟩ W0 t) (tD ⟨X.K, T⟩ W0 e) vs (fun y H Nx => ∃ b : Bool, y = .bl b ∧ if b = b0 then Nx H else Q (.bl (!b0)) H) (fun H => Q (.bl b0) H) sg H := by
  obtain ⟨en, Z, r, q⟩ := h
  refine ⟨en, Z, r, post_mono (post_bnd r q) fun ds en1 H1 Z1 _ ⟨a1, q1⟩ J hJ => ⟨(a1.rel.tab P hP).1, fun Ht htb => ?_⟩⟩
  have at1 := aft_tab a1.rel hP htb
  unfold bnd blk at q1
  by_cases hw : wipeable en1 vs = true
  · rw [if_pos hw] at q1
    have r0 : Rel ⟨X.K, T⟩ (wipe sg vs) H1 Z1 (wipeE en1 vs) := rel_wipe a1.rel
    have r0t : Rel ⟨X.K, T⟩ (wipe sg vs) Ht Z1 (wipeE en1 vs) := rel_wipe at1.rel
    have fin : ∀ (b : Bool) (en' : En) (H' Z' : Hp), lp ds (wipeE en1 vs) = .ok b en' → Aft ⟨X.K, T⟩ (wipe sg vs) Ht Z1 (wipeE en1 vs) (wipe sg vs) H' Z' en' → Q (.bl b) H' := by
      intro b en' H' Z' hc ab
      rw [hc] at q1
      have b' := blk_back at1.rel hw (fun _ _ h => h) (fun _ h => h) ab
      exact q1 H' Z' (at1.trans b' a1.rel) (.bl b) (.bl b)
    refine ⟨fun i m' H2 => m' = ds.length - i ∧ i ≤ ds.length ∧ ∃ en2 Z2, Rel ⟨X.K, T⟩ (wipe sg vs) H2 Z2 en2 ∧ (∀ a o, Z1 a = some o → Z2 a = some o) ∧ Aft ⟨X.K, T⟩ (wipe sg vs) Ht Z1 (wipeE en1 vs) (wipe sg vs) H2 Z2 en2 ∧
      lp ds (wipeE en1 vs) = lp (ds.drop i) en2 ∧ (∃ b en', lp (ds.drop i) en2 = .ok b en'), ⟨ds.length, by simp, Nat.zero_le _, wipeE en1 vs, Z1, r0t, fun _ _ h => h, Aft.refl r0t, rfl, ?_⟩, ?_⟩
    · rw [List.drop_zero]
      cases hc : lp ds (wipeE en1 vs) with
      | ok b en' => exact ⟨b, en', rfl⟩
      | err c en' => rw [hc] at q1; exact q1.elim
      | bad => rw [hc] at q1; exact q1.elim
    · rintro i m' H2 ⟨rfl, hi', en2, Z2, r2, hz, a2, hfull, b9, en9, hok⟩
      by_cases hlt : i < ds.length
      · have hd : ds[i]? = some ds[i] := List.getElem?_eq_getElem hlt
        obtain ⟨hgo, hy⟩ := hJ.go (wipe sg vs) H2 Z2 en2 i _ r2 hz hd
        refine .inr ⟨hgo, fun H3 => ds.length - (i + 1) = ds.length - (i + 1) ∧ i + 1 ≤ ds.length ∧ ∃ en3 Z3, Rel ⟨X.K, T⟩ (wipe sg vs) H3 Z3 en3 ∧ (∀ a o, Z1 a = some o → Z3 a = some o) ∧ Aft ⟨X.K, T⟩ (wipe sg vs) Ht Z1 (wipeE en1 vs) (wipe sg vs) H3 Z3 en3 ∧
          lp ds (wipeE en1 vs) = lp (ds.drop (i + 1)) en3 ∧ (∃ b en', lp (ds.drop (i + 1)) en3 = .ok b en'), fun H3 h => ⟨_, by omega, h⟩, fun x H3 hx => ?_⟩
        obtain ⟨Z3, a3, hdp⟩ := hy x H3 hx
        rw [List.drop_eq_getElem_cons hlt, hl] at hfull hok
        have hall : PostS ⟨X.K, T⟩ W0 (wipe sg vs) H3 Z3 en2 (stepC vs f t e ds[i] en2) fun oy en' sg' H' Z' => match oy with
            | none => lp ds (wipeE en1 vs) = lp (ds.drop (i + 1)) en' ∧ (∃ b en9, lp (ds.drop (i + 1)) en' = .ok b en9)
            | some (.bool b) => if b = b0 then (lp ds (wipeE en1 vs) = lp (ds.drop (i + 1)) en' ∧ (∃ b en9, lp (ds.drop (i + 1)) en' = .ok b en9)) else lp ds (wipeE en1 vs) = .ok (!b0) en'
            | _ => False := by
          unfold bnd at hfull hok
          cases hst : stepC vs f t e ds[i] en2 with
          | bad => rw [hst] at hok; cases hok
          | err c e5 => rw [hst] at hok; cases hok
          | ok oy e5 =>
            rw [hst] at hfull hok
            intro sg' H' Z' _
            cases oy with
            | none => exact ⟨hfull, b9, en9, hok⟩
            | some y =>
              cases y with
              | bool b =>
                by_cases hb : b = b0
                · simp only [hb, if_true] at hfull hok ⊢
                  exact ⟨hfull, b9, en9, hok⟩
                · simp only [hb, if_false] at hfull hok ⊢
                  exact hfull
              | _ => cases hok
        unfold stepC at hall
        refine ⟨en2, Z3, _, a3.rel, hdp, posts_mono (posts_bnd a3.rel hall) fun fl en4 sg4 H4 Z4 _ ⟨a4, q4⟩ he o4 => ?_⟩
        subst he
        have hw4 : wipe sg4 vs = wipe sg vs := (only_wipe o4 hL).trans wipe_wipe
        refine ⟨hw4, en4, Z4, a4.rel, post_mono (posts_post (posts_bnd a4.rel q4)) fun b en5 H5 Z5 _ ⟨a5, q5⟩ => ?_⟩
        cases b with
        | false =>
          have q5 : PostS ⟨X.K, T⟩ W0 sg4 H5 Z5 en5 (bnd (wp vs) (fun _ => ret none) en5) _ := q5
          obtain ⟨hw5, a6, q6⟩ := wp_ok a5.rel (posts_bnd a5.rel q5)
          rw [hw4] at a6 q6
          obtain ⟨hc1, hc2⟩ := posts_ret (a := (none : Option PyData)) a6.rel q6
          have aX := ((a3.trans a4 r2).trans a5 r2).trans a6 r2
          dsimp only
          rw [if_neg Bool.false_ne_true]
          exact ⟨rfl, hlt, wipeE en5 vs, Z5, a6.rel, fun a o h => aX.zz a o (hz a o h), a2.trans aX r0t, hc1, hc2⟩
        | true =>
          have q5 : PostS ⟨X.K, T⟩ W0 sg4 H5 Z5 en5 (bnd e (fun y => bnd (wp vs) fun _ => ret (some y)) en5) _ := q5
          dsimp only
          rw [if_pos rfl]
          refine ⟨en5, Z5, a5.rel, post_mono (posts_post (posts_bnd a5.rel q5)) fun y en6 H6 Z6 _ ⟨a6, q6⟩ v hv => ?_⟩
          obtain ⟨hw6, a7, q7⟩ := wp_ok a6.rel (posts_bnd a6.rel q6)
          rw [hw4] at a7 q7
          have hc := posts_ret (a := some y) a7.rel q7
          have aX := (((a3.trans a4 r2).trans a5 r2).trans a6 r2).trans a7 r2
          cases y with
          | bool b =>
            cases hv
            refine ⟨b, rfl, ?_⟩
            by_cases hb : b = b0
            · simp only [hb, if_true] at hc ⊢
              exact ⟨trivial, hlt, wipeE en6 vs, Z6, a7.rel, fun a o h => aX.zz a o (hz a o h), a2.trans aX r0t, hc.1, hc.2⟩
            · simp only [hb, if_false] at hc ⊢
              exact fin (!b0) _ H6 Z6 hc (a2.trans aX r0t)
          | _ => exact hc.elim
      · have e : i = ds.length := by omega
        subst e
        rw [List.drop_of_length_le (Nat.le_refl _), h0] at hfull
        exact .inl ⟨hJ.stop _ H2 Z2 en2 r2 hz, fin b0 en2 H2 Z2 hfull a2⟩
  · rw [if_neg hw] at q1; exact q1.elim

theorem allL_cons (vs : List Nat) (f : TgF) (t : M Bool) (e : M PyData) (d : PyData) (ds : List PyData) : allL vs f t e (d :: ds) = bnd (stepC vs f t e d) fun oy => match oy with
      | none => allL vs f t e ds
      | some (.bool b) => if b = true then allL vs f t e ds else ret (!true)
      | _ => fail := by
  rw [allL]
  congr 1
  funext oy
  cases oy with
  | none => rfl
  | some y =>
    cases y with
    | bool b => cases b <;> rfl
    | _ => rfl
theorem anyL_cons (vs : List Nat) (f : TgF) (t : M Bool) (e : M PyData) (d : PyData) (ds : List PyData) : anyL vs f t e (d :: ds) = bnd (stepC vs f t e d) fun oy => match oy with
      | none => anyL vs f t e ds
      | some (.bool b) => if b = false then anyL vs f t e ds else ret (!false)
      | _ => fail := by
  rw [anyL]
  congr 1
  funext oy
  cases oy with
  | none => rfl
  | some y =>
    cases y with
    | bool b => cases b <;> rfl
    | _ => rfl
variable {k : Nat} {c : Addr} {p pos gpos : Pos}
theorem gd_all (hL : L = own.map (·.2)) (hP : P ∈ T) (hr : Room (k + 2) X.A) (hN : X.N.Nodup) (hc : X.calm = true) (hgl : Gl X "all") (hm : X.mg "all" = none) (TB : TabB X.base X.mg c P) (hcode : X.env.code = .ref c)
    (hco : scope.isCoroutine = false) (h0 : scope.names.lookup (".0" : Str) = some NameKind.local) (ok : BlkOk X.N X.env.scope scope own) (hi : GI T E X tg iter m)
    (hg : ∀ (A : Around) (s : Shared) (H : Hp) (L' : Addr) (code : Value) (fp : List Addr), Room k A → GG T W0 (gcx X A s H scope (gxEnv X scope L' code) fp) L tg f)
    (ht : ∀ (A : Around) (s : Shared) (H : Hp) (L' : Addr) (code : Value) (fp : List Addr), Room k A → GTs T W0 (gcx X A s H scope (gxEnv X scope L' code) fp) ifs t)
    (he : ∀ (A : Around) (s : Shared) (H : Hp) (L' : Addr) (code : Value) (fp : List Addr), Room k A → GD T W0 (gcx X A s H scope (gxEnv X scope L' code) fp) elt e)
    (hs : ∀ v, genFold iter X.env v = pure v := by intro _; rfl) (hb : bootBuiltins "all" = some (.builtin "all") := by decide +kernel)
    (hse : starEach [.GeneratorExp elt [⟨tg, iter, ifs, 0⟩] scope gpos] X.env = (false, eval (.GeneratorExp elt [⟨tg, iter, ifs, 0⟩] scope gpos) X.env) :: starEach [] X.env := by rfl) :
    GD T E X (.Call (.Name "all" p) [.GeneratorExp elt [⟨tg, iter, ifs, 0⟩] scope gpos] [] pos) (mall L m f t e) := by
  subst hL
  refine pe_imp (pe_allG (own := own) (wi := tI ⟨X.K, T⟩ E m) (g := tG ⟨X.K, T⟩ W0 (own.map (·.2)) f) (tt := tT ⟨X.K, T⟩ W0 t) (te := tD ⟨X.K, T⟩ W0 e) hr hN hc hgl hm TB hcode hco h0 ok hi hg ht he hs hb hse) fun sg H Q h => ?_
  exact tGen_ok (X := X) true (lp := allL (own.map (·.2)) f t e) rfl (allL_cons _ f t e) (fun i h => h) hP h
theorem gd_any (hL : L = own.map (·.2)) (hP : P ∈ T) (hr : Room (k + 2) X.A) (hN : X.N.Nodup) (hc : X.calm = true) (hgl : Gl X "any") (hm : X.mg "any" = none) (TB : TabB X.base X.mg c P) (hcode : X.env.code = .ref c)
    (hco : scope.isCoroutine = false) (h0 : scope.names.lookup (".0" : Str) = some NameKind.local) (ok : BlkOk X.N X.env.scope scope own) (hi : GI T E X tg iter m)
    (hg : ∀ (A : Around) (s : Shared) (H : Hp) (L' : Addr) (code : Value) (fp : List Addr), Room k A → GG T W0 (gcx X A s H scope (gxEnv X scope L' code) fp) L tg f)
    (ht : ∀ (A : Around) (s : Shared) (H : Hp) (L' : Addr) (code : Value) (fp : List Addr), Room k A → GTs T W0 (gcx X A s H scope (gxEnv X scope L' code) fp) ifs t)
    (he : ∀ (A : Around) (s : Shared) (H : Hp) (L' : Addr) (code : Value) (fp : List Addr), Room k A → GD T W0 (gcx X A s H scope (gxEnv X scope L' code) fp) elt e)
    (hs : ∀ v, genFold iter X.env v = pure v := by intro _; rfl) (hb : bootBuiltins "any" = some (.builtin "any") := by decide +kernel)
    (hse : starEach [.GeneratorExp elt [⟨tg, iter, ifs, 0⟩] scope gpos] X.env = (false, eval (.GeneratorExp elt [⟨tg, iter, ifs, 0⟩] scope gpos) X.env) :: starEach [] X.env := by rfl) :
    GD T E X (.Call (.Name "any" p) [.GeneratorExp elt [⟨tg, iter, ifs, 0⟩] scope gpos] [] pos) (many L m f t e) := by
  subst hL
  refine pe_imp (pe_anyG (own := own) (wi := tI ⟨X.K, T⟩ E m) (g := tG ⟨X.K, T⟩ W0 (own.map (·.2)) f) (tt := tT ⟨X.K, T⟩ W0 t) (te := tD ⟨X.K, T⟩ W0 e) hr hN hc hgl hm TB hcode hco h0 ok hi hg ht he hs hb hse) fun sg H Q h => ?_
  have z := tGen_ok (X := X) false (lp := anyL (own.map (·.2)) f t e) rfl (anyL_cons _ f t e) (fun i h => h) hP h
  have ec : (fun (y : V) (H : Hp) (Nx : Hp → Prop) => ∃ b : Bool, y = .bl b ∧ if b = false then Nx H else Q (.bl (!false)) H) = cAny fun H => Q (.bl true) H := by
    funext y H Nx
    unfold cAny
    refine propext ⟨fun ⟨b, e, h⟩ => ⟨b, e, ?_⟩, fun ⟨b, e, h⟩ => ⟨b, e, ?_⟩⟩
    · cases b <;> exact h
    · cases b <;> exact h
  rw [ec] at z
  exact z
end
end ZD

namespace ZD
open PySem PySem.Spec PyProof.Rows L2 GxR ZG

/-! ### a def as a function of trees -/
abbrev Fn := List Sl → Res Vl
def run (n : Nat) (m : M Fl) (ps : List Sl) : Res Vl := match m (ps ++ List.replicate (n - ps.length) .no) with
  | .ok (.rt x) en => .ok x en
  | .ok .nx en => .ok (.sh .none) en
  | .ok _ _ => .bad
  | .err c en => .err c en
  | .bad => .bad
def okP : Sl → Bool
  | .sh _ => true
  | .io _ => true
  | _ => false
/-- the parameters behind the call: what is changed here has its new tree -/
def outP : List Sl → En → List Sl
  | .io d :: ps, en => (match en with
      | .io d' :: _ => .io d'
      | _ => .io d) :: outP ps en.tail
  | s :: ps, en => s :: outP ps en.tail
  | [], _ => []
theorem outP_len : ∀ (ps : List Sl) (en : En), (outP ps en).length = ps.length
  | [], _ => rfl
  | .io d :: ps, en => by simp [outP, outP_len ps]
  | .no :: ps, en => by simp [outP, outP_len ps]
  | .sh d :: ps, en => by simp [outP, outP_len ps]
  | .ow d :: ps, en => by simp [outP, outP_len ps]
theorem outP_get : ∀ (ps : List Sl) (en : En) (i : Nat) (s : Sl), (outP ps en)[i]? = some s → ∃ s0, ps[i]? = some s0 ∧ ((∃ d d', s0 = .io d ∧ s = .io d' ∧ (en[i]? = some (.io d') ∨ ∀ d'', en[i]? ≠ some (.io d''))) ∨ ((∀ d, s0 ≠ .io d) ∧ s = s0))
  | [], _, i, s, h => by simp [outP] at h
  | p :: ps, en, 0, s, h => by
    refine ⟨p, rfl, ?_⟩
    cases p with
    | io d =>
      cases en with
      | nil => simp [outP] at h; exact .inl ⟨d, d, rfl, h.symm, .inr fun _ z => by simp at z⟩
      | cons e en =>
        cases e with
        | io d' => simp [outP] at h; exact .inl ⟨d, d', rfl, h.symm, .inl rfl⟩
        | no => simp [outP] at h; exact .inl ⟨d, d, rfl, h.symm, .inr fun _ z => by simp at z⟩
        | sh x => simp [outP] at h; exact .inl ⟨d, d, rfl, h.symm, .inr fun _ z => by simp at z⟩
        | ow x => simp [outP] at h; exact .inl ⟨d, d, rfl, h.symm, .inr fun _ z => by simp at z⟩
    | no => simp [outP] at h; exact .inr ⟨(fun _ z => by cases z), h.symm⟩
    | sh d => simp [outP] at h; exact .inr ⟨(fun _ z => by cases z), h.symm⟩
    | ow d => simp [outP] at h; exact .inr ⟨(fun _ z => by cases z), h.symm⟩
  | p :: ps, en, i + 1, s, h => by
    have h' : (outP ps en.tail)[i]? = some s := by
      cases p <;> simpa [outP] using h
    obtain ⟨s0, h1, h2⟩ := outP_get ps en.tail i s h'
    refine ⟨s0, by simpa using h1, ?_⟩
    have e : en.tail[i]? = en[i + 1]? := by cases en <;> simp
    rw [e] at h2
    exact h2
/-- the promise of a def: called with ps it gives what F says -/
def spF (k : Kx) (np : Nat) (F : Fn) : Sp := fun vs H Q E => vs.length = np ∧ ∃ ps Z, ps.length = np ∧ ps.all okP = true ∧ Rel k (vs.map some) H Z ps ∧
  match F ps with
  | .ok x en' => ∀ v H' Z', Aft k (vs.map some) H Z ps (vs.map some) H' Z' (outP ps en') → VlOk k (vs.map some) H ps (vs.map some) H' Z' (outP ps en') v x → Q v H'
  | _ => False

section
variable {k : Kx} {H H' Z Z' : Hp} {ps : List Sl} {vs : List V} {N : List Str} {en' : En} {sg' : L2.St}
theorem start_get {i : Nat} (h : i < vs.length) : (start N vs)[i]? = (vs.map some)[i]? := by
  unfold L2.start
  rw [List.getElem?_append_left (by simpa using h)]
theorem ps_get {i : Nat} {n : Nat} {s : Sl} (h : (ps ++ List.replicate n Sl.no)[i]? = some s) : (i < ps.length ∧ ps[i]? = some s) ∨ (ps.length ≤ i ∧ i < ps.length + n ∧ s = .no) := by
  by_cases hi : i < ps.length
  · rw [List.getElem?_append_left hi] at h; exact .inl ⟨hi, h⟩
  · rw [List.getElem?_append_right (by omega), List.getElem?_replicate] at h
    split at h
    · cases h; exact .inr ⟨by omega, by omega, rfl⟩
    · cases h
theorem mine_ps {a : Addr} {n : Nat} (hl : ps.length = vs.length) (m : Mine (start N vs) (ps ++ List.replicate n .no) a) : Mine (vs.map some) ps a := by
  obtain ⟨i, s, h1, h2, h3⟩ := m
  rcases ps_get h1 with ⟨h4, h5⟩ | ⟨_, _, rfl⟩
  · exact ⟨i, s, h5, h2, by rw [← start_get (N := N) (by omega)]; exact h3⟩
  · cases h2
theorem rel_start (hl : ps.length = vs.length) (hN : vs.length ≤ N.length) (r : Rel k (vs.map some) H Z ps) : Rel k (start N vs) H Z (ps ++ List.replicate (N.length - ps.length) .no) where
  sub := r.sub
  sl := fun i s h => by
    rcases ps_get h with ⟨h4, h5⟩ | ⟨h4, h5, rfl⟩
    · obtain ⟨v, hv, q⟩ := r.sl i s h5
      exact ⟨v, by rw [start_get (by omega)]; exact hv, q⟩
    · refine ⟨none, ?_, trivial⟩
      unfold L2.start
      rw [List.getElem?_append_right (by simp; omega), List.getElem?_replicate, if_pos (by simp; omega)]
  dis := fun i j s t a h1 h2 h3 h4 h5 h6 => by
    rcases ps_get h1 with ⟨g1, g2⟩ | ⟨_, _, rfl⟩
    · rcases ps_get h2 with ⟨g3, g4⟩ | ⟨_, _, rfl⟩
      · rw [start_get (by omega)] at h5 h6
        exact r.dis i j s t a g2 g4 h3 h4 h5 h6
      · cases h4
    · cases h3
  tab := r.tab
theorem okP_io {s : Sl} (h : okP s = true) (ho : isOwn s = true) : ∃ d, s = .io d := by
  cases s with
  | io d => exact ⟨d, rfl⟩
  | no => cases ho
  | sh d => cases ho
  | ow d => cases h
/-- behind the body, as the caller sees it -/
theorem aft_out (hl : ps.length = vs.length) (hN : vs.length ≤ N.length) (hp : ps.all okP = true) (r : Rel k (vs.map some) H Z ps) (a : Aft k (start N vs) H Z (ps ++ List.replicate (N.length - ps.length) .no) sg' H' Z' en') :
    Aft k (vs.map some) H Z ps (vs.map some) H' Z' (outP ps en') ∧ ∀ b, Mine (vs.map some) (outP ps en') b → Mine sg' en' b := by
  have key : ∀ (i : Nat) (s : Sl), (outP ps en')[i]? = some s → (∃ d d', ps[i]? = some (.io d) ∧ s = .io d' ∧ en'[i]? = some (.io d') ∧ sg'[i]? = (vs.map some)[i]?) ∨ (isOwn s = false ∧ ps[i]? = some s) := fun i s h => by
    obtain ⟨s0, h1, h2⟩ := outP_get ps en' i s h
    have hi : i < ps.length := (List.getElem?_eq_some_iff.mp h1).1
    rcases h2 with ⟨d, d', rfl, rfl, h3⟩ | ⟨h3, rfl⟩
    · have hio : (ps ++ List.replicate (N.length - ps.length) Sl.no)[i]? = some (.io d) := by rw [List.getElem?_append_left hi]; exact h1
      obtain ⟨⟨d'', h4⟩, h5⟩ := a.io i d hio
      rw [start_get (by omega)] at h5
      rcases h3 with h3 | h3
      · exact .inl ⟨d, d', h1, rfl, h3, h5⟩
      · exact absurd h4 (h3 d'')
    · refine .inr ⟨?_, h1⟩
      have ho := List.all_eq_true.mp hp s (List.mem_of_getElem? h1)
      cases hs : isOwn s with
      | false => rfl
      | true =>
        obtain ⟨d, e⟩ := okP_io ho hs
        exact absurd e (h3 d)
  have mo : ∀ b, Mine (vs.map some) (outP ps en') b → Mine sg' en' b := fun b ⟨i, s, h1, h2, h3⟩ => by
    rcases key i s h1 with ⟨d, d', _, rfl, h6, h7⟩ | ⟨h4, _⟩
    · exact ⟨i, _, h6, rfl, by rw [h7]; exact h3⟩
    · rw [h4] at h2; cases h2
  refine ⟨⟨⟨a.rel.sub, fun i s h => ?_, fun i j s t b h1 h2 h3 h4 h5 h6 => ?_, a.rel.tab⟩, a.zz, fun b o h => ?_, fun b o h m t => a.keep b o h (fun q => m (mine_ps hl q)) t, fun b h => ?_, fun i d h => ?_⟩, mo⟩
  · rcases key i s h with ⟨d, d', _, rfl, h6, h7⟩ | ⟨h4, h5⟩
    · obtain ⟨v, hv, q⟩ := a.rel.sl i _ h6
      exact ⟨v, by rw [← h7]; exact hv, q⟩
    · obtain ⟨v, hv, q⟩ := r.sl i s h5
      refine ⟨v, hv, ?_⟩
      cases s with
      | no => trivial
      | sh d => obtain ⟨x, e, q⟩ := q; exact ⟨x, e, dp_mono a.zz q⟩
      | ow d => cases h4
      | io d => cases h4
  · rcases key i s h1 with ⟨d, d', _, rfl, h7, h8⟩ | ⟨h7, _⟩
    · rcases key j t h2 with ⟨e, e', _, rfl, h9, h10⟩ | ⟨h9, _⟩
      · exact a.rel.dis i j _ _ b h7 h9 rfl rfl (by rw [h8]; exact h5) (by rw [h10]; exact h6)
      · rw [h9] at h4; cases h4
    · rw [h7] at h3; cases h3
  · rcases a.new b o h with q | q | q
    · exact .inl q
    · exact .inr (.inl q)
    · exact .inr (.inr (mine_ps hl q))
  · rcases a.own b (mo b h) with q | q
    · exact .inl (mine_ps hl q)
    · exact .inr q
  · have hi : i < ps.length := (List.getElem?_eq_some_iff.mp h).1
    have hlt : i < (outP ps en').length := by rw [outP_len]; exact hi
    have hg := List.getElem?_eq_getElem hlt
    rcases key i _ hg with ⟨_, d', _, e, _, _⟩ | ⟨h4, h5⟩
    · exact ⟨⟨d', by rw [hg, e]⟩, rfl⟩
    · rw [h] at h5
      rw [← Option.some.inj h5] at h4
      cases h4
end

section
variable {P : Program} {w : World} {K : PySem.W.Frag} {mg : Str → Option Value} {base : Heap} {T : List Addr}
/-- THE RULE for a def: its body gives its function -/
theorem fn_ok {x qual : Str} {st : Stmt} {f : Addr} {fd : FuncData} {N ps : List Str} {k : Nat} {m : M Fl} (F : Fun K x qual st f fd) (S : FnScope N ps (defScope st))
    (hb : ∀ (cdv : Value) (A : Around) (outer : List Env) (s : Shared) (H : Hp) (E : XK), PySem.W.codeIn K cdv qual = true → Room k (A.deeper (envOfC qual (defScope st) s.heap.objs.size f cdv)) →
      GSs T W0 (cxOf CX0 P w K mg base N qual (defScope st) f cdv A outer s H E).nox (defBody st) m) :
    FnOk P w K mg base CX0 (k + 1) f fd ps (spF ⟨K, T⟩ ps.length (run N.length m)) := by
  obtain ⟨oc, od, kV, doc, pm, an, cdv, ct, osl, rfl, lk, hcd⟩ := F.ex
  refine fn_of lk hcd S (fun vs H Q E h => h.1) fun A outer s H vs Q E hr hsp => ?_
  refine ⟨_, (hb cdv A outer s H E hcd hr).nox, ?_⟩
  obtain ⟨hl, pp, Z, hpl, hok, r, q⟩ := hsp
  have hN : vs.length ≤ N.length := by
    have e := congrArg List.length S.pre
    rw [List.length_take] at e
    omega
  have e1 : pp.length = vs.length := by omega
  refine ⟨_, Z, rel_start e1 hN r, ?_⟩
  unfold run at q
  cases hm : m (pp ++ List.replicate (N.length - pp.length) .no) with
  | bad => rw [hm] at q; exact q
  | err c en => rw [hm] at q; exact q.elim
  | ok fl en =>
    rw [hm] at q
    intro sg' H' Z' a
    obtain ⟨a2, mo⟩ := aft_out e1 hN hok r a
    cases fl with
    | nx => exact q .non H' Z' a2 .non
    | bk => exact q.elim
    | ct => exact q.elim
    | rt y =>
      intro v hv
      refine q v H' Z' a2 ?_
      cases y with
      | sh d => exact hv
      | ow d =>
        obtain ⟨p, h1, h2, h3, h4, h5⟩ := hv
        exact ⟨p, h1, h2, h3, fun z => h4 (mo p z), h5.imp id (mine_ps e1)⟩
end

/-! ### a def is called -/
def mcall (np : Nat) (F : Fn) (ms : M (List PyData)) : M Vl := bnd ms fun ds en => if ds.length = np then (match F (ds.map .sh) with
  | .ok x _ => .ok x en
  | _ => .bad) else .bad
/-- the first argument is a name whose thing is changed -/
def mcallI (np : Nat) (F : Fn) (i : Nat) (ms : M (List PyData)) : M Vl := fun en => if (en[i]?.map isOwn).getD false then bnd ms (fun ds en => if ds.length + 1 = np then (match en[i]? with
    | some (.ow d) => (match F (.io d :: ds.map .sh) with
      | .ok x (.io d' :: _) => .ok x (en.set i (.ow d'))
      | _ => .bad)
    | some (.io d) => (match F (.io d :: ds.map .sh) with
      | .ok x (.io d' :: _) => .ok x (en.set i (.io d'))
      | _ => .bad)
    | _ => .bad) else .bad) en else .bad

section
variable {T : List Addr} {E : Wish} {X : Cx} {f : Addr} {fd : FuncData} {ps : List Str} {x : Str} {p pos : Pos} {e : Expr} {es : List Expr} {k : Nat} {np : Nat} {F : Fn}
theorem all_sh : ∀ ds : List PyData, (ds.map Sl.sh).all okP = true
  | [] => rfl
  | d :: ds => by rw [List.map_cons, List.all_cons, all_sh ds]; rfl
theorem rel_sh {kk : Kx} {sg : L2.St} {H Z : Hp} {en : En} {vs : List V} {ds : List PyData} (r : Rel kk sg H Z en) (h : DpAll kk.K Z vs ds) : Rel kk (vs.map some) H Z (ds.map .sh) where
  sub := r.sub
  sl := fun i s hi => by
    rw [List.getElem?_map] at hi
    cases q : ds[i]? with
    | none => rw [q] at hi; cases hi
    | some d =>
      rw [q] at hi
      cases hi
      obtain ⟨v, hv, hd⟩ := dpa_get h q
      exact ⟨some v, by rw [List.getElem?_map, hv]; rfl, v, rfl, hd⟩
  dis := fun i j s t a h1 h2 h3 h4 h5 h6 => by
    rw [List.getElem?_map] at h1
    cases q : ds[i]? with
    | none => rw [q] at h1; cases h1
    | some d => rw [q] at h1; cases h1; cases h3
  tab := r.tab
theorem mine_sh {vs : List V} {ds : List PyData} {a : Addr} : ¬ Mine (vs.map some) (ds.map Sl.sh) a := fun ⟨i, s, h1, h2, h3⟩ => by
  rw [List.getElem?_map] at h1
  cases q : ds[i]? with
  | none => rw [q] at h1; cases h1
  | some d => rw [q] at h1; cases h1; cases h2
theorem outP_sh : ∀ (ds : List PyData) (en : En), outP (ds.map Sl.sh) en = ds.map Sl.sh
  | [], _ => rfl
  | d :: ds, en => by simp [outP, outP_sh ds]
/-- the caller's state behind a call that changes nothing of its own -/
theorem aft_call {kk : Kx} {sg : L2.St} {H Z H' Z' : Hp} {en : En} {sp : L2.St} {ps ps' : List Sl} (r : Rel kk sg H Z en) (nm : ∀ a, ¬ Mine sp ps a) (a : Aft kk sp H Z ps sp H' Z' ps') : Aft kk sg H Z en sg H' Z' en := by
  have own : ∀ b, Mine sg en b → ∃ d o, Own kk.K H Z b d ∧ Own kk.K H' Z' b d ∧ Z' b = none := fun b m => by
    obtain ⟨hz, d, ho⟩ := r.mine m
    obtain ⟨o, h1, h2⟩ := mine_there r m
    refine ⟨d, o, ho, ho.mono (fun o' q => a.keep b o' q (nm b) h2) a.zz, ?_⟩
    cases q : Z' b with
    | none => rfl
    | some u =>
      rcases a.new b u q with z | z | z
      · rw [hz] at z; cases z
      · rw [h1] at z; cases z
      · exact (nm b z).elim
  refine ⟨⟨a.rel.sub, fun i s h => ?_, r.dis, a.rel.tab⟩, a.zz, fun b o h => ?_, fun b o h m t => a.keep b o h (nm b) t, fun b h => .inl h, fun i d h => ⟨⟨d, h⟩, rfl⟩⟩
  · obtain ⟨v, hv, q⟩ := r.sl i s h
    refine ⟨v, hv, ?_⟩
    cases s with
    | no => trivial
    | sh d => obtain ⟨y, e, q⟩ := q; exact ⟨y, e, dp_mono a.zz q⟩
    | ow d =>
      obtain ⟨b, e, h1, h2⟩ := q
      obtain ⟨_, h3, h4⟩ := mine_there r ⟨i, _, h, rfl, by rw [hv, e]⟩
      obtain ⟨_, _, _, _, h5⟩ := own b ⟨i, _, h, rfl, by rw [hv, e]⟩
      exact ⟨b, e, h5, h2.mono (fun o q => a.keep b o q (nm b) h4) a.zz⟩
    | io d =>
      obtain ⟨b, e, h1, h2⟩ := q
      obtain ⟨_, h3, h4⟩ := mine_there r ⟨i, _, h, rfl, by rw [hv, e]⟩
      obtain ⟨_, _, _, _, h5⟩ := own b ⟨i, _, h, rfl, by rw [hv, e]⟩
      exact ⟨b, e, h5, h2.mono (fun o q => a.keep b o q (nm b) h4) a.zz⟩
  · rcases a.new b o h with q | q | q
    · exact .inl q
    · exact .inr (.inl q)
    · exact (nm b q).elim
theorem call_post {sg : L2.St} {H : Hp} {Q : VK} {ms : M (List PyData)} (h : tV ⟨X.K, T⟩ E (mcall np F ms) sg H Q) :
    tA ⟨X.K, T⟩ E ms sg H fun vs H1 => spF ⟨X.K, T⟩ np F (vs ++ []) H1 Q E0 := by
  obtain ⟨en, Z, r, q⟩ := h
  refine ⟨en, Z, r, post_mono (post_bnd r q) fun ds en1 H1 Z1 _ ⟨a1, q1⟩ vs hvs => ?_⟩
  show spF ⟨X.K, T⟩ np F (vs ++ []) H1 Q E0
  rw [List.append_nil]
  by_cases hnp : ds.length = np
  · rw [if_pos hnp] at q1
    refine ⟨(dpa_length hvs).trans hnp, ds.map .sh, Z1, by rw [List.length_map]; exact hnp, all_sh ds, rel_sh a1.rel hvs, ?_⟩
    cases hF : F (ds.map .sh) with
    | bad => simp only [hF] at q1; exact q1.elim
    | err c en2 => simp only [hF] at q1; exact q1.elim
    | ok y en2 =>
      simp only [hF] at q1
      intro v H' Z' a hv
      have a2 := aft_call a1.rel (fun b => mine_sh) a
      refine q1 H' Z' a2 v ?_
      cases y with
      | sh d => exact hv
      | ow d =>
        obtain ⟨b, h1, h2, h3, h4, h5⟩ := hv
        have hb : H1 b = none := h5.resolve_right mine_sh
        refine ⟨b, h1, h2, h3, fun m => ?_, free_back a1 hb⟩
        obtain ⟨o, ho, _⟩ := mine_there a1.rel m
        rw [hb] at ho; cases ho
  · rw [if_neg hnp] at q1; exact q1.elim
theorem ge_call {ms : M (List PyData)} (G : FnOk X.prog X.w X.K X.mg X.base CX0 k f fd ps (spF ⟨X.K, T⟩ np F)) (hr : Room k X.A) (hg : Gl X x) (hm : X.mg x = some (.ref f)) (hk : PySem.W.keepIn X.K (.ref f) = true) (hb : Binds X.K fd ps [])
    (ha : GA T E X (e :: es) ms) (hdb : (x == ("__debug__" : Str)) = false := by decide) (he : starEach (e :: es) X.env = (false, eval e X.env) :: starEach es X.env := by rfl) (hpl : (backTo pos (starEach es X.env)).any (·.1) = false := by rfl) :
    GE T E X (.Call (.Name x p) (e :: es) [] pos) (mcall np F ms) :=
  pe_imp (pe_call G hr hg hm hk hb .nil pass0 ha hdb he hpl) fun sg H Q h => call_post h
theorem ge_call0 (G : FnOk X.prog X.w X.K X.mg X.base CX0 k f fd ps (spF ⟨X.K, T⟩ np F)) (hr : Room k X.A) (hg : Gl X x) (hm : X.mg x = some (.ref f)) (hk : PySem.W.keepIn X.K (.ref f) = true) (hb : Binds X.K fd ps [])
    (hdb : (x == ("__debug__" : Str)) = false := by decide) : GE T E X (.Call (.Name x p) [] [] pos) (mcall np F manil) :=
  pe_imp (pe_call0 G hr hg hm hk hb .nil pass0 hdb) fun sg H Q h => by
    obtain ⟨en, Z, r, q⟩ := call_post h
    exact post_ret r q [] .nil
/-- a name's thing is changed by the callee -/
theorem callI_post {sg : L2.St} {H : Hp} {Q : VK} {i : Nat} {ms : M (List PyData)} (h : tV ⟨X.K, T⟩ E (mcallI np F i ms) sg H Q) :
    tVar i sg H fun v H1 => tA ⟨X.K, T⟩ E ms sg H1 fun vs H2 => spF ⟨X.K, T⟩ np F ((v :: vs) ++ []) H2 Q E0 := by
  obtain ⟨en1, Z1, r, q⟩ := h
  unfold mcallI at q
  cases hi : en1[i]? with
  | none => rw [hi] at q; exact q.elim
  | some s00 =>
    cases ho : isOwn s00 with
    | false => rw [hi, Option.map_some, Option.getD_some, ho] at q; exact q.elim
    | true =>
    rw [hi, Option.map_some, Option.getD_some, ho, if_pos rfl] at q
    obtain ⟨v, hv⟩ : ∃ v, sg[i]? = some (some v) := by
      obtain ⟨u, hu, hs⟩ := r.sl i s00 hi
      cases s00 with
      | no => cases ho
      | sh d => cases ho
      | ow d => obtain ⟨a, e, _⟩ := hs; exact ⟨_, by rw [hu, e]⟩
      | io d => obtain ⟨a, e, _⟩ := hs; exact ⟨_, by rw [hu, e]⟩
    refine ⟨v, hv, en1, Z1, r, post_mono (post_bnd r q) fun ds en2 H2 Z2 _ ⟨a2, q2⟩ vs hvs => ?_⟩
    show spF ⟨X.K, T⟩ np F ((v :: vs) ++ []) H2 Q E0
    rw [List.append_nil]
    have a1 := Aft.refl r
    by_cases hnp : ds.length + 1 = np
    · rw [if_pos hnp] at q2
      -- the two kinds of places are alike
      have main : ∀ (d : PyData) (mk : PyData → Sl) (he : en2[i]? = some (mk d)) (hmk : mk = Sl.ow ∨ mk = Sl.io),
          (match F (.io d :: ds.map .sh) with
            | .ok x (.io d' :: _) => Post ⟨X.K, T⟩ E sg H2 Z2 en2 (.ok x (en2.set i (mk d'))) fun x en' H' Z' => ∀ v, VlOk ⟨X.K, T⟩ sg H en1 sg H' Z' en' v x → Q v H'
            | _ => False) → spF ⟨X.K, T⟩ np F (v :: vs) H2 Q E0 := by
        intro d mk he hmk q3
        have own : isOwn (mk d) = true := by rcases hmk with rfl | rfl <;> rfl
        have r2 := a2.rel
        obtain ⟨a, hva, haz, hao⟩ : ∃ a, v = .ref a ∧ Z2 a = none ∧ Own X.K H2 Z2 a d := by
          obtain ⟨u, hu, hs⟩ := r2.sl i _ he
          rw [hv] at hu
          cases hu
          rcases hmk with rfl | rfl
          · obtain ⟨a, e, h1, h2⟩ := hs; cases e; exact ⟨a, rfl, h1, h2⟩
          · obtain ⟨a, e, h1, h2⟩ := hs; cases e; exact ⟨a, rfl, h1, h2⟩
        subst hva
        have hm0 : Mine sg en2 a := ⟨i, _, he, own, hv⟩
        obtain ⟨oa, hoa, hat⟩ := mine_there r2 hm0
        have hps : Rel ⟨X.K, T⟩ ((V.ref a :: vs).map some) H2 Z2 (.io d :: ds.map .sh) := by
          have rs := rel_sh r2 hvs
          refine ⟨r2.sub, fun l s hl => ?_, fun l1 l2 s t b h1 h2 h3 h4 h5 h6 => ?_, r2.tab⟩
          · cases l with
            | zero => cases hl; exact ⟨_, rfl, a, rfl, haz, hao⟩
            | succ l =>
              obtain ⟨u, hu, hs⟩ := rs.sl l s (by simpa using hl)
              exact ⟨u, by simpa using hu, hs⟩
          · cases l1 with
            | zero =>
              cases l2 with
              | zero => rfl
              | succ l2 => exact absurd ⟨l2, t, by simpa using h2, h4, by simpa using h6⟩ (mine_sh (vs := vs) (ds := ds) (a := b))
            | succ l1 => exact absurd ⟨l1, s, by simpa using h1, h3, by simpa using h5⟩ (mine_sh (vs := vs) (ds := ds) (a := b))
        have onlyA : ∀ b, Mine ((V.ref a :: vs).map some) (.io d :: ds.map .sh) b → b = a := fun b ⟨l, s, h1, h2, h3⟩ => by
          cases l with
          | zero => cases h3; rfl
          | succ l => exact absurd ⟨l, s, by simpa using h1, h2, by simpa using h3⟩ (mine_sh (vs := vs) (ds := ds) (a := b))
        refine ⟨by rw [List.length_cons, dpa_length hvs]; exact hnp, .io d :: ds.map .sh, Z2, by simp [hnp], by rw [List.all_cons, all_sh]; rfl, hps, ?_⟩
        cases hF : F (.io d :: ds.map .sh) with
        | bad => rw [hF] at q3; exact q3
        | err c en3 => rw [hF] at q3; exact q3
        | ok y en3 =>
          rw [hF] at q3
          cases en3 with
          | nil => exact q3.elim
          | cons s0 en3 =>
            cases s0 with
            | io d' =>
              intro v' H' Z' a3 hv'
              have e3 : outP (.io d :: ds.map .sh) (.io d' :: en3) = .io d' :: ds.map .sh := by simp [outP, outP_sh]
              rw [e3] at a3 hv'
              -- the caller's state
              have hii : i < en2.length := (List.getElem?_eq_some_iff.mp he).1
              obtain ⟨a', ha', haz', hao'⟩ : ∃ a', some (V.ref a) = some (V.ref a') ∧ Z' a' = none ∧ Own X.K H' Z' a' d' := by
                obtain ⟨u, hu, hs⟩ := a3.rel.sl 0 (.io d') rfl
                cases hu
                obtain ⟨b, e, h1, h2⟩ := hs
                exact ⟨b, e, h1, h2⟩
              cases ha'
              have own' : isOwn (mk d') = true := by rcases hmk with rfl | rfl <;> rfl
              have at_ : ∀ (l : Nat) (s : Sl), (en2.set i (mk d'))[l]? = some s → (l = i ∧ s = mk d') ∨ (l ≠ i ∧ en2[l]? = some s) := fun l s h => by
                by_cases e : l = i
                · rw [e, List.getElem?_set_self hii] at h; cases h; exact .inl ⟨e, rfl⟩
                · rw [List.getElem?_set_ne (Ne.symm e)] at h; exact .inr ⟨e, h⟩
              have mset : ∀ b, Mine sg (en2.set i (mk d')) b → Mine sg en2 b := fun b ⟨l, s, h1, h2, h3⟩ => by
                rcases at_ l s h1 with ⟨rfl, _⟩ | ⟨_, e⟩
                · exact ⟨l, _, he, own, h3⟩
                · exact ⟨l, s, e, h2, h3⟩
              have oth : ∀ b, Mine sg en2 b → b ≠ a → ∀ dd, Own X.K H2 Z2 b dd → Own X.K H' Z' b dd ∧ Z' b = none := fun b m hb dd ho => by
                obtain ⟨ob, hob, hbt⟩ := mine_there r2 m
                have nmb : ¬ Mine ((V.ref a :: vs).map some) (.io d :: ds.map .sh) b := fun z => hb (onlyA b z)
                refine ⟨ho.mono (fun o q => a3.keep b o q nmb hbt) a3.zz, ?_⟩
                cases q : Z' b with
                | none => rfl
                | some u =>
                  rcases a3.new b u q with z | z | z
                  · rw [(r2.mine m).1] at z; cases z
                  · rw [hob] at z; cases z
                  · exact absurd z nmb
              have aC : Aft ⟨X.K, T⟩ sg H2 Z2 en2 sg H' Z' (en2.set i (mk d')) := by
                refine ⟨⟨a3.rel.sub, fun l s h => ?_, fun l1 l2 s t b h1 h2 h3 h4 h5 h6 => ?_, a3.rel.tab⟩, a3.zz, fun b o h => ?_, fun b o h m t => a3.keep b o h (fun z => m ((onlyA b z) ▸ hm0)) t, fun b h => .inl (mset b h), fun l dd h => ?_⟩
                · rcases at_ l s h with ⟨rfl, rfl⟩ | ⟨hl, e⟩
                  · refine ⟨_, hv, ?_⟩
                    rcases hmk with rfl | rfl
                    · exact ⟨a, rfl, haz', hao'⟩
                    · exact ⟨a, rfl, haz', hao'⟩
                  · obtain ⟨u, hu, hs⟩ := r2.sl l s e
                    refine ⟨u, hu, ?_⟩
                    have go : ∀ b dd, isOwn s = true → u = some (.ref b) → Own X.K H2 Z2 b dd → Own X.K H' Z' b dd ∧ Z' b = none := fun b dd ho hub hd => by
                      refine oth b ⟨l, s, e, ho, by rw [hu, hub]⟩ (fun z => ?_) dd hd
                      exact hl (r2.dis l i s _ a e he ho own (by rw [hu, hub, z]) hv)
                    cases s with
                    | no => trivial
                    | sh dd => obtain ⟨y, e1, hd⟩ := hs; exact ⟨y, e1, dp_mono a3.zz hd⟩
                    | ow dd =>
                      obtain ⟨b, e1, h1, h2⟩ := hs
                      obtain ⟨g1, g2⟩ := go b dd rfl e1 h2
                      exact ⟨b, e1, g2, g1⟩
                    | io dd =>
                      obtain ⟨b, e1, h1, h2⟩ := hs
                      obtain ⟨g1, g2⟩ := go b dd rfl e1 h2
                      exact ⟨b, e1, g2, g1⟩
                · rcases at_ l1 s h1 with ⟨rfl, rfl⟩ | ⟨g1, e1⟩
                  · rcases at_ l2 t h2 with ⟨rfl, rfl⟩ | ⟨g2, e2⟩
                    · rfl
                    · exact r2.dis l1 l2 _ t b he e2 own h4 h5 h6
                  · rcases at_ l2 t h2 with ⟨rfl, rfl⟩ | ⟨g2, e2⟩
                    · exact r2.dis l1 l2 s _ b e1 he h3 own h5 h6
                    · exact r2.dis l1 l2 s t b e1 e2 h3 h4 h5 h6
                · rcases a3.new b o h with z | z | z
                  · exact .inl z
                  · exact .inr (.inl z)
                  · exact .inr (.inr ((onlyA b z) ▸ hm0))
                · by_cases hl : l = i
                  · subst hl
                    rw [he] at h
                    rcases hmk with rfl | rfl
                    · cases h
                    · exact ⟨⟨d', List.getElem?_set_self hii⟩, rfl⟩
                  · exact ⟨⟨dd, by rw [List.getElem?_set_ne (Ne.symm hl)]; exact h⟩, rfl⟩
              refine q3 H' Z' aC v' ?_
              cases y with
              | sh dd => exact hv'
              | ow dd =>
                obtain ⟨b, h1, h2, h3, h4, h5⟩ := hv'
                have hb : H2 b = none := by
                  rcases h5 with z | z
                  · exact z
                  · have e := onlyA b z
                    rw [e] at h4
                    exact absurd ⟨0, .io d', rfl, rfl, rfl⟩ h4
                refine ⟨b, h1, h2, h3, fun m => ?_, ?_⟩
                · obtain ⟨o, ho, _⟩ := mine_there r2 (mset b m)
                  rw [hb] at ho; cases ho
                · exact free_back (a1.trans a2 r) hb
            | no => exact q3.elim
            | sh _ => exact q3.elim
            | ow _ => exact q3.elim
      cases he : en2[i]? with
      | none => rw [he] at q2; exact False.elim q2
      | some s0 =>
        rw [he] at q2
        cases s0 with
        | no => exact False.elim q2
        | sh _ => exact False.elim q2
        | ow d =>
          refine main d .ow he (.inl rfl) ?_
          dsimp only at q2
          revert q2
          cases F (.io d :: ds.map .sh) with
          | bad => exact fun q => q
          | err c en3 => exact fun q => False.elim q
          | ok y en3 =>
            cases en3 with
            | nil => exact fun q => False.elim q
            | cons s1 en3 => cases s1 <;> first | exact fun q => q | exact fun q => False.elim q
        | io d =>
          refine main d .io he (.inr rfl) ?_
          dsimp only at q2
          revert q2
          cases F (.io d :: ds.map .sh) with
          | bad => exact fun q => q
          | err c en3 => exact fun q => False.elim q
          | ok y en3 =>
            cases en3 with
            | nil => exact fun q => False.elim q
            | cons s1 en3 => cases s1 <;> first | exact fun q => q | exact fun q => False.elim q
    · rw [if_neg hnp] at q2; exact q2.elim
theorem ge_callI {i : Nat} {y : Str} {py : Pos} {ms : M (List PyData)} (G : FnOk X.prog X.w X.K X.mg X.base CX0 k f fd ps (spF ⟨X.K, T⟩ np F)) (hr : Room k X.A) (hg : Gl X x) (hm : X.mg x = some (.ref f)) (hk : PySem.W.keepIn X.K (.ref f) = true) (hb : Binds X.K fd ps [])
    (hv : PE X (.Name y py) (tVar i)) (ha : GA T E X es ms) (hdb : (x == ("__debug__" : Str)) = false := by decide) (he : starEach (.Name y py :: es) X.env = (false, eval (.Name y py) X.env) :: starEach es X.env := by rfl) (hpl : (backTo pos (starEach (.Name y py :: es) X.env)).any (·.1) = false := by rfl) :
    GE T E X (.Call (.Name x p) (.Name y py :: es) [] pos) (mcallI np F i ms) :=
  pe_imp (pe_call G hr hg hm hk hb .nil pass0 (pa_cons hv ha rfl) hdb he hpl) fun sg H Q h => callI_post h
end
end ZD

namespace ZD
open PySem PySem.Spec PyProof.Rows L2 GxR ZG

theorem million : 1000000 ≤ sizeLine := by rw [sizeLine_eq]; decide
/-! ### whole numbers -/
def oInt (c : Int → Int → Bool) (g : Int → Int → Int) : PyData → PyData → Out
  | .int i, .int j => if c i j = true then .d (.int (g i j)) else .bad
  | _, _ => .bad
def oCmp (g : Int → Int → Bool) : PyData → PyData → Out
  | .int i, .int j => .d (.bool (g i j))
  | _, _ => .bad
section
variable {T : List Addr} {E : Wish} {X : Cx} {a b : Expr} {pos : Pos} {p q : M Od} {k : Nat}
theorem says_int {C : Int → Int → Prop} {c : Int → Int → Bool} {g : Int → Int → Int} (h : ∀ i j, c i j = true → C i j) : Says2 X.K (oInt c g) (rI C fun i j => .int (g i j)) := by
  intro H Z v w d e Q hz hv hw ho
  cases d with
  | int i =>
    cases e with
    | int j =>
      cases hv.int
      cases hw.int
      simp only [oInt] at ho
      by_cases hc : c i j = true
      · rw [if_pos hc] at ho
        exact ⟨i, j, rfl, rfl, h i j hc, ho _ (.int _)⟩
      · rw [if_neg hc] at ho; exact ho.elim
    | _ => exact False.elim ho
  | _ => exact False.elim ho
theorem says_int0 {g : Int → Int → Int} : Says2 X.K (oInt (fun _ _ => true) g) (rI0 fun i j => .int (g i j)) := by
  intro H Z v w d e Q hz hv hw ho
  cases d with
  | int i =>
    cases e with
    | int j =>
      cases hv.int
      cases hw.int
      exact ⟨i, j, rfl, rfl, (show OutOk X.K H Z Q (.d (.int (g i j))) from ho) _ (.int _)⟩
    | _ => exact False.elim ho
  | _ => exact False.elim ho
theorem says_cmp {g : Int → Int → Bool} : Says2 X.K (oCmp g) (rI0 fun i j => .bl (g i j)) := by
  intro H Z v w d e Q hz hv hw ho
  cases d with
  | int i =>
    cases e with
    | int j =>
      cases hv.int
      cases hw.int
      exact ⟨i, j, rfl, rfl, (show OutOk X.K H Z Q (.d (.bool (g i j))) from ho) _ (.bl _)⟩
    | _ => exact False.elim ho
  | _ => exact False.elim ho

/-! ### + -/
def oAdd : PyData → PyData → Out
  | .int i, .int j => .d (.int (i + j))
  | .str x, .str y => if x.length + y.length ≤ 1000000 then .d (.str (x ++ y)) else .bad
  | .list x, .list y => if x.length + y.length ≤ 1000000 then .nl (x ++ y) else .bad
  | .tuple x, .tuple y => if x.length + y.length ≤ 1000000 then .nt (x ++ y) else .bad
  | _, _ => .bad
def rCatL (K : PySem.W.Frag) : R2 := fun x y H Q => ∃ l b xs zs, x = .ref l ∧ y = .ref b ∧ SqL K H l xs ∧ SqL K H b zs ∧ xs.length + zs.length ≤ sizeLine ∧ ∀ p, H p = none → Q (.ref p) (upd H p (.lst (xs ++ zs)))
theorem op_catL : OpR X (binaryOp .Add) (rCatL X.K) := by
  intro pins s σ H x y v u Q I rx ry h
  obtain ⟨l, b, xs, zs, rfl, rfl, hH, hB, hz, q⟩ := h
  cases rx
  cases ry
  obtain ⟨its, r, ⟨⟨cls, dd, data, sl⟩, n, ho, hc, hd0, hd⟩, z⟩ := I.list hH
  obtain ⟨its2, r2, ⟨⟨cls2, dd2, data2, sl2⟩, n2, ho2, hc2, hd02, hd2⟩, z2⟩ := I.list hB
  simp only at hc hd hc2 hd2
  subst hc hd hc2 hd2
  have e : its.toArray ++ its2.toArray = (its ++ its2).toArray := by simp
  have hl := r.length
  have hl2 := r2.length
  refine concat_meets ⟨_, ho, rfl⟩ ⟨_, ho2, rfl⟩ noFill_list_add seq_list_add PySem.F.slot_list_add PySem.F.entry_list_add (PySem.F.args_list_add_2 _ _) (list_addW l b its.toArray its2.toArray n n2 dd dd2 sl sl2 (by simp only [List.size_toArray]; omega)) ⟨ho, ho2, ?_⟩
  rw [e]
  exact ⟨.ref _, _, I.lnew (t' := s.toks) (r.append r2) (by rw [List.length_append]; omega), rfl, q _ I.fresh⟩
def rAdd (K : PySem.W.Frag) : R2 := fun x y H Q => (rI0 (fun i j => .int (i + j)) x y H Q ∨ (∃ i j, x = .str i ∧ y = .str j ∧ i.length + j.length ≤ sizeLine ∧ Q (.str (i ++ j)) H)) ∨ (rCatL K x y H Q ∨ rCatA K x y H Q)
theorem op_addD : OpR X (binaryOp .Add) (rAdd X.K) := .or (.or op_add op_add_str) (.or op_catL op_catA)
theorem says_add : Says2 X.K oAdd (rAdd X.K) := by
  intro H Z v w d e Q hz hv hw ho
  have hm := million
  cases d with
  | int i =>
    cases e with
    | int j =>
      cases hv.int
      cases hw.int
      exact .inl (.inl ⟨i, j, rfl, rfl, (show OutOk X.K H Z Q (.d (.int (i + j))) from ho) _ (.int _)⟩)
    | _ => exact False.elim ho
  | str i =>
    cases e with
    | str j =>
      cases hv.str
      cases hw.str
      simp only [oAdd] at ho
      by_cases hc : i.length + j.length ≤ 1000000
      · rw [if_pos hc] at ho
        exact .inl (.inr ⟨i, j, rfl, rfl, by omega, ho _ (.str _)⟩)
      · rw [if_neg hc] at ho; exact ho.elim
    | _ => exact False.elim ho
  | list x =>
    cases e with
    | list y =>
      obtain ⟨l, xs, rfl, h1, h2⟩ := hv.list hz
      obtain ⟨b, ys, rfl, h3, h4⟩ := hw.list hz
      simp only [oAdd] at ho
      by_cases hc : x.length + y.length ≤ 1000000
      · rw [if_pos hc] at ho
        have e1 := dpa_length h2
        have e2 := dpa_length h4
        exact .inr (.inl ⟨l, b, xs, ys, rfl, rfl, h1, h3, by omega, fun p hp => ho p _ hp (dpa_append h2 h4)⟩)
      · rw [if_neg hc] at ho; exact ho.elim
    | _ => exact False.elim ho
  | tuple x =>
    cases e with
    | tuple y =>
      have hv0 := hv
      have hw0 := hw
      obtain ⟨l, xs, rfl, h1, h2⟩ := hv.tup hz
      obtain ⟨b, ys, rfl, h3, h4⟩ := hw.tup hz
      simp only [oAdd] at ho
      by_cases hc : x.length + y.length ≤ 1000000
      · rw [if_pos hc] at ho
        have e1 := dpa_length h2
        have e2 := dpa_length h4
        have dv : Dp X.K Z (.ref l) (.tuple x) := by rcases hv0 with z | ⟨a, _, z⟩; exact z; cases z
        have dw : Dp X.K Z (.ref b) (.tuple y) := by rcases hw0 with z | ⟨a, _, z⟩; exact z; cases z
        refine .inr (.inr ⟨l, b, xs, ys, rfl, rfl, h1, h3, by omega, fun z => ho.1 _ ?_, fun _ z => ho.1 _ ?_, fun _ _ p hp => ho.2 p _ hp (dpa_append h2 h4)⟩)
        · subst z
          cases h2
          exact dw
        · subst z
          cases h4
          rw [List.append_nil]
          exact dv
      · rw [if_neg hc] at ho; exact ho.elim
    | _ => exact False.elim ho
  | _ => exact False.elim ho
theorem ge_add (ha : GO T E X a p) (hb : GO T E X b q) : GE T E X (.BinOp a .Add b pos) (op2 oAdd p q) := ge_op2 ha hb (fun _ _ h1 h2 => pe_op op_addD h1 h2) says_add
def oSub := oInt (fun _ _ => true) (fun i j => i - j)
theorem ge_sub (ha : GO T E X a p) (hb : GO T E X b q) : GE T E X (.BinOp a .Sub b pos) (op2 oSub p q) := ge_op2 ha hb (fun _ _ h1 h2 => pe_op op_sub h1 h2) says_int0
def oMul := oInt (fun i j => decide (i.natAbs.log2 + j.natAbs.log2 < 1000000)) (fun i j => i * j)
theorem ge_mul (ha : GO T E X a p) (hb : GO T E X b q) : GE T E X (.BinOp a .Mult b pos) (op2 oMul p q) := ge_op2 ha hb (fun _ _ h1 h2 => pe_op op_mulW h1 h2) (says_int fun i j h => by have h2 := of_decide_eq_true h; exact h2)
def oDiv := oInt (fun i j => decide (0 < j ∧ j.natAbs.log2 < 9000)) (fun i j => i / j)
theorem ge_div (ha : GO T E X a p) (hb : GO T E X b q) : GE T E X (.BinOp a .FloorDiv b pos) (op2 oDiv p q) := ge_op2 ha hb (fun _ _ h1 h2 => pe_op op_fdivW h1 h2) (says_int fun i j h => by have h2 := of_decide_eq_true h; exact h2)
def oMod := oInt (fun i j => decide (0 < j)) (fun i j => i % j)
theorem ge_mod (ha : GO T E X a p) (hb : GO T E X b q) : GE T E X (.BinOp a .Mod b pos) (op2 oMod p q) := ge_op2 ha hb (fun _ _ h1 h2 => pe_op op_mod h1 h2) (says_int fun i j h => by have h2 := of_decide_eq_true h; exact h2)
def oPow := oInt (fun i j => decide (0 ≤ j ∧ j ≤ 1000000 ∧ i.natAbs < 2 ^ 64)) (fun i j => i ^ j.toNat)
theorem ge_pow (ha : GO T E X a p) (hb : GO T E X b q) : GE T E X (.BinOp a .Pow b pos) (op2 oPow p q) := ge_op2 ha hb (fun _ _ h1 h2 => pe_op op_pow h1 h2) (says_int fun i j h => by have h2 := of_decide_eq_true h; exact h2)
def oShr := oInt (fun i j => decide (0 ≤ j)) (fun i j => i / 2 ^ j.toNat)
theorem ge_shr (ha : GO T E X a p) (hb : GO T E X b q) : GE T E X (.BinOp a .RShift b pos) (op2 oShr p q) := ge_op2 ha hb (fun _ _ h1 h2 => pe_op op_shr h1 h2) (says_int fun i j h => by have h2 := of_decide_eq_true h; exact h2)
def oXor := oInt (fun _ _ => true) (fun i j => Builtin.bitXor i j)
theorem ge_xor (ha : GO T E X a p) (hb : GO T E X b q) : GE T E X (.BinOp a .BitXor b pos) (op2 oXor p q) := ge_op2 ha hb (fun _ _ h1 h2 => pe_op op_xor h1 h2) says_int0

/-! ### comparisons, as operations on two things -/
abbrev CmpOk (X : Cx) (op : CmpOp) (f : PyData → PyData → Out) : Prop := ∃ r : R2, OpR X (compareOp op) r ∧ Says2 X.K f r
def oEq : PyData → PyData → Out := fun d e => if (SeqAt.shaped d && SeqAt.shaped e) = true then .d (.bool (PyData.eqv d e)) else .bad
def oNe : PyData → PyData → Out := fun d e => if (SeqAt.shaped d && SeqAt.shaped e) = true then .d (.bool (!PyData.eqv d e)) else .bad
theorem shaped_nodict {d : PyData} (h : SeqAt.shaped d = true) : ∀ kv, d ≠ .dict kv := fun kv e => by
  subst e
  have := SeqAt.canLay_of_shaped h
  simp [PyData.canLay0] at this
theorem c_eq (hr : Room k X.A) : CmpOk X .Eq oEq := ⟨_, op_eqD hr.units, by
  intro H Z v w d e Q hz hv hw ho
  unfold oEq at ho
  by_cases hc : (SeqAt.shaped d && SeqAt.shaped e) = true
  · rw [if_pos hc] at ho
    rw [Bool.and_eq_true] at hc
    exact ⟨d, e, hv.dp hz (shaped_nodict hc.1), hw.dp hz (shaped_nodict hc.2), hc.1, hc.2, ho _ (.bl _)⟩
  · rw [if_neg hc] at ho; exact ho.elim⟩
theorem c_ne (hr : Room k X.A) : CmpOk X .NotEq oNe := ⟨_, op_neD hr.units, by
  intro H Z v w d e Q hz hv hw ho
  unfold oNe at ho
  by_cases hc : (SeqAt.shaped d && SeqAt.shaped e) = true
  · rw [if_pos hc] at ho
    rw [Bool.and_eq_true] at hc
    exact ⟨d, e, hv.dp hz (shaped_nodict hc.1), hw.dp hz (shaped_nodict hc.2), hc.1, hc.2, ho _ (.bl _)⟩
  · rw [if_neg hc] at ho; exact ho.elim⟩
def oOrd (g : Int → Int → Bool) (s : Str → Str → Bool) : PyData → PyData → Out
  | .int i, .int j => .d (.bool (g i j))
  | .str i, .str j => .d (.bool (s i j))
  | _, _ => .bad
theorem says_ord {g : Int → Int → Bool} {s : Str → Str → Bool} : Says2 X.K (oOrd g s) (fun x y H Q => rI0 (fun i j => .bl (g i j)) x y H Q ∨ ∃ i j, x = .str i ∧ y = .str j ∧ Q (.bl (s i j)) H) := by
  intro H Z v w d e Q hz hv hw ho
  cases d with
  | int i =>
    cases e with
    | int j =>
      cases hv.int
      cases hw.int
      exact .inl ⟨i, j, rfl, rfl, (show OutOk X.K H Z Q (.d (.bool (g i j))) from ho) _ (.bl _)⟩
    | _ => exact False.elim ho
  | str i =>
    cases e with
    | str j =>
      cases hv.str
      cases hw.str
      exact .inr ⟨i, j, rfl, rfl, (show OutOk X.K H Z Q (.d (.bool (s i j))) from ho) _ (.bl _)⟩
    | _ => exact False.elim ho
  | _ => exact False.elim ho
def sLt (i j : Str) : Bool := decide (i.cps.toList < j.cps.toList)
def oLt := oOrd (fun i j => decide (i < j)) (fun i j => sLt i j)
def oLe := oOrd (fun i j => decide (i ≤ j)) (fun i j => !sLt j i)
def oGt := oOrd (fun i j => decide (j < i)) (fun i j => sLt j i)
def oGe := oOrd (fun i j => decide (j ≤ i)) (fun i j => !sLt i j)
theorem c_lt : CmpOk X .Lt oLt := ⟨_, .or op_lt op_lt_str, says_ord⟩
theorem c_le : CmpOk X .LtE oLe := ⟨_, .or op_le op_le_str, says_ord⟩
theorem c_gt : CmpOk X .Gt oGt := ⟨_, .or op_gt op_gt_str, says_ord⟩
theorem c_ge : CmpOk X .GtE oGe := ⟨_, .or op_ge op_ge_str, says_ord⟩
/-- is: a truth value or none on the right -/
def oIs (n : Bool) : PyData → PyData → Out
  | .bool i, .bool j => .d (.bool (xor n (decide (i = j))))
  | .none, .none => .d (.bool (xor n true))
  | _, .none => .d (.bool (xor n false))
  | _, .bool _ => .d (.bool (xor n false))
  | _, _ => .bad
theorem top_non {K : PySem.W.Frag} {H Z : Hp} {v : V} {d : PyData} (h : Top K H Z v d) (n : d ≠ .none) : v ≠ .non := fun e => by
  subst e
  rcases h with h | ⟨a, e, _⟩
  · cases h; exact n rfl
  · cases e
/-- a value that is no truth value and no type -/
def NoBl (x : V) : Prop := x = .non ∨ (∃ i, x = .int i) ∨ (∃ z, x = .str z) ∨ ∃ a, x = .ref a
theorem nobl_rel {x : V} {v : Value} (h : NoBl x) (r : RelV x v) (j : Bool) : plainIs v (.bool j) = true ∧ v ≠ .bool j := by
  rcases h with rfl | ⟨i, rfl⟩ | ⟨z, rfl⟩ | ⟨a, rfl⟩
  · cases r; exact ⟨rfl, fun e => nomatch e⟩
  · obtain ⟨t, rfl⟩ := r; exact ⟨rfl, fun e => nomatch e⟩
  · obtain ⟨t, rfl⟩ := r; exact ⟨rfl, fun e => nomatch e⟩
  · cases r; exact ⟨rfl, fun e => nomatch e⟩
theorem op_isOth : OpR X (compareOp .Is) (fun x y H Q => ∃ j, NoBl x ∧ y = .bl j ∧ Q (.bl false) H) := by
  intro pins s σ H x y v u Q I rx ry h
  obtain ⟨j, nb, rfl, q⟩ := h
  obtain ⟨h1, h2⟩ := nobl_rel nb rx j
  cases (show u = Value.bool j from ry)
  exact wpAny_is_other h1 h2 ⟨.bl false, H, I, rfl, q⟩
theorem op_notOth : OpR X (compareOp .IsNot) (fun x y H Q => ∃ j, NoBl x ∧ y = .bl j ∧ Q (.bl true) H) := by
  intro pins s σ H x y v u Q I rx ry h
  obtain ⟨j, nb, rfl, q⟩ := h
  obtain ⟨h1, h2⟩ := nobl_rel nb rx j
  cases (show u = Value.bool j from ry)
  exact wpAny_isNot_other h1 h2 ⟨.bl true, H, I, rfl, q⟩
theorem nobl_top {K : PySem.W.Frag} {H Z : Hp} {v : V} {d : PyData} (h : Top K H Z v d) (n : ∀ b, d ≠ .bool b) : NoBl v := by
  rcases h with h | ⟨a, e, _⟩
  · cases h with
    | non => exact .inl rfl
    | bl b => exact absurd rfl (n b)
    | int i => exact .inr (.inl ⟨i, rfl⟩)
    | str z => exact .inr (.inr (.inl ⟨z, rfl⟩))
    | lst _ _ => exact .inr (.inr (.inr ⟨_, rfl⟩))
    | tup _ _ => exact .inr (.inr (.inr ⟨_, rfl⟩))
  · exact .inr (.inr (.inr ⟨a, e⟩))
theorem says_is {n : Bool} : Says2 X.K (oIs n) (fun x y H Q => ((∃ a b, x = .bl a ∧ y = .bl b ∧ Q (.bl (xor n (decide (a = b)))) H) ∨ (y = .non ∧ Q (.bl (xor n (decide (x = .non)))) H)) ∨ ∃ j, NoBl x ∧ y = .bl j ∧ Q (.bl (xor n false)) H) := by
  intro H Z v w d e Q hz hv hw ho
  cases e with
  | none =>
    cases hw.none
    refine .inl (.inr ⟨rfl, ?_⟩)
    cases d with
    | none =>
      cases hv.none
      exact (show OutOk X.K H Z Q (.d (.bool (xor n true))) from ho) _ (.bl _)
    | bool _ => rw [decide_eq_false (top_non hv (fun e => by cases e))]; exact (show OutOk X.K H Z Q (.d (.bool (xor n false))) from ho) _ (.bl _)
    | int _ => rw [decide_eq_false (top_non hv (fun e => by cases e))]; exact (show OutOk X.K H Z Q (.d (.bool (xor n false))) from ho) _ (.bl _)
    | str _ => rw [decide_eq_false (top_non hv (fun e => by cases e))]; exact (show OutOk X.K H Z Q (.d (.bool (xor n false))) from ho) _ (.bl _)
    | list _ => rw [decide_eq_false (top_non hv (fun e => by cases e))]; exact (show OutOk X.K H Z Q (.d (.bool (xor n false))) from ho) _ (.bl _)
    | tuple _ => rw [decide_eq_false (top_non hv (fun e => by cases e))]; exact (show OutOk X.K H Z Q (.d (.bool (xor n false))) from ho) _ (.bl _)
    | dict _ => rw [decide_eq_false (top_non hv (fun e => by cases e))]; exact (show OutOk X.K H Z Q (.d (.bool (xor n false))) from ho) _ (.bl _)
  | bool j =>
    cases hw.bool
    cases d with
    | bool i =>
      cases hv.bool
      exact .inl (.inl ⟨i, j, rfl, rfl, (show OutOk X.K H Z Q (.d (.bool (xor n (decide (i = j))))) from ho) _ (.bl _)⟩)
    | none => exact .inr ⟨j, nobl_top hv (fun b e => by cases e), rfl, (show OutOk X.K H Z Q (.d (.bool (xor n false))) from ho) _ (.bl _)⟩
    | int _ => exact .inr ⟨j, nobl_top hv (fun b e => by cases e), rfl, (show OutOk X.K H Z Q (.d (.bool (xor n false))) from ho) _ (.bl _)⟩
    | str _ => exact .inr ⟨j, nobl_top hv (fun b e => by cases e), rfl, (show OutOk X.K H Z Q (.d (.bool (xor n false))) from ho) _ (.bl _)⟩
    | list _ => exact .inr ⟨j, nobl_top hv (fun b e => by cases e), rfl, (show OutOk X.K H Z Q (.d (.bool (xor n false))) from ho) _ (.bl _)⟩
    | tuple _ => exact .inr ⟨j, nobl_top hv (fun b e => by cases e), rfl, (show OutOk X.K H Z Q (.d (.bool (xor n false))) from ho) _ (.bl _)⟩
    | dict _ => exact .inr ⟨j, nobl_top hv (fun b e => by cases e), rfl, (show OutOk X.K H Z Q (.d (.bool (xor n false))) from ho) _ (.bl _)⟩
  | _ => cases d <;> exact False.elim ho
theorem c_is : CmpOk X .Is (oIs false) := ⟨_, .or (.or op_isBl op_isN) op_isOth, by
  intro H Z v w d e Q hz hv hw ho
  have h := says_is (n := false) H Z v w d e Q hz hv hw ho
  simp only [Bool.false_xor] at h
  exact h⟩
theorem c_isnot : CmpOk X .IsNot (oIs true) := ⟨_, .or (.or op_notBl op_notN) op_notOth, by
  intro H Z v w d e Q hz hv hw ho
  have h := says_is (n := true) H Z v w d e Q hz hv hw ho
  simp only [Bool.true_xor] at h
  exact h⟩
/-- in: flat things of a list or tuple; a text of a text of one sign -/
def flatD : PyData → Bool
  | .none | .bool _ | .int _ | .str _ => true
  | _ => false
def inD (n : Bool) (d : PyData) (ds : List PyData) : Out := if (flatD d && ds.all flatD) = true then .d (.bool (xor n (ds.any fun y => PyData.eqv y d))) else .bad
def oIn (n : Bool) : PyData → PyData → Out
  | d, .list ds => inD n d ds
  | d, .tuple ds => inD n d ds
  | _, _ => .bad
theorem flat_v {K : PySem.W.Frag} {Z : Hp} {v : V} {d : PyData} (h : Dp K Z v d) (f : flatD d = true) : flatV v = true := by
  cases h <;> first | rfl | cases f
theorem flat_vs {K : PySem.W.Frag} {Z : Hp} : ∀ {vs : List V} {ds : List PyData}, DpAll K Z vs ds → ds.all flatD = true → vs.all flatV = true
  | _, _, .nil, _ => rfl
  | _, _, .cons h t, f => by
    rw [List.all_cons, Bool.and_eq_true] at f ⊢
    exact ⟨flat_v h f.1, flat_vs t f.2⟩
theorem eqv_flat {K : PySem.W.Frag} {Z : Hp} {v w : V} {d e : PyData} (h : Dp K Z v d) (h2 : Dp K Z w e) (f : flatD d = true) (g : flatD e = true) : eqV v w = PyData.eqv d e := by
  cases h with
  | lst _ _ => cases f
  | tup _ _ => cases f
  | _ =>
    cases h2 with
    | lst _ _ => cases g
    | tup _ _ => cases g
    | _ => simp only [eqV, PyData.eqv] <;> first | rfl | skip
theorem any_flat {K : PySem.W.Frag} {Z : Hp} {w : V} {e : PyData} (h2 : Dp K Z w e) (g : flatD e = true) : ∀ {vs : List V} {ds : List PyData}, DpAll K Z vs ds → ds.all flatD = true → inV w vs = ds.any fun y => PyData.eqv y e
  | _, _, .nil, _ => rfl
  | _, _, .cons h t, f => by
    rw [List.all_cons, Bool.and_eq_true] at f
    have ih := any_flat h2 g t f.2
    unfold inV at ih ⊢
    rw [List.any_cons, List.any_cons, ih, eqv_flat h h2 f.1 g]
theorem says_in {n : Bool} : Says2 X.K (oIn n) (rIn X.K n) := by
  intro H Z v w d e Q hz hv hw ho
  have fin : ∀ (ds : List PyData) (p : Addr) (xs : List V), w = .ref p → (SqL X.K H p xs ∨ SqT X.K H p xs) → DpAll X.K Z xs ds → OutOk X.K H Z Q (inD n d ds) → rIn X.K n v w H Q := fun ds p xs ew hs hd ho => by
    unfold inD at ho
    by_cases hc : (flatD d && ds.all flatD) = true
    · rw [if_pos hc] at ho
      rw [Bool.and_eq_true] at hc
      have nd : ∀ kv, d ≠ .dict kv := fun kv e => by subst e; cases hc.1
      have hvd := hv.dp hz nd
      have hd' := dpAll_mono hz hd
      refine ⟨p, xs, ew, hs, flat_v hvd hc.1, flat_vs hd' hc.2, ?_⟩
      have e1 := any_flat hvd hc.1 hd' hc.2
      have e2 : (if n = true then !inV v xs else inV v xs) = xor n (ds.any fun y => PyData.eqv y d) := by
        rw [e1]; cases n <;> simp
      rw [e2]
      exact ho _ (.bl _)
    · rw [if_neg hc] at ho; exact ho.elim
  cases e with
  | list ds =>
    obtain ⟨p, xs, ew, hs, hd⟩ := hw.list hz
    exact fin ds p xs ew (.inl hs) hd (by cases d <;> exact ho)
  | tuple ds =>
    obtain ⟨p, xs, ew, hs, hd⟩ := hw.tup hz
    exact fin ds p xs ew (.inr hs) hd (by cases d <;> exact ho)
  | _ => cases d <;> exact False.elim ho
theorem c_in : CmpOk X .In (oIn false) := ⟨_, op_in_seq, says_in⟩
theorem c_notin : CmpOk X .NotIn (oIn true) := ⟨_, op_notIn_seq, says_in⟩

theorem op2_imp {f : PyData → PyData → Out} {r : R2} {p q : M Od} {sg : L2.St} {H : Hp} {Q : VK} (hf : Says2 X.K f r) (h : tV ⟨X.K, T⟩ E (op2 f p q) sg H Q) : tOp r (tO ⟨X.K, T⟩ E p) (tO ⟨X.K, T⟩ E q) sg H Q := by
  obtain ⟨en, Z, r0, q⟩ := h
  exact ⟨en, Z, r0, post_mono (post_bnd r0 q) fun x en1 H1 Z1 _ ⟨a1, q1⟩ v hv => ⟨en1, Z1, a1.rel, post_mono (post_bnd a1.rel q1) fun y en2 H2 Z2 _ ⟨a2, q2⟩ w hw => by
    cases hl : look en2 x with
    | none => simp only [hl] at q2; exact q2.elim
    | some d =>
      cases hl2 : look en2 y with
      | none => simp only [hl, hl2] at q2; exact q2.elim
      | some d2 =>
        simp only [hl, hl2] at q2
        exact hf H2 Z2 v w d d2 Q a2.rel.sub (top_of a2.rel (od_mono a2 hv) hl) (top_of a2.rel hw hl2) (out_ok (sg0 := sg) a2.rel (a1.trans a2 r0) q2)⟩⟩
theorem gt_cmp {op : CmpOp} {f : PyData → PyData → Out} (c : CmpOk X op f) (ha : GO T E X a p) (hb : GO T E X b q) (hm : behindInMarks op b = false := by first | exact nomark _ | (with_unfolding_all rfl)) : GT T E X (.Compare a [op] [b] pos) (tst (fz (op2 f p q))) := by
  obtain ⟨r, ho, hs⟩ := c
  exact pt_imp (pt_cmpR ho ha hb hm) fun sg H Q q => op2_imp hs (fz_v (tst_ok q))
theorem ge_cmp {op : CmpOp} {f : PyData → PyData → Out} (c : CmpOk X op f) (ha : GO T E X a p) (hb : GO T E X b q) (hm : behindInMarks op b = false := by first | exact nomark _ | (with_unfolding_all rfl)) : GE T E X (.Compare a [op] [b] pos) (op2 f p q) := by
  obtain ⟨r, ho, hs⟩ := c
  exact ge_op2 ha hb (fun _ _ h1 h2 => pe_cmpR ho h1 h2 hm) hs
/-- a op b op' c: the middle is looked at once -/
def op2c (f g : PyData → PyData → Out) (p q w : M Od) : M Vl := bnd p fun x => bnd q fun y => fun en => match look en x, look en y with
  | some d, some e => (match f d e with
    | .d (.bool true) => bnd w (fun z => fun en => match look en y, look en z with
      | some e, some c => out (g e c) en
      | _, _ => .bad) en
    | .d (.bool false) => .ok (.sh (.bool false)) en
    | _ => .bad)
  | _, _ => .bad
theorem chain_imp {f g : PyData → PyData → Out} {r r' : R2} {w : M Od} {sg : L2.St} {H : Hp} {Q : VK} (hs : Says2 X.K f r) (hs' : Says2 X.K g r') (h : tV ⟨X.K, T⟩ E (op2c f g p q w) sg H Q) : tChain r r' (tO ⟨X.K, T⟩ E p) (tO ⟨X.K, T⟩ E q) (tO ⟨X.K, T⟩ E w) sg H Q := by
  obtain ⟨en, Z, r0, q⟩ := h
  refine ⟨en, Z, r0, post_mono (post_bnd r0 q) fun x en1 H1 Z1 _ ⟨a1, q1⟩ v hv => ⟨en1, Z1, a1.rel, post_mono (post_bnd a1.rel q1) fun y en2 H2 Z2 _ ⟨a2, q2⟩ u hu => ?_⟩⟩
  cases hl : look en2 x with
  | none => simp only [hl] at q2; exact q2.elim
  | some d =>
    cases hl2 : look en2 y with
    | none => simp only [hl, hl2] at q2; exact q2.elim
    | some d2 =>
      simp only [hl, hl2] at q2
      refine hs H2 Z2 v u d d2 _ a2.rel.sub (top_of a2.rel (od_mono a2 hv) hl) (top_of a2.rel hu hl2) ?_
      cases hf : f d d2 with
      | d o =>
        rw [hf] at q2
        cases o with
        | bool t =>
          intro z hz
          cases hz
          refine ⟨t, rfl, ?_⟩
          cases t with
          | true =>
            rw [if_pos rfl]
            refine ⟨en2, Z2, a2.rel, post_mono (post_bnd a2.rel q2) fun z en3 H3 Z3 _ ⟨a3, q3⟩ t ht => ?_⟩
            cases hl3 : look en3 y with
            | none => simp only [hl3] at q3; exact q3.elim
            | some d3 =>
              cases hl4 : look en3 z with
              | none => simp only [hl3, hl4] at q3; exact q3.elim
              | some d4 =>
                simp only [hl3, hl4] at q3
                exact hs' H3 Z3 u t d3 d4 Q a3.rel.sub (top_of a3.rel (od_mono a3 hu) hl3) (top_of a3.rel ht hl4) (out_ok (sg0 := sg) a3.rel ((a1.trans a2 r0).trans a3 r0) q3)
          | false =>
            rw [if_neg (by decide)]
            exact q2 H2 Z2 (Aft.refl a2.rel) (.bl false) (.bl false)
        | _ => exact False.elim q2
      | nl _ => rw [hf] at q2; exact False.elim q2
      | nt _ => rw [hf] at q2; exact False.elim q2
      | nd _ => rw [hf] at q2; exact False.elim q2
      | bad => rw [hf] at q2; exact False.elim q2
theorem ge_chain {op op' : CmpOp} {f g : PyData → PyData → Out} {c : Expr} {w : M Od} (c1 : CmpOk X op f) (c2 : CmpOk X op' g) (ha : GO T E X a p) (hb : GO T E X b q) (hc : GO T E X c w)
    (hm : lastMarks [op, op'] [b, c] = false := by with_unfolding_all rfl) : GE T E X (.Compare a [op, op'] [b, c] pos) (op2c f g p q w) := by
  obtain ⟨r, ho, hs⟩ := c1
  obtain ⟨r', ho', hs'⟩ := c2
  exact pe_imp (pe_chain ho ho' ha hb hc hm) fun sg H Q h => chain_imp hs hs' h
theorem gt_chain {op op' : CmpOp} {f g : PyData → PyData → Out} {c : Expr} {w : M Od} (c1 : CmpOk X op f) (c2 : CmpOk X op' g) (ha : GO T E X a p) (hb : GO T E X b q) (hc : GO T E X c w)
    (hm : lastMarks [op, op'] [b, c] = false := by with_unfolding_all rfl) : GT T E X (.Compare a [op, op'] [b, c] pos) (tst (fz (op2c f g p q w))) := by
  obtain ⟨r, ho, hs⟩ := c1
  obtain ⟨r', ho', hs'⟩ := c2
  exact pt_imp (pt_chain ho ho' ha hb hc hm) fun sg H Q h => chain_imp hs hs' (fz_v (tst_ok h))
end
end ZD

/-! sorted(..) of trees -/
namespace ZS
open PySem PySem.W PySem.Calls PyProof.Rows PySem.Spec

section
variable {prog : Program} {w : World} {A : Around} {E : Value → Shared → Prop} {s s1 : Shared} {vs : List Value} {ds : List PyData} {R : Value → PyData → Prop}
/-- the sort of a new list -/
theorem sort_new {Q : Value → Shared → Prop} (e : EachIs R vs ds) (er : EachIs (fun v d => ∃ as, Reads s1.heap v d as) vs ds) (hal : AllAlike ds) (hk : Sortable ds) (hL : ds.length ≤ sizeLine)
    (hu : ∀ d, d ∈ ds → A.units + 1 + d.depth < cLine) (h : ∀ out, out.length = ds.length → EachIs R out (ds.mergeSort (dataLe false fun d => d)) → Q .none { s1 with heap := sortedHeap (s1.heap.push (seqObj "list" vs.toArray 0)) s1.heap.objs.size vs (List.toArray out) }) :
    wpAny (model prog w) A (call (.builtin "list.sort") [.ref s1.heap.objs.size]) Q E { s1 with heap := s1.heap.push (seqObj "list" vs.toArray 0) } := by
  have eid : ds.map (fun d => d) = ds := List.map_id' ds
  have ho : (s1.heap.push (seqObj "list" vs.toArray 0)).get? s1.heap.objs.size = some (seqObj "list" vs.toArray 0) := Heap.get?_push_size _ rfl
  have er' : EachIs (fun v d => ∃ as, Reads (sortingHeap (s1.heap.push (seqObj "list" vs.toArray 0)) s1.heap.objs.size vs) v ((fun d => d) d) as) vs ds :=
    er.mono fun _ _ ⟨as, r⟩ => ⟨as, PyProof.Rows.Reads.keeps (fun b o q => sortingHeap_old (Nat.ne_of_lt (Heap.lt_size q)) (Heap.get?_push_of_some _ q)) r⟩
  refine wpAny_call_entry slot_list_sort ⟨_, ho, rfl⟩ entry_list_sort (list_sort_vals (κ := dataKind (sortingHeap (s1.heap.push (seqObj "list" vs.toArray 0)) s1.heap.objs.size vs) (ds.map fun d => d)) ho
    (SortsAt.data (s := { s1 with heap := sortingHeap (s1.heap.push (seqObj "list" vs.toArray 0)) s1.heap.objs.size vs }) (each_map (R := fun v d => ∃ as, Reads (sortingHeap (s1.heap.push (seqObj "list" vs.toArray 0)) s1.heap.objs.size vs) v d as) (fun d => d) er') (by rw [eid]; exact hal) (by rw [eid]; exact hk) (bound_map hu)) (by rw [e.length]; exact hL) ⟨.none, rfl, ?_⟩) (args_list_sort _)
  exact h _ (by rw [sortVals_length false rfl]; exact e.length) (sortVals_data false e er' (by rw [eid]; exact hal))
/-- sorted(v), v any thing whose items are collected -/
theorem sorted_of {v : Value} {Q : Value → Shared → Prop} {C : List Value → Shared → Prop} (hc : wpAny (model prog w) A.in1 (collect v) C E s) (hn : ∀ vs s1, C vs s1 → vs.length ≤ sizeLine)
    (h : ∀ vs s1, C vs s1 → wpAny (model prog w) A.in1 (call (.builtin "list.sort") [.ref s1.heap.objs.size]) (fun _ s' => Q (.ref s1.heap.objs.size) s') E { s1 with heap := s1.heap.push (seqObj "list" vs.toArray 0) }) :
    wpAny (model prog w) A (call (.builtin "sorted") [v]) Q E s := by
  refine call_function_entry kind_sorted plain_sorted entry_sorted (args_sorted1 _) ?_
  unfold Builtin.«sorted»
  refine wpAny_bind (m := checkCount "sorted" 1 1 _) (wpAny_pure ?_)
  refine wpAny_bind (wpAny_mono hc (fun vs s1 hv => ?_) fun _ _ e => e)
  refine wpAny_bind (wpAny_newList ?_ (hn vs s1 hv))
  refine wpAny_bind (wpAny_holding (wpAny_mono (h vs s1 hv) (fun _ s' x => ?_) fun _ _ e => e))
  exact wpAny_pure ⟨_, rfl, x⟩
end
end ZS

namespace ZD
open PySem PySem.Spec PyProof.Rows L2 GxR ZG
/-- trees that sorted() takes here -/
def sortOk (ds : List PyData) : Bool := (ds.all fun d => ds.all fun e => PySem.W.alike d e) && ((ds.all fun d => match d with | .tuple (_ :: _) => true | _ => false) || (ds.all fun d => match d with | .tuple _ => false | .none => false | _ => true)) && (ds.all fun d => decide (d.depth ≤ 64)) && decide (ds.length ≤ 1000000)
def sortD (ds : List PyData) : List PyData := ds.mergeSort (PySem.W.dataLe false fun d => d)
theorem sortOk_of {ds : List PyData} (h : sortOk ds = true) : PySem.W.AllAlike ds ∧ PySem.W.Sortable ds ∧ (∀ d ∈ ds, d.depth ≤ 64) ∧ ds.length ≤ 1000000 := by
  unfold sortOk at h
  simp only [Bool.and_eq_true, Bool.or_eq_true, List.all_eq_true, decide_eq_true_eq] at h
  obtain ⟨⟨⟨h1, h2⟩, h3⟩, h4⟩ := h
  refine ⟨fun d hd e he => h1 d hd e he, ?_, h3, h4⟩
  rcases h2 with h2 | h2
  · refine .inl fun d hd => ?_
    have := h2 d hd
    cases d with
    | tuple xs =>
      cases xs with
      | nil => cases this
      | cons x r => exact ⟨x, r, rfl⟩
    | _ => cases this
  · refine .inr fun d hd => ?_
    have := h2 d hd
    cases d with
    | tuple xs => cases this
    | none => cases this
    | _ => exact ⟨(fun e => by cases e), fun xs e => by cases e⟩
def ValDp (K : PySem.W.Frag) (Z : Hp) (u : Value) (d : PyData) : Prop := ∃ x, RelV x u ∧ Dp K Z x d
theorem each_of {K : PySem.W.Frag} {Z : Hp} : ∀ {vs : List V} {us : List Value} {ds : List PyData}, Vals vs us → DpAll K Z vs ds → PySem.W.EachIs (ValDp K Z) us ds
  | _, _, _, .nil, .nil => .nil
  | _, _, _, .cons r t, .cons h q => .cons ⟨_, r, h⟩ (each_of t q)
theorem of_each {K : PySem.W.Frag} {Z : Hp} : ∀ {us : List Value} {ds : List PyData}, PySem.W.EachIs (ValDp K Z) us ds → ∃ vs, Vals vs us ∧ DpAll K Z vs ds
  | _, _, .nil => ⟨[], .nil, .nil⟩
  | _, _, .cons ⟨x, r, h⟩ t => by
    obtain ⟨vs, h1, h2⟩ := of_each t
    exact ⟨x :: vs, .cons r h1, .cons h h2⟩
section
variable {X : Cx}
/-- sorted(xs) of a list or tuple -/
def rSortedD (K : PySem.W.Frag) : List V → Hp → VK → Prop := fun vs H Q => ∃ (a : Addr) (xs : List V) (ds : List PyData) (Z : Hp), (∀ a o, Z a = some o → H a = some o) ∧ vs = [V.ref a] ∧ (SqL K H a xs ∨ SqT K H a xs) ∧ DpAll K Z xs ds ∧ sortOk ds = true ∧
  ∀ (ys : List V) (p : Addr), DpAll K Z ys (sortD ds) → H p = none → Q (.ref p) (upd H p (.lst ys))
theorem cr_sortedD {k : Nat} (hr : Room k X.A) : CallR X (.builtin "sorted") (rSortedD X.K) := by
  intro pins s σ H vs us Q I r h
  obtain ⟨a, xs, ds, Z, hzh, rfl, hs, hd, hok, q⟩ := h
  rw [Vals.ref1 r]
  obtain ⟨hal, hk, hdep, hlen⟩ := sortOk_of hok
  have hmil : 1000000 ≤ sizeLine := by rw [sizeLine_eq]; decide
  obtain ⟨its, rv, hz, T, o, n, hT, ho, hc, hdat⟩ : ∃ its : List Value, Vals xs its ∧ xs.length ≤ sizeLine ∧ ∃ (T : String) (o : Obj) (n : Nat), (T = "list" ∨ T = "tuple") ∧ s.heap.get? a = some o ∧ o.cls = .type T ∧ o.data = .seq its.toArray n := by
    rcases hs with hs | hs
    · obtain ⟨its, rv, ⟨o, n, ho, hc, _, hdd⟩, hz⟩ := I.list hs
      exact ⟨its, rv, hz, "list", o, n, .inl rfl, ho, hc, hdd⟩
    · obtain ⟨its, rv, ⟨o, ho, hc, n, hdd⟩, hz⟩ := I.tuple hs
      exact ⟨its, rv, hz, "tuple", o, n, .inr rfl, ho, hc, hdd⟩
  have hln := rv.length
  have hu := hr.un
  refine ZS.sorted_of (C := fun vs s1 => vs = its ∧ ∃ h', s1 = { s with heap := h' } ∧ ∀ b o, s.heap.get? b = some o → h'.get? b = some o)
    (wpAny_collect_seq a hT ho hc hdat (fun h' kp => ⟨by simp, h', rfl, kp⟩) (by simp only [List.size_toArray]; omega)) (fun vs s1 hv => by rw [hv.1]; omega) fun vs s1 hv => ?_
  obtain ⟨rfl, h', rfl, kp⟩ := hv
  have I1 : Inv X pins σ H { s with heap := h' } := I.kept (t' := s.toks) kp
  obtain ⟨as, rd⟩ := Dp.readsAll I1 ds xs vs (dpAll_mono hzh hd) rv
  have er : PySem.W.EachIs (fun v d => ∃ as, Reads h' v d as) vs ds := by
    have e := PySem.W.readsAll_each (fun d => d) (h := h') (vs := vs) (bs := ds) (as := as) (by rw [List.map_id']; exact rd)
    exact e
  refine ZS.sort_new (R := ValDp X.K Z) (each_of rv hd) er hal hk (by omega) (fun d hd' => ?_) fun out hol eo => ?_
  · have h1 := hdep d hd'
    show X.A.units + 1 + 1 + d.depth < cLine
    omega
  · obtain ⟨ys, y1, y2⟩ := of_each eo
    obtain ⟨ep, he⟩ := sortedHeap_at (h := h'.push (seqObj "list" vs.toArray 0)) (a := h'.objs.size) (vs := vs) (n := 0) (out := out.toArray) (Heap.get?_push_size _ rfl)
    have hyl : ys.length ≤ sizeLine := by rw [dpa_length y2]; unfold sortD at *; rw [List.length_mergeSort]; omega
    refine ⟨.ref h'.objs.size, upd H h'.objs.size (.lst ys), I1.laid (t' := s.toks) (fun b o e => ?_) (Nat.le_refl _) ⟨hyl, out, ep, y1, he⟩, rfl, q ys _ y2 (I1.hok.fresh (Nat.le_refl _))⟩
    have hb : b < h'.objs.size := Heap.lt_size e
    rw [sortedHeap_old (Nat.ne_of_lt hb) (by rw [size_push']; exact Nat.lt_succ_of_lt hb)]
    exact Heap.get?_push_of_some _ e
end
end ZD

namespace ZD
open PySem PySem.Spec PyProof.Rows L2 GxR ZG

theorem dpa_at {K : PySem.W.Frag} {Z : Hp} {vs : List V} {ds : List PyData} {i : Int} {d : PyData} (h : DpAll K Z vs ds) (e : atI ds i = some d) : ∃ v, atI vs i = some v ∧ Dp K Z v d := by
  unfold atI at e ⊢
  rw [dpa_length h]
  cases q : ixN ds.length i with
  | none => rw [q] at e; cases e
  | some j => rw [q] at e; exact dpa_get h e
/-! ### a[i] -/
def gotD : Option PyData → Out
  | some d => .d d
  | none => .bad
def oIx : PyData → PyData → Out
  | .list ds, .int i => gotD (atI ds i)
  | .tuple ds, .int i => gotD (atI ds i)
  | .str z, .int i => if z.length ≤ 1000000 then gotD ((atI z.cps.toList i).map fun c => .str ⟨#[c]⟩) else .bad
  | _, _ => .bad
section
variable {T : List Addr} {E : Wish} {X : Cx} {a b c : Expr} {pos : Pos} {p q w : M Od} {k : Nat}
theorem got_ok {K : PySem.W.Frag} {H Z : Hp} {Q : VK} {o : Option PyData} (h : OutOk K H Z Q (gotD o)) : ∃ d, o = some d ∧ ∀ v, Dp K Z v d → Q v H := by
  cases o with
  | none => exact False.elim h
  | some d => exact ⟨d, rfl, h⟩
theorem says_ix : Says2 X.K oIx (fun x y H Q => rIxL X.K x y H Q ∨ (rIxT X.K x y H Q ∨ rIxS x y H Q)) := by
  intro H Z v w d e Q hz hv hw ho
  have hm := million
  cases d with
  | list ds =>
    cases e with
    | int i =>
      obtain ⟨l, xs, rfl, h1, h2⟩ := hv.list hz
      cases hw.int
      obtain ⟨y, e1, q⟩ := got_ok (show OutOk X.K H Z Q (gotD (atI ds i)) from ho)
      obtain ⟨u, e2, hd⟩ := dpa_at h2 e1
      exact .inl ⟨l, xs, i, u, rfl, rfl, h1, e2, q u hd⟩
    | _ => exact False.elim ho
  | tuple ds =>
    cases e with
    | int i =>
      obtain ⟨l, xs, rfl, h1, h2⟩ := hv.tup hz
      cases hw.int
      obtain ⟨y, e1, q⟩ := got_ok (show OutOk X.K H Z Q (gotD (atI ds i)) from ho)
      obtain ⟨u, e2, hd⟩ := dpa_at h2 e1
      exact .inr (.inl ⟨l, xs, i, u, rfl, rfl, h1, e2, q u hd⟩)
    | _ => exact False.elim ho
  | str z =>
    cases e with
    | int i =>
      cases hv.str
      cases hw.int
      simp only [oIx] at ho
      by_cases hc : z.length ≤ 1000000
      · rw [if_pos hc] at ho
        obtain ⟨y, e1, q⟩ := got_ok ho
        obtain ⟨c, e2, rfl⟩ := Option.map_eq_some_iff.mp e1
        exact .inr (.inr ⟨z, i, c, rfl, rfl, by omega, e2, q _ (.str _)⟩)
      · rw [if_neg hc] at ho; exact ho.elim
    | _ => exact False.elim ho
  | _ => exact False.elim ho
theorem ge_ix (ha : GO T E X a p) (hb : GO T E X b q) (hs : PlainIx b := by intro _ _; rfl) : GE T E X (.Subscript a b pos) (op2 oIx p q) :=
  ge_op2 ha hb (fun _ _ h1 h2 => pe_ix (ix_list.or (ix_tup.or ix_str)) h1 h2 hs) says_ix

/-! ### a new thing is looked at (once) -/
/-- f of a value and of a thing that is looked at -/
def opv2 (f : PyData → PyData → Out) (m : M Vl) (q : M Od) : M Vl := bnd m fun x => bnd q fun y => fun en => match look en y with
  | some e => out (f x.d e) en
  | none => .bad
theorem top_vl {k : Kx} {sg0 sg1 sg : L2.St} {H0 H1 H Z1 Z : Hp} {en0 en1 en : En} {v : V} {x : Vl} (r1 : Rel k sg1 H1 Z1 en1) (hv : VlOk k sg0 H0 en0 sg1 H1 Z1 en1 v x) (a : Aft k sg1 H1 Z1 en1 sg H Z en) : Top k.K H Z v x.d := by
  cases x with
  | sh d => exact .inl (dp_mono a.zz hv)
  | ow d =>
    obtain ⟨b, rfl, hz, ho, nm, _⟩ := hv
    obtain ⟨o, h1, h2, _⟩ := ho.here
    exact .inr ⟨b, rfl, ho.mono (fun o' q => a.keep b o' q nm (not_tab r1 h1 h2)) a.zz⟩
theorem ge_opv2 {f : PyData → PyData → Out} {r : R2} {m : M Vl} {e : Expr} (ha : GE T E X a m) (hb : GO T E X b q) (hB : ∀ ta tb, PE X a ta → PE X b tb → PE X e (tOp r ta tb)) (hf : Says2 X.K f r) : GE T E X e (opv2 f m q) :=
  pe_imp (hB _ _ ha hb) fun sg H Q ⟨en, Z, r0, q⟩ => ⟨en, Z, r0, post_mono (post_bnd r0 q) fun x en1 H1 Z1 _ ⟨a1, q1⟩ v hv => ⟨en1, Z1, a1.rel, post_mono (post_bnd a1.rel q1) fun y en2 H2 Z2 _ ⟨a2, q2⟩ w hw => by
    cases hl2 : look en2 y with
    | none => simp only [hl2] at q2; exact q2.elim
    | some d2 =>
      simp only [hl2] at q2
      exact hf H2 Z2 v w x.d d2 Q a2.rel.sub (top_vl a1.rel hv a2) (top_of a2.rel hw hl2) (out_ok (sg0 := sg) a2.rel (a1.trans a2 r0) q2)⟩⟩
theorem ge_ixv {m : M Vl} (ha : GE T E X a m) (hb : GO T E X b q) (hs : PlainIx b := by intro _ _; rfl) : GE T E X (.Subscript a b pos) (opv2 oIx m q) :=
  ge_opv2 ha hb (fun _ _ h1 h2 => pe_ix (ix_list.or (ix_tup.or ix_str)) h1 h2 hs) says_ix

/-! ### a[lo:hi] -/
def cutD (xs : List PyData) (lo hi : Option Int) : List PyData := (xs.drop (HT.sIx xs.length 0 lo)).take (HT.sIx xs.length xs.length hi - HT.sIx xs.length 0 lo)
theorem dpa_cut {K : PySem.W.Frag} {Z : Hp} {vs : List V} {ds : List PyData} (lo hi : Option Int) (h : DpAll K Z vs ds) : DpAll K Z (cutV vs lo hi) (cutD ds lo hi) := by
  unfold cutV cutD
  rw [dpa_length h]
  exact dpa_take _ (dpa_drop _ h)
def oSl (lo hi : Option Int) : PyData → Out
  | .list ds => .nl (cutD ds lo hi)
  | .tuple ds => .nt (cutD ds lo hi)
  | .str z => if z.length ≤ 1000000 then .d (.str (cutS z lo hi)) else .bad
  | _ => .bad
def tP (k : Kx) (E : Wish) (m : M (Option Int)) : TO := fun sg H Q => ∃ en Z, Rel k sg H Z en ∧ Post k E sg H Z en (m en) fun x _ H' Z' => Q x H'
abbrev GP (T : List Addr) (E : Wish) (X : Cx) (e : Option Expr) (m : M (Option Int)) : Prop := PO X e (tP ⟨X.K, T⟩ E m)
theorem po_imp {X : Cx} {e : Option Expr} {t u : TO} (h : PO X e t) (i : ∀ sg H Q, u sg H Q → t sg H Q) : PO X e u := ⟨fun pins s sg H Q I q => h.run pins s sg H Q I (i _ _ _ q)⟩
def pno : M (Option Int) := ret none
def pso (p : M Od) : M (Option Int) := bnd p fun x => fun en => match look en x with
  | some (.int i) => .ok (some i) en
  | _ => .bad
theorem gp_no : GP T E X none pno := po_imp po_none fun sg H Q ⟨en, Z, r, q⟩ => post_ret r q
theorem gp_so (ha : GO T E X a p) : GP T E X (some a) (pso p) := po_imp (po_some ha) fun sg H Q ⟨en, Z, r, q⟩ => ⟨en, Z, r, post_mono (post_bnd r q) fun x en1 H1 Z1 _ ⟨a1, q1⟩ v hv => by
  cases hl : look en1 x with
  | none => simp only [hl] at q1; exact q1.elim
  | some d =>
    have ht := top_of a1.rel hv hl
    cases d with
    | int i => simp only [hl] at q1; exact ⟨i, ht.int, q1 H1 Z1 (Aft.refl a1.rel)⟩
    | _ => simp only [hl] at q1; exact q1.elim⟩
def mslice (p : M Od) (l u : M (Option Int)) : M Vl := bnd p fun x => bnd l fun lo => bnd u fun hi => fun en => match look en x with
  | some d => out (oSl lo hi d) en
  | none => .bad
def rSl (K : PySem.W.Frag) : V → Option Int → Option Int → Hp → VK → Prop := fun x lo hi H Q => rSlL K x lo hi H Q ∨ (rSlA K x lo hi H Q ∨ rSlS x lo hi H Q)
theorem says_sl {H Z : Hp} {v : V} {d : PyData} {Q : VK} {lo hi : Option Int} (hz : ∀ a o, Z a = some o → H a = some o) (hv : Top X.K H Z v d) (ho : OutOk X.K H Z Q (oSl lo hi d)) : rSl X.K v lo hi H Q := by
  have hm := million
  cases d with
  | list ds =>
    obtain ⟨l, xs, rfl, h1, h2⟩ := hv.list hz
    exact .inl ⟨l, xs, rfl, h1, fun p hp => ho p _ hp (dpa_cut lo hi h2)⟩
  | tuple ds =>
    have hv0 := hv
    obtain ⟨l, xs, rfl, h1, h2⟩ := hv.tup hz
    have dv : Dp X.K Z (.ref l) (.tuple ds) := by rcases hv0 with z | ⟨a, _, z⟩; exact z; cases z
    refine .inr (.inl ⟨l, xs, rfl, h1, fun z => ho.1 _ ?_, fun _ p hp => ho.2 p _ hp (dpa_cut lo hi h2)⟩)
    have e : cutD ds lo hi = ds := by
      have hl := dpa_length h2
      unfold cutD
      rw [← hl, z.1, z.2, List.drop_zero, Nat.sub_zero, hl, List.take_length]
    rw [e]
    exact dv
  | str z =>
    cases hv.str
    simp only [oSl] at ho
    by_cases hc : z.length ≤ 1000000
    · rw [if_pos hc] at ho
      exact .inr (.inr ⟨z, rfl, by omega, ho _ (.str _)⟩)
    · rw [if_neg hc] at ho; exact ho.elim
  | _ => exact False.elim ho
theorem ge_slice {l u : M (Option Int)} {lo hi : Option Expr} {p2 : Pos} (ha : GO T E X a p) (hl : GP T E X lo l) (hu : GP T E X hi u) : GE T E X (.Subscript a (.Slice lo hi none p2) pos) (mslice p l u) :=
  pe_imp (pe_slice (SlR.or sl_list (SlR.or sl_tupA sl_str)) ha hl hu) fun sg H Q ⟨en, Z, r0, q⟩ => ⟨en, Z, r0, post_mono (post_bnd r0 q) fun x en1 H1 Z1 _ ⟨a1, q1⟩ v hv => ⟨en1, Z1, a1.rel, post_mono (post_bnd a1.rel q1) fun lo en2 H2 Z2 _ ⟨a2, q2⟩ =>
    ⟨en2, Z2, a2.rel, post_mono (post_bnd a2.rel q2) fun hi en3 H3 Z3 _ ⟨a3, q3⟩ => by
    cases hl : look en3 x with
    | none => simp only [hl] at q3; exact q3.elim
    | some d =>
      simp only [hl] at q3
      exact says_sl a3.rel.sub (top_of a3.rel (od_mono a3 (od_mono a2 hv)) hl) (out_ok (sg0 := sg) a3.rel ((a1.trans a2 r0).trans a3 r0) q3)⟩⟩⟩

/-! ### built-in functions of one, of two things -/
theorem ge_cb1 {x : Str} {px : Pos} {id : String} {f : PyData → Out} {r : List V → Hp → VK → Prop} (hc : CallR X (.builtin id) r) (hv : bootBuiltins x = some (.builtin id)) (hf : Says1 X.K f fun v H Q => r [v] H Q) (hg : Gl X x) (hm : X.mg x = none) (ha : GO T E X a p)
    (hn : x ≠ "__name__" := by decide) (hdb : (x == ("__debug__" : Str)) = false := by decide) (he : starEach [a] X.env = (false, eval a X.env) :: starEach [] X.env := by rfl) (hpl : (backTo pos (starEach [] X.env)).any (·.1) = false := by rfl) : GE T E X (.Call (.Name x px) [a] [] pos) (op1 f p) :=
  ge_op1 ha (fun ta h => pe_callB hc hg hm hv (pa_cons h pa_nil he) hn hdb he hpl) hf
theorem ge_ct1 {x : Str} {px : Pos} {id : String} {f : PyData → Out} {r : List V → Hp → VK → Prop} (hc : CallR X (.type id) r) (hv : bootBuiltins x = some (.type id)) (hf : Says1 X.K f fun v H Q => r [v] H Q) (hg : Gl X x) (hm : X.mg x = none) (ha : GO T E X a p)
    (hn : x ≠ "__name__" := by decide) (hdb : (x == ("__debug__" : Str)) = false := by decide) (he : starEach [a] X.env = (false, eval a X.env) :: starEach [] X.env := by rfl) (hpl : (backTo pos (starEach [] X.env)).any (·.1) = false := by rfl) : GE T E X (.Call (.Name x px) [a] [] pos) (op1 f p) :=
  ge_op1 ha (fun ta h => pe_callTy hc hg hm hv (pa_cons h pa_nil he) hn hdb he hpl) hf
theorem ge_cb2 {x : Str} {px : Pos} {id : String} {f : PyData → PyData → Out} {r : List V → Hp → VK → Prop} (hc : CallR X (.builtin id) r) (hv : bootBuiltins x = some (.builtin id)) (hf : Says2 X.K f fun v w H Q => r [v, w] H Q) (hg : Gl X x) (hm : X.mg x = none) (ha : GO T E X a p) (hb : GO T E X b q)
    (hn : x ≠ "__name__" := by decide) (hdb : (x == ("__debug__" : Str)) = false := by decide) (he : starEach [a, b] X.env = (false, eval a X.env) :: starEach [b] X.env := by rfl) (he2 : starEach [b] X.env = (false, eval b X.env) :: starEach [] X.env := by rfl) (hpl : (backTo pos (starEach [b] X.env)).any (·.1) = false := by rfl) : GE T E X (.Call (.Name x px) [a, b] [] pos) (op2 f p q) :=
  ge_op2 ha hb (fun ta tb h h2 => pe_callB hc hg hm hv (pa_cons h (pa_cons h2 pa_nil he2) he) hn hdb he hpl) hf

theorem boot_len : bootBuiltins "len" = some (.builtin "len") := by decide +kernel
theorem boot_tuple : bootBuiltins "tuple" = some (.type "tuple") := by decide +kernel
theorem boot_list : bootBuiltins "list" = some (.type "list") := by decide +kernel
theorem boot_int : bootBuiltins "int" = some (.type "int") := by decide +kernel
theorem boot_abs : bootBuiltins "abs" = some (.builtin "abs") := by decide +kernel
theorem boot_sorted : bootBuiltins "sorted" = some (.builtin "sorted") := by decide +kernel
theorem boot_sum : bootBuiltins "sum" = some (.builtin "sum") := by decide +kernel
theorem boot_max : bootBuiltins "max" = some (.builtin "max") := by decide +kernel
theorem boot_min : bootBuiltins "min" = some (.builtin "min") := by decide +kernel
theorem boot_isinstance : bootBuiltins "isinstance" = some (.builtin "isinstance") := by decide +kernel

def oLen : PyData → Out
  | .list ds => .d (.int ds.length)
  | .tuple ds => .d (.int ds.length)
  | .str z => if z.length ≤ 1000000 then .d (.int z.length) else .bad
  | .dict kvs => .d (.int kvs.length)
  | _ => .bad
theorem own_dict {K : PySem.W.Frag} {H Z : Hp} {v : V} {ds : List (PyData × PyData)} (h : Top K H Z v (.dict ds)) : ∃ a kvs, v = .ref a ∧ H a = some (.dK kvs) ∧ ds.map (·.1) = kvs.map (fun p => keyD p.1) ∧ DpAll K Z (kvs.map (·.2)) (ds.map (·.2)) := by
  rcases h with h | ⟨a, rfl, h⟩
  · cases h
  · cases h with
    | dct h1 h2 h3 => exact ⟨a, _, rfl, h1, h2, h3⟩
theorem says_len : Says1 X.K oLen fun v H Q => (fun xs H Q => (∃ x n, xs = [x] ∧ LenV X.K x H n ∧ Q (.int n) H) ∨ ∃ a kvs, xs = [V.ref a] ∧ H a = some (.dK kvs) ∧ Q (.int kvs.length) H) [v] H Q := by
  intro H Z v d Q hz hv ho
  have hm := million
  cases d with
  | list ds =>
    obtain ⟨l, xs, rfl, h1, h2⟩ := hv.list hz
    refine .inl ⟨_, xs.length, rfl, .inl ⟨xs, h1, rfl⟩, ?_⟩
    rw [dpa_length h2]
    exact (show OutOk X.K H Z Q (.d (.int ds.length)) from ho) _ (.int _)
  | tuple ds =>
    obtain ⟨l, xs, rfl, h1, h2⟩ := hv.tup hz
    refine .inl ⟨_, xs.length, rfl, .inr ⟨xs, h1, rfl⟩, ?_⟩
    rw [dpa_length h2]
    exact (show OutOk X.K H Z Q (.d (.int ds.length)) from ho) _ (.int _)
  | str z =>
    cases hv.str
    simp only [oLen] at ho
    by_cases hc : z.length ≤ 1000000
    · rw [if_pos hc] at ho
      exact .inl ⟨_, z.length, rfl, ⟨by omega, rfl⟩, ho _ (.int _)⟩
    · rw [if_neg hc] at ho; exact ho.elim
  | dict ds =>
    obtain ⟨a, kvs, rfl, h1, h2, h3⟩ := own_dict hv
    refine .inr ⟨a, kvs, rfl, h1, ?_⟩
    have e : kvs.length = ds.length := by simpa using (congrArg List.length h2).symm
    rw [e]
    exact (show OutOk X.K H Z Q (.d (.int ds.length)) from ho) _ (.int _)
  | _ => exact False.elim ho
theorem ge_len {px : Pos} (hg : Gl X "len") (hm : X.mg "len" = none) (ha : GO T E X a p) (he : starEach [a] X.env = (false, eval a X.env) :: starEach [] X.env := by rfl) (hpl : (backTo pos (starEach [] X.env)).any (·.1) = false := by rfl) : GE T E X (.Call (.Name "len" px) [a] [] pos) (op1 oLen p) :=
  ge_cb1 (CallR.or call_len call_lenD) boot_len says_len hg hm ha (by decide) (by decide) he hpl
def oTuple : PyData → Out
  | .list ds => .nt ds
  | .tuple ds => .d (.tuple ds)
  | _ => .bad
theorem says_tuple : Says1 X.K oTuple fun v H Q => (fun xs H Q => ∃ p ys, xs = [V.ref p] ∧ ((SqL X.K H p ys ∧ ∀ l, H l = none → Q (.ref l) (upd H l (.tup ys))) ∨ (SqT X.K H p ys ∧ Q (.ref p) H))) [v] H Q := by
  intro H Z v d Q hz hv ho
  cases d with
  | list ds =>
    obtain ⟨l, xs, rfl, h1, h2⟩ := hv.list hz
    exact ⟨l, xs, rfl, .inl ⟨h1, fun p hp => ho.2 p _ hp h2⟩⟩
  | tuple ds =>
    have hv0 := hv
    obtain ⟨l, xs, rfl, h1, h2⟩ := hv.tup hz
    have dv : Dp X.K Z (.ref l) (.tuple ds) := by rcases hv0 with z | ⟨a, _, z⟩; exact z; cases z
    exact ⟨l, xs, rfl, .inr ⟨h1, ho _ dv⟩⟩
  | _ => exact False.elim ho
theorem ge_tuple {px : Pos} (hg : Gl X "tuple") (hm : X.mg "tuple" = none) (ha : GO T E X a p) (he : starEach [a] X.env = (false, eval a X.env) :: starEach [] X.env := by rfl) (hpl : (backTo pos (starEach [] X.env)).any (·.1) = false := by rfl) : GE T E X (.Call (.Name "tuple" px) [a] [] pos) (op1 oTuple p) :=
  ge_ct1 call_tuple_of boot_tuple says_tuple hg hm ha (by decide) (by decide) he hpl
def oList : PyData → Out
  | .list ds => .nl ds
  | .tuple ds => .nl ds
  | _ => .bad
theorem says_list : Says1 X.K oList fun v H Q => (fun xs H Q => ∃ p ys, xs = [V.ref p] ∧ (SqL X.K H p ys ∨ SqT X.K H p ys) ∧ ∀ l, H l = none → Q (.ref l) (upd H l (.lst ys))) [v] H Q := by
  intro H Z v d Q hz hv ho
  cases d with
  | list ds =>
    obtain ⟨l, xs, rfl, h1, h2⟩ := hv.list hz
    exact ⟨l, xs, rfl, .inl h1, fun p hp => ho p _ hp h2⟩
  | tuple ds =>
    obtain ⟨l, xs, rfl, h1, h2⟩ := hv.tup hz
    exact ⟨l, xs, rfl, .inr h1, fun p hp => ho p _ hp h2⟩
  | _ => exact False.elim ho
theorem ge_list {px : Pos} (hg : Gl X "list") (hm : X.mg "list" = none) (ha : GO T E X a p) (he : starEach [a] X.env = (false, eval a X.env) :: starEach [] X.env := by rfl) (hpl : (backTo pos (starEach [] X.env)).any (·.1) = false := by rfl) : GE T E X (.Call (.Name "list" px) [a] [] pos) (op1 oList p) :=
  ge_ct1 call_list_of boot_list says_list hg hm ha (by decide) (by decide) he hpl
def oSorted : PyData → Out
  | .list ds => if sortOk ds = true then .nl (sortD ds) else .bad
  | .tuple ds => if sortOk ds = true then .nl (sortD ds) else .bad
  | _ => .bad
theorem says_sorted : Says1 X.K oSorted fun v H Q => rSortedD X.K [v] H Q := by
  intro H Z v d Q hz hv ho
  cases d with
  | list ds =>
    obtain ⟨l, xs, rfl, h1, h2⟩ := hv.list hz
    simp only [oSorted] at ho
    by_cases hc : sortOk ds = true
    · rw [if_pos hc] at ho
      exact ⟨l, xs, ds, Z, hz, rfl, .inl h1, h2, hc, fun ys p hd hp => ho p ys hp hd⟩
    · rw [if_neg hc] at ho; exact ho.elim
  | tuple ds =>
    obtain ⟨l, xs, rfl, h1, h2⟩ := hv.tup hz
    simp only [oSorted] at ho
    by_cases hc : sortOk ds = true
    · rw [if_pos hc] at ho
      exact ⟨l, xs, ds, Z, hz, rfl, .inr h1, h2, hc, fun ys p hd hp => ho p ys hp hd⟩
    · rw [if_neg hc] at ho; exact ho.elim
  | _ => exact False.elim ho
theorem ge_sorted {px : Pos} (hr : Room k X.A) (hg : Gl X "sorted") (hm : X.mg "sorted" = none) (ha : GO T E X a p) (he : starEach [a] X.env = (false, eval a X.env) :: starEach [] X.env := by rfl) (hpl : (backTo pos (starEach [] X.env)).any (·.1) = false := by rfl) : GE T E X (.Call (.Name "sorted" px) [a] [] pos) (op1 oSorted p) :=
  ge_cb1 (cr_sortedD hr) boot_sorted says_sorted hg hm ha (by decide) (by decide) he hpl
/-- f of a whole number (a truth value counts as one where b says so) -/
def oI1 (f : Int → Int) : PyData → Out
  | .int i => .d (.int (f i))
  | _ => .bad
theorem says_i1 {f : Int → Int} {r : V → Hp → VK → Prop} (h : ∀ i H Q, Q (.int (f i)) H → r (.int i) H Q) : Says1 X.K (oI1 f) r := by
  intro H Z v d Q hz hv ho
  cases d with
  | int i =>
    cases hv.int
    exact h _ _ _ ((show OutOk X.K H Z Q (.d (.int (f i))) from ho) _ (.int _))
  | _ => exact False.elim ho
def absI (i : Int) : Int := if i < 0 then -i else i
theorem ge_abs {px : Pos} (hg : Gl X "abs") (hm : X.mg "abs" = none) (ha : GO T E X a p) (he : starEach [a] X.env = (false, eval a X.env) :: starEach [] X.env := by rfl) (hpl : (backTo pos (starEach [] X.env)).any (·.1) = false := by rfl) : GE T E X (.Call (.Name "abs" px) [a] [] pos) (op1 (oI1 absI) p) :=
  ge_cb1 call_abs boot_abs (says_i1 fun i H Q q => ⟨i, rfl, q⟩) hg hm ha (by decide) (by decide) he hpl
theorem ge_int {px : Pos} (hg : Gl X "int") (hm : X.mg "int" = none) (ha : GO T E X a p) (he : starEach [a] X.env = (false, eval a X.env) :: starEach [] X.env := by rfl) (hpl : (backTo pos (starEach [] X.env)).any (·.1) = false := by rfl) : GE T E X (.Call (.Name "int" px) [a] [] pos) (op1 (oI1 fun i => i) p) :=
  ge_ct1 call_int1 boot_int (says_i1 fun i H Q q => .inl ⟨i, rfl, q⟩) hg hm ha (by decide) (by decide) he hpl
theorem ge_neg (ha : GO T E X a p) : GE T E X (.UnaryOp .USub a pos) (op1 (oI1 fun i => -i) p) :=
  ge_op1 ha (fun _ h => pe_un un_neg h) (says_i1 fun i H Q q => ⟨i, rfl, q⟩)
/-! isinstance(x, T) -/
def tyN : PyData → String
  | .none => "NoneType" | .bool _ => "bool" | .int _ => "int" | .str _ => "str" | .list _ => "list" | .tuple _ => "tuple" | .dict _ => "dict"
theorem ty_seqL {K : PySem.W.Frag} {H : Hp} {a : Addr} {xs : List V} (h : SqL K H a xs) : TyX K H (.ref a) (.type "list") := by
  rcases h with (h | ⟨o, h⟩) | ⟨o, its, n, h1, h2, _⟩
  · exact .base (.lst h)
  · exact .base (.frz h)
  · exact .kList h1 h2
theorem ty_seqT {K : PySem.W.Frag} {H : Hp} {a : Addr} {xs : List V} (h : SqT K H a xs) : TyX K H (.ref a) (.type "tuple") := by
  rcases h with (h | ⟨o, h⟩) | ⟨o, its, n, h1, h2, _⟩
  · exact .base (.tup h)
  · exact .fTuple h
  · exact .kTuple h1 h2
theorem ty_top {K : PySem.W.Frag} {H Z : Hp} {v : V} {d : PyData} (hz : ∀ a o, Z a = some o → H a = some o) (h : Top K H Z v d) : TyX K H v (.type (tyN d)) := by
  cases d with
  | none => cases h.none; exact .base .non
  | bool b => cases h.bool; exact .base (.bl b)
  | int i => cases h.int; exact .base (.int i)
  | str z => cases h.str; exact .base (.str z)
  | list ds => obtain ⟨a, xs, rfl, h1, _⟩ := h.list hz; exact ty_seqL h1
  | tuple ds => obtain ⟨a, xs, rfl, h1, _⟩ := h.tup hz; exact ty_seqT h1
  | dict ds => obtain ⟨a, kvs, rfl, h1, _⟩ := own_dict h; exact .base (.dK h1)
theorem kitB_all (n : String) (a0 a1 a2 a3 a4 a5 a6 : Bool) (h : [kitB "NoneType" n, kitB "bool" n, kitB "int" n, kitB "str" n, kitB "list" n, kitB "tuple" n, kitB "dict" n] = [some a0, some a1, some a2, some a3, some a4, some a5, some a6]) (f : PyData → Bool)
    (h0 : f .none = a0) (h1 : ∀ b, f (.bool b) = a1) (h2 : ∀ b, f (.int b) = a2) (h3 : ∀ b, f (.str b) = a3) (h4 : ∀ b, f (.list b) = a4) (h5 : ∀ b, f (.tuple b) = a5) (h6 : ∀ b, f (.dict b) = a6) : ∀ d, kitB (tyN d) n = some (f d) := by
  simp only [List.cons.injEq, and_true] at h
  obtain ⟨k0, k1, k2, k3, k4, k5, k6⟩ := h
  intro d
  cases d with
  | none => rw [h0]; exact k0
  | bool b => rw [h1]; exact k1
  | int b => rw [h2]; exact k2
  | str b => rw [h3]; exact k3
  | list b => rw [h4]; exact k4
  | tuple b => rw [h5]; exact k5
  | dict b => rw [h6]; exact k6
def isiInt : PyData → Bool
  | .int _ => true | .bool _ => true | _ => false
def isiBool : PyData → Bool
  | .bool _ => true | _ => false
def isiStr : PyData → Bool
  | .str _ => true | _ => false
def isiList : PyData → Bool
  | .list _ => true | _ => false
def isiTup : PyData → Bool
  | .tuple _ => true | _ => false
def isiDict : PyData → Bool
  | .dict _ => true | _ => false
def oTest (f : PyData → Bool) : PyData → Out := fun d => .d (.bool (f d))
/-- the type named x says of a tree whether it is one -/
structure IsiT (x : Str) (n : String) (f : PyData → Bool) : Prop where
  boot : bootBuiltins x = some (.type n)
  is : ∀ d, kitB (tyN d) n = some (f d)
theorem isi_int : IsiT "int" "int" isiInt := ⟨by decide +kernel, kitB_all _ _ _ _ _ _ _ _ (by decide +kernel) _ rfl (fun _ => rfl) (fun _ => rfl) (fun _ => rfl) (fun _ => rfl) (fun _ => rfl) (fun _ => rfl)⟩
theorem isi_bool : IsiT "bool" "bool" isiBool := ⟨by decide +kernel, kitB_all _ _ _ _ _ _ _ _ (by decide +kernel) _ rfl (fun _ => rfl) (fun _ => rfl) (fun _ => rfl) (fun _ => rfl) (fun _ => rfl) (fun _ => rfl)⟩
theorem isi_str : IsiT "str" "str" isiStr := ⟨by decide +kernel, kitB_all _ _ _ _ _ _ _ _ (by decide +kernel) _ rfl (fun _ => rfl) (fun _ => rfl) (fun _ => rfl) (fun _ => rfl) (fun _ => rfl) (fun _ => rfl)⟩
theorem isi_list : IsiT "list" "list" isiList := ⟨by decide +kernel, kitB_all _ _ _ _ _ _ _ _ (by decide +kernel) _ rfl (fun _ => rfl) (fun _ => rfl) (fun _ => rfl) (fun _ => rfl) (fun _ => rfl) (fun _ => rfl)⟩
theorem isi_tup : IsiT "tuple" "tuple" isiTup := ⟨by decide +kernel, kitB_all _ _ _ _ _ _ _ _ (by decide +kernel) _ rfl (fun _ => rfl) (fun _ => rfl) (fun _ => rfl) (fun _ => rfl) (fun _ => rfl) (fun _ => rfl)⟩
theorem isi_dict : IsiT "dict" "dict" isiDict := ⟨by decide +kernel, kitB_all _ _ _ _ _ _ _ _ (by decide +kernel) _ rfl (fun _ => rfl) (fun _ => rfl) (fun _ => rfl) (fun _ => rfl) (fun _ => rfl) (fun _ => rfl)⟩
theorem ge_isi {x : Str} {n : String} {f : PyData → Bool} {px p2 : Pos} (I : IsiT x n f) (hg : Gl X "isinstance") (hm : X.mg "isinstance" = none) (hg2 : Gl X x) (hm2 : X.mg x = none) (ha : GO T E X a p)
    (hn : x ≠ "__name__" := by decide) (hdb : (x == ("__debug__" : Str)) = false := by decide)
    (he : starEach [a, .Name x p2] X.env = (false, eval a X.env) :: starEach [.Name x p2] X.env := by rfl) (he2 : starEach [.Name x p2] X.env = (false, eval (.Name x p2) X.env) :: starEach [] X.env := by rfl) (hpl : (backTo pos (starEach [.Name x p2] X.env)).any (·.1) = false := by rfl) :
    GE T E X (.Call (.Name "isinstance" px) [a, .Name x p2] [] pos) (op1 (oTest f) p) :=
  ge_op1 (r := fun v H Q => rIsi X.K [v, .ty n] H Q) ha (fun ta h => pe_callB call_isi hg hm boot_isinstance (pa_cons h (pa_cons (pe_bltn (v := .ty n) hg2 hm2 I.boot rfl hn hdb) pa_nil he2) he) (by decide) (by decide) he hpl) fun H Z v d Q hz hv ho =>
    ⟨v, .ty n, .type (tyN d), .type n, f d, rfl, .ty n, ty_top hz hv, kit_ty (I.is d), ho _ (.bl _)⟩
end
end ZD

namespace ZD
open PySem PySem.Spec PyProof.Rows L2 GxR ZG

/-! ### a thing of one's own is changed -/
section
variable {k : Kx} {sg : L2.St} {H Z : Hp} {en : En} {E : Wish}
theorem aft_write {i : Nat} {a : Addr} {d0 d' : PyData} {o' : HO} {s : Sl} (mk : PyData → Sl) (r : Rel k sg H Z en) (he : en[i]? = some (mk d0)) (hmk : mk = Sl.ow ∨ mk = Sl.io) (hv : sg[i]? = some (some (V.ref a))) (ho : Own k.K (upd H a o') Z a d') :
    Aft k sg H Z en sg (upd H a o') Z (en.set i (mk d')) := by
  have own : isOwn (mk d0) = true := by rcases hmk with rfl | rfl <;> rfl
  have own' : isOwn (mk d') = true := by rcases hmk with rfl | rfl <;> rfl
  have hm : Mine sg en a := ⟨i, _, he, own, hv⟩
  obtain ⟨haz, dd, hod⟩ := r.mine hm
  obtain ⟨oa, h1, h2, _⟩ := hod.here
  have hi : i < en.length := (List.getElem?_eq_some_iff.mp he).1
  have at_ : ∀ (l : Nat) (s : Sl), (en.set i (mk d'))[l]? = some s → (l = i ∧ s = mk d') ∨ (l ≠ i ∧ en[l]? = some s) := fun l s h => by
    by_cases e : l = i
    · rw [e, List.getElem?_set_self hi] at h; cases h; exact .inl ⟨e, rfl⟩
    · rw [List.getElem?_set_ne (Ne.symm e)] at h; exact .inr ⟨e, h⟩
  have mset : ∀ b, Mine sg (en.set i (mk d')) b → Mine sg en b := fun b ⟨l, s, g1, g2, g3⟩ => by
    rcases at_ l s g1 with ⟨rfl, _⟩ | ⟨_, e⟩
    · exact ⟨l, _, he, own, g3⟩
    · exact ⟨l, s, e, g2, g3⟩
  have up : ∀ b o, b ≠ a → H b = some o → upd H a o' b = some o := fun b o ne h => by rw [upd_ne ne]; exact h
  have oth : ∀ (l : Nat) (s : Sl) (b : Addr) (dd : PyData), l ≠ i → en[l]? = some s → isOwn s = true → sg[l]? = some (some (V.ref b)) → Own k.K H Z b dd → Own k.K (upd H a o') Z b dd := fun l s b dd hl hs hso hb hd => by
    have ne : b ≠ a := fun e => hl (r.dis l i s _ a hs he hso own (by rw [hb, e]) hv)
    exact hd.mono (fun o q => up b o ne q) fun _ _ q => q
  refine ⟨⟨fun b o h => up b o (fun e => by rw [e, haz] at h; cases h) (r.sub b o h), fun l s h => ?_, fun l1 l2 s t b g1 g2 g3 g4 g5 g6 => ?_, fun P hP => ?_⟩, fun _ _ h => h, fun _ _ h => .inl h, fun b o h m _ => up b o (fun e => m (e ▸ hm)) h, fun b h => .inl (mset b h), fun l dd h => ?_⟩
  · rcases at_ l s h with ⟨rfl, rfl⟩ | ⟨hl, e⟩
    · refine ⟨_, hv, ?_⟩
      rcases hmk with rfl | rfl
      · exact ⟨a, rfl, haz, ho⟩
      · exact ⟨a, rfl, haz, ho⟩
    · obtain ⟨u, hu, hs⟩ := r.sl l s e
      refine ⟨u, hu, ?_⟩
      cases s with
      | no => trivial
      | sh dd => exact hs
      | ow dd => obtain ⟨b, e1, g1, g2⟩ := hs; exact ⟨b, e1, g1, oth l _ b dd hl e rfl (by rw [hu, e1]) g2⟩
      | io dd => obtain ⟨b, e1, g1, g2⟩ := hs; exact ⟨b, e1, g1, oth l _ b dd hl e rfl (by rw [hu, e1]) g2⟩
  · rcases at_ l1 s g1 with ⟨rfl, rfl⟩ | ⟨n1, e1⟩
    · rcases at_ l2 t g2 with ⟨rfl, rfl⟩ | ⟨n2, e2⟩
      · rfl
      · exact r.dis l1 l2 _ t b he e2 own g4 g5 g6
    · rcases at_ l2 t g2 with ⟨rfl, rfl⟩ | ⟨n2, e2⟩
      · exact r.dis l1 l2 s _ b e1 he g3 own g5 g6
      · exact r.dis l1 l2 s t b e1 e2 g3 g4 g5 g6
  · obtain ⟨⟨ps, p1, p2⟩, p3⟩ := r.tab P hP
    exact ⟨⟨ps, up P _ (fun e => by rw [e, h1] at p1; exact h2 ps (Option.some.inj p1)) p1, p2⟩, p3⟩
  · by_cases hl : l = i
    · subst hl
      rw [he] at h
      rcases hmk with rfl | rfl
      · cases h
      · exact ⟨⟨d', List.getElem?_set_self hi⟩, rfl⟩
    · exact ⟨⟨dd, by rw [List.getElem?_set_ne (Ne.symm hl)]; exact h⟩, rfl⟩
/-- the thing of name i becomes what g says; a value comes out -/
def wr (i : Nat) (g : PyData → Option (PyData × PyData)) : M PyData := fun en => match en[i]? with
  | some (.ow d) => (match g d with
    | some (d', x) => .ok x (en.set i (.ow d'))
    | none => .bad)
  | some (.io d) => (match g d with
    | some (d', x) => .ok x (en.set i (.io d'))
    | none => .bad)
  | _ => .bad
theorem wr_ok {i : Nat} {g : PyData → Option (PyData × PyData)} {P : PyData → En → Hp → Hp → Prop} (r : Rel k sg H Z en) (h : Post k E sg H Z en (wr i g en) P) :
    ∃ (a : Addr) (d d' x : PyData) (en' : En), sg[i]? = some (some (V.ref a)) ∧ Own k.K H Z a d ∧ g d = some (d', x) ∧ ∀ o', Own k.K (upd H a o') Z a d' → P x en' (upd H a o') Z := by
  unfold wr at h
  cases he : en[i]? with
  | none => rw [he] at h; exact False.elim h
  | some s =>
    rw [he] at h
    obtain ⟨v, hv, hs⟩ := r.sl i s he
    cases s with
    | no => exact False.elim h
    | sh d => exact False.elim h
    | ow d =>
      obtain ⟨a, rfl, h1, h2⟩ := hs
      dsimp only at h
      cases hg : g d with
      | none => rw [hg] at h; exact False.elim h
      | some q =>
        obtain ⟨d', x⟩ := q
        rw [hg] at h
        exact ⟨a, d, d', x, _, hv, h2, hg, fun o' ho => h _ _ (aft_write (s := .no) .ow r he (.inl rfl) hv ho)⟩
    | io d =>
      obtain ⟨a, rfl, h1, h2⟩ := hs
      dsimp only at h
      cases hg : g d with
      | none => rw [hg] at h; exact False.elim h
      | some q =>
        obtain ⟨d', x⟩ := q
        rw [hg] at h
        exact ⟨a, d, d', x, _, hv, h2, hg, fun o' ho => h _ _ (aft_write (s := .no) .io r he (.inr rfl) hv ho)⟩
end
/-- name i has a list (a dict) of its own -/
def isLs : Option Sl → Bool
  | some (.ow (.list _)) => true
  | some (.io (.list _)) => true
  | _ => false
def isDs : Option Sl → Bool
  | some (.ow (.dict _)) => true
  | some (.io (.dict _)) => true
  | _ => false
def chk {α : Type} (f : Option Sl → Bool) (i : Nat) (m : M α) : M α := fun en => if f en[i]? = true then m en else .bad
section
variable {T : List Addr} {E : Wish} {X : Cx} {a b c : Expr} {pos : Pos} {k : Nat} {i : Nat} {x : Str} {px : Pos}
theorem is_ls {kk : Kx} {sg : L2.St} {H Z : Hp} {en : En} (r : Rel kk sg H Z en) (h : isLs en[i]? = true) : ∃ a xs, sg[i]? = some (some (V.ref a)) ∧ H a = some (.lst xs) := by
  cases he : en[i]? with
  | none => rw [he] at h; cases h
  | some s =>
    rw [he] at h
    obtain ⟨v, hv, hs⟩ := r.sl i s he
    cases s with
    | no => cases h
    | sh d => cases h
    | ow d =>
      cases d with
      | list ds => obtain ⟨a, rfl, _, ho⟩ := hs; cases ho with | lst h1 _ => exact ⟨a, _, hv, h1⟩
      | _ => cases h
    | io d =>
      cases d with
      | list ds => obtain ⟨a, rfl, _, ho⟩ := hs; cases ho with | lst h1 _ => exact ⟨a, _, hv, h1⟩
      | _ => cases h
theorem is_ds {kk : Kx} {sg : L2.St} {H Z : Hp} {en : En} (r : Rel kk sg H Z en) (h : isDs en[i]? = true) : ∃ a kvs, sg[i]? = some (some (V.ref a)) ∧ H a = some (.dK kvs) := by
  cases he : en[i]? with
  | none => rw [he] at h; cases h
  | some s =>
    rw [he] at h
    obtain ⟨v, hv, hs⟩ := r.sl i s he
    cases s with
    | no => cases h
    | sh d => cases h
    | ow d =>
      cases d with
      | dict ds => obtain ⟨a, rfl, _, ho⟩ := hs; cases ho with | dct h1 _ _ => exact ⟨a, _, hv, h1⟩
      | _ => cases h
    | io d =>
      cases d with
      | dict ds => obtain ⟨a, rfl, _, ho⟩ := hs; cases ho with | dct h1 _ _ => exact ⟨a, _, hv, h1⟩
      | _ => cases h
/-! x.append(e) -/
def gApp (y : PyData) : PyData → Option (PyData × PyData)
  | .list xs => if xs.length < 1000000 then some (.list (xs ++ [y]), .none) else none
  | _ => none
def mapp (i : Nat) (m : M PyData) : M PyData := chk isLs i (bnd m fun y => wr i (gApp y))
theorem gd_append {m : M PyData} {apos cpos : Pos} (hv : PE X (.Name x px) (tVar i)) (ha : GD T E X a m)
    (hbase : attributeBase (.Name x px) "append" X.env (eval (.Name x px) X.env) = eval (.Name x px) X.env := by rfl)
    (hfew : ((backTo cpos (starEach [a] X.env)).all (fun x => !x.1) && (backToKw cpos (keywordEach [] X.env)).all (fun x => x.1.isSome)
      && decide (([a] : List Expr).length + ([] : List Keyword).length + (if ([] : List Keyword).isEmpty then 0 else 1) < 30)) = true := by rfl)
    (hline : (apos.endLine == cpos.line) = true := by rfl) (hs : starEach [a] X.env = (false, eval a X.env) :: starEach [] X.env := by rfl) (hplain : (backTo cpos (starEach [] X.env)).any (·.1) = false := by rfl) :
    GD T E X (.Call (.Attribute (.Name x px) "append" apos) [a] [] cpos) (mapp i m) :=
  pe_imp (pe_bm PySem.F.plainAttrs_list PySem.F.slot_list_append PySem.F.type_list_append (show MtR X "list.append" rAppend from mt_append) hv (pa_cons ha pa_nil hs) hbase hfew hline hs hplain) fun sg H Q ⟨en, Z, r, q⟩ => by
    unfold mapp chk at q
    by_cases hc : isLs en[i]? = true
    · rw [if_pos hc] at q
      obtain ⟨l, xs, h1, h2⟩ := is_ls r hc
      refine ⟨_, h1, .inl ⟨rfl, xs, .inl (.inl h2)⟩, en, Z, r, post_mono (post_bnd r q) fun y en1 H1 Z1 _ ⟨a1, q1⟩ v hv => ?_⟩
      obtain ⟨a, d, d', z, en', g1, g2, g3, g4⟩ := wr_ok a1.rel q1
      rw [h1] at g1
      cases g1
      cases d with
      | list ds =>
        simp only [gApp] at g3
        by_cases hl : ds.length < 1000000
        · rw [if_pos hl] at g3
          cases g3
          cases g2 with
          | lst e1 e2 =>
            have hm := million
            refine ⟨l, _, v, rfl, rfl, e1, by rw [dpa_length e2]; omega, ?_⟩
            exact g4 _ (.lst upd_same (dpa_append e2 (.cons hv .nil))) _ .non
        · rw [if_neg hl] at g3; cases g3
      | _ => cases g3
    · rw [if_neg hc] at q; exact False.elim q
/-! x.pop() -/
def gPop : PyData → Option (PyData × PyData)
  | .list xs => match xs[xs.length - 1]? with
    | some y => some (.list xs.dropLast, y)
    | none => none
  | _ => none
def mpop (i : Nat) : M PyData := chk isLs i (wr i gPop)
theorem gd_pop {apos cpos : Pos} (hv : PE X (.Name x px) (tVar i))
    (hbase : attributeBase (.Name x px) "pop" X.env (eval (.Name x px) X.env) = eval (.Name x px) X.env := by rfl) (hline : (apos.endLine == cpos.line) = true := by rfl) :
    GD T E X (.Call (.Attribute (.Name x px) "pop" apos) [] [] cpos) (mpop i) :=
  pe_imp (pe_bm0 PySem.F.plainAttrs_list PySem.F.slot_list_pop PySem.F.type_list_pop (show MtR X "list.pop" rPop from mt_pop) hv hbase hline) fun sg H Q ⟨en, Z, r, q⟩ => by
    unfold mpop chk at q
    by_cases hc : isLs en[i]? = true
    · rw [if_pos hc] at q
      obtain ⟨l, xs, h1, h2⟩ := is_ls r hc
      refine ⟨_, h1, .inl ⟨rfl, xs, .inl (.inl h2)⟩, ?_⟩
      obtain ⟨a, d, d', z, en', g1, g2, g3, g4⟩ := wr_ok r q
      rw [h1] at g1
      cases g1
      cases d with
      | list ds =>
        simp only [gPop] at g3
        cases hy : ds[ds.length - 1]? with
        | none => rw [hy] at g3; cases g3
        | some y =>
          rw [hy] at g3
          cases g3
          cases g2 with
          | lst e1 e2 =>
            obtain ⟨v, e3, e4⟩ := dpa_get e2 hy
            rw [← dpa_length e2] at e3
            exact ⟨l, _, v, rfl, rfl, e1, e3, g4 _ (.lst upd_same (dpa_dropLast e2)) _ e4⟩
      | _ => cases g3
    · rw [if_neg hc] at q; exact False.elim q
/-! x.extend(e): a list -/
def gExt (y : PyData) : PyData → Option (PyData × PyData)
  | .list xs => match y with
    | .list ys => if xs.length + ys.length ≤ 1000000 then some (.list (xs ++ ys), .none) else none
    | _ => none
  | _ => none
/-! x[i] = e -/
def gSt (j : PyData) (y : PyData) : PyData → Option (PyData × PyData)
  | .list xs => match j with
    | .int z => (match ixN xs.length z with
      | some n => some (.list (xs.set n y), .none)
      | none => none)
    | _ => none
  | _ => none
def mstW (i : Nat) (g : PyData → PyData → PyData → Option (PyData × PyData)) (f : Option Sl → Bool) (m : M PyData) (j : M Od) : M Fl := bnd m fun y => chk f i (bnd j fun x => fun en => match look en x with
  | some z => bnd (wr i (g z y)) (fun _ => mnx) en
  | none => .bad)
def mst (i : Nat) (m : M PyData) (j : M Od) : M Fl := mstW i gSt isLs m j
theorem gs_store {m : M PyData} {j : M Od} {tpos : Pos} (hv : PE X (.Name x px) (tVar i)) (hj : GO T E X b j) (ha : GD T E X a m)
    (hs : swapsWithSole [.Subscript (.Name x px) b tpos] a pos.line X.env = pure false := by rfl) (hw : swappedStores [.Subscript (.Name x px) b tpos] a X.env = pure none := by rfl)
    (h1 : (assignEach [.Subscript (.Name x px) b tpos] X.env).map (·.2) = [assign (.Subscript (.Name x px) b tpos) X.env] := by rfl)
    (hsub : ∀ v, assign (.Subscript (.Name x px) b tpos) X.env v = (do
      let ov ← holding [v] (eval (.Name x px) X.env)
      let iv ← holding [v, ov] (eval b X.env)
      standAt tpos
      holding [v, ov, iv] (setItem ov iv v)
      release [v, ov, iv] []) := by intro _; rfl) :
    GS T E X (.Assign [.Subscript (.Name x px) b tpos] a pos) (mst i m j) :=
  ps_imp (ps_asg ha (pg_sub hv hj set_list hsub) hs hw h1) fun D sg H ⟨en, Z, r, q⟩ => ⟨en, Z, r, post_mono (post_bnd r (posts_post q)) fun y en1 H1 Z1 _ ⟨a1, q1⟩ v hv => by
    unfold chk at q1
    by_cases hc : isLs en1[i]? = true
    · rw [if_pos hc] at q1
      obtain ⟨l, xs, g1, g2⟩ := is_ls a1.rel hc
      refine ⟨_, g1, en1, Z1, a1.rel, post_mono (post_bnd a1.rel q1) fun z en2 H2 Z2 _ ⟨a2, q2⟩ w hw => ?_⟩
      cases hl : look en2 z with
      | none => simp only [hl] at q2; exact False.elim q2
      | some zd =>
        simp only [hl] at q2
        have ht := top_of a2.rel hw hl
        obtain ⟨a, d, d', u, en', f1, f2, f3, f4⟩ := wr_ok a2.rel (post_bnd a2.rel q2)
        rw [g1] at f1
        cases f1
        cases d with
        | list ds =>
          cases zd with
          | int jn =>
            simp only [gSt] at f3
            cases hx : ixN ds.length jn with
            | none => rw [hx] at f3; cases f3
            | some n =>
              rw [hx] at f3
              cases f3
              cases f2 with
              | lst e1 e2 =>
                refine ⟨l, _, jn, n, rfl, ht.int, e1, by rw [dpa_length e2]; exact hx, ?_⟩
                obtain ⟨a3, q3⟩ := f4 (.lst _) (.lst upd_same (dpa_set (dp_mono a2.zz hv) n e2))
                exact q3 _ _ (Aft.refl a3.rel)
          | _ => cases f3
        | _ => cases zd <;> cases f3
    · rw [if_neg hc] at q1; exact False.elim q1⟩
end
end ZD

namespace ZD
open PySem PySem.Spec PyProof.Rows L2 GxR ZG

/-! ### a def of the row, by its name -/
/-- the name stands for a def that keeps this promise -/
def Has (P : Program) (w : World) (K : PySem.W.Frag) (mg : Str → Option Value) (base : Heap) (T : List Addr) (x : Str) (lv : Nat) (ps : List Str) (np : Nat) (F : Fn) : Prop :=
  ∃ fd, mg x = some (.ref (He.ga K x)) ∧ PySem.W.keepIn K (.ref (He.ga K x)) = true ∧ Binds K fd ps [] ∧ FnOk P w K mg base CX0 lv (He.ga K x) fd ps (spF ⟨K, T⟩ np F)
section
variable {P : Program} {w : World} {K : PySem.W.Frag} {mg : Str → Option Value} {base : Heap} {T : List Addr}
theorem fn_okD {x qual : Str} {st : Stmt} {f : Addr} {fd : FuncData} {N ps : List Str} {k : Nat} {m : M Fl} {dvs : List V} {kws : List (Str × V)} (F : FunD K x qual (defArgs st) (defBody st) (defScope st) dvs kws f fd) (S : FnScope N ps (defScope st))
    (hb : ∀ (cdv : Value) (A : Around) (outer : List Env) (s : Shared) (H : Hp) (E : XK), fd.code = cdv → Room k (A.deeper (envOfC qual (defScope st) s.heap.objs.size f cdv)) →
      GSs T W0 (cxOf CX0 P w K mg base N qual (defScope st) f cdv A outer s H E).nox (defBody st) m) :
    FnOk P w K mg base CX0 (k + 1) f fd ps (spF ⟨K, T⟩ ps.length (run N.length m)) := by
  obtain ⟨oc, od, dV, kV, doc, pm, an, cdv, ct, osl, rfl, lk, hcd, hdv, hkw⟩ := F.ex
  refine fn_of lk hcd S (fun vs H Q E h => h.1) fun A outer s H vs Q E hr hsp => ?_
  refine ⟨_, (hb cdv A outer s H E rfl hr).nox, ?_⟩
  obtain ⟨hl, pp, Z, hpl, hok, r, q⟩ := hsp
  have hN : vs.length ≤ N.length := by
    have e := congrArg List.length S.pre
    rw [List.length_take] at e
    omega
  have e1 : pp.length = vs.length := by omega
  refine ⟨_, Z, rel_start e1 hN r, ?_⟩
  unfold run at q
  cases hm : m (pp ++ List.replicate (N.length - pp.length) .no) with
  | bad => rw [hm] at q; exact q
  | err c en => rw [hm] at q; exact q.elim
  | ok fl en =>
    rw [hm] at q
    intro sg' H' Z' a
    obtain ⟨a2, mo⟩ := aft_out e1 hN hok r a
    cases fl with
    | nx => exact q .non H' Z' a2 .non
    | bk => exact q.elim
    | ct => exact q.elim
    | rt y =>
      intro v hv
      refine q v H' Z' a2 ?_
      cases y with
      | sh d => exact hv
      | ow d =>
        obtain ⟨p, h1, h2, h3, h4, h5⟩ := hv
        exact ⟨p, h1, h2, h3, fun z => h4 (mo p z), h5.imp id (mine_ps e1)⟩
theorem FnOk.up {CX : CXT} {j k : Nat} {f : Addr} {fd : FuncData} {ps : List Str} {sp : Sp} (h : FnOk P w K mg base CX j f fd ps sp) (hj : j ≤ k) : FnOk P w K mg base CX k f fd ps sp :=
  ⟨h.len, fun A outer s H a us vs Q E hr => h.run A outer s H a us vs Q E (hr.mono hj)⟩
end
section
variable {T : List Addr} {E : Wish} {X : Cx} {ps : List Str} {x : Str} {p pos : Pos} {e : Expr} {es : List Expr} {j k : Nat} {np : Nat} {F : Fn}
theorem ge_callH {ms : M (List PyData)} (G : Has X.prog X.w X.K X.mg X.base T x k ps np F) (hr : Room j X.A) (hk : k ≤ j) (hg : Gl X x)
    (ha : GA T E X (e :: es) ms) (hdb : (x == ("__debug__" : Str)) = false := by decide) (he : starEach (e :: es) X.env = (false, eval e X.env) :: starEach es X.env := by rfl) (hpl : (backTo pos (starEach es X.env)).any (·.1) = false := by rfl) :
    GE T E X (.Call (.Name x p) (e :: es) [] pos) (mcall np F ms) := by
  obtain ⟨fd, h1, h2, h3, h4⟩ := G
  exact ge_call h4 (hr.mono hk) hg h1 h2 h3 ha hdb he hpl
theorem ge_callH0 (G : Has X.prog X.w X.K X.mg X.base T x k ps np F) (hr : Room j X.A) (hk : k ≤ j) (hg : Gl X x)
    (hdb : (x == ("__debug__" : Str)) = false := by decide) : GE T E X (.Call (.Name x p) [] [] pos) (mcall np F manil) := by
  obtain ⟨fd, h1, h2, h3, h4⟩ := G
  exact ge_call0 h4 (hr.mono hk) hg h1 h2 h3 hdb
theorem ge_callHI {i : Nat} {y : Str} {py : Pos} {ms : M (List PyData)} (G : Has X.prog X.w X.K X.mg X.base T x k ps np F) (hr : Room j X.A) (hk : k ≤ j) (hg : Gl X x)
    (hv : PE X (.Name y py) (tVar i)) (ha : GA T E X es ms) (hdb : (x == ("__debug__" : Str)) = false := by decide) (he : starEach (.Name y py :: es) X.env = (false, eval (.Name y py) X.env) :: starEach es X.env := by rfl) (hpl : (backTo pos (starEach (.Name y py :: es) X.env)).any (·.1) = false := by rfl) :
    GE T E X (.Call (.Name x p) (.Name y py :: es) [] pos) (mcallI np F i ms) := by
  obtain ⟨fd, h1, h2, h3, h4⟩ := G
  exact ge_callI h4 (hr.mono hk) hg h1 h2 h3 hv ha hdb he hpl
end

/-! ### what the top's names stand for -/
/-- the value is such a tree, of what the top has written -/
def datB (K : PySem.W.Frag) : Nat → Value → PyData → Bool
  | _, .none, .none => true
  | _, .bool b, .bool c => b == c
  | _, .int i _, .int j => decide (i = j)
  | _, .str i _, .str j => decide (i = j)
  | n + 1, .ref a, .tuple ds => (match K.lookup a with
    | some ⟨.type c, _, .seq its _, _⟩ => decide (c = "tuple") && (decide (its.size ≤ sizeLine) && all2 K n its.toList ds)
    | _ => false)
  | n + 1, .ref a, .list ds => (match K.lookup a with
    | some ⟨.type c, none, .seq its _, _⟩ => decide (c = "list") && (decide (its.size ≤ sizeLine) && all2 K n its.toList ds)
    | _ => false)
  | _, _, _ => false
where all2 (K : PySem.W.Frag) (n : Nat) : List Value → List PyData → Bool
  | [], [] => true
  | u :: us, d :: ds => datB K n u d && all2 K n us ds
  | _, _ => false
theorem datB_ok {K : PySem.W.Frag} : ∀ (n : Nat) (u : Value) (d : PyData), datB K n u d = true → ∃ v, RelV v u ∧ ∀ Z, Dp K Z v d := by
  have all : ∀ (n : Nat), (∀ (u : Value) (d : PyData), datB K n u d = true → ∃ v, RelV v u ∧ ∀ Z, Dp K Z v d) → ∀ (us : List Value) (ds : List PyData), datB.all2 K n us ds = true → ∃ vs, Vals vs us ∧ ∀ Z, DpAll K Z vs ds := by
    intro n ih us
    induction us with
    | nil =>
      intro ds h
      cases ds with
      | nil => exact ⟨[], .nil, fun _ => .nil⟩
      | cons d ds => unfold datB.all2 at h; cases h
    | cons u us ih2 =>
      intro ds h
      cases ds with
      | nil => unfold datB.all2 at h; cases h
      | cons d ds =>
        unfold datB.all2 at h
        obtain ⟨h1, h2⟩ := Bool.and_eq_true_iff.mp h
        obtain ⟨v, r1, q1⟩ := ih u d h1
        obtain ⟨vs, r2, q2⟩ := ih2 ds h2
        exact ⟨v :: vs, .cons r1 r2, fun Z => .cons (q1 Z) (q2 Z)⟩
  intro n
  induction n with
  | zero =>
    intro u d h
    unfold datB at h
    split at h
    · exact ⟨.non, rfl, fun _ => .non⟩
    · rename_i b c
      have e : b = c := eq_of_beq h
      subst e
      exact ⟨.bl b, rfl, fun _ => .bl b⟩
    · rename_i i t j
      have e := of_decide_eq_true h
      subst e
      exact ⟨.int i, ⟨t, rfl⟩, fun _ => .int i⟩
    · rename_i i t j
      have e := of_decide_eq_true h
      subst e
      exact ⟨.str i, ⟨t, rfl⟩, fun _ => .str i⟩
    · rename_i e2; cases e2
    · rename_i e2; cases e2
    · cases h
  | succ n ih =>
    intro u d h
    unfold datB at h
    split at h
    · exact ⟨.non, rfl, fun _ => .non⟩
    · rename_i b c
      have e : b = c := eq_of_beq h
      subst e
      exact ⟨.bl b, rfl, fun _ => .bl b⟩
    · rename_i i t j
      have e := of_decide_eq_true h
      subst e
      exact ⟨.int i, ⟨t, rfl⟩, fun _ => .int i⟩
    · rename_i i t j
      have e := of_decide_eq_true h
      subst e
      exact ⟨.str i, ⟨t, rfl⟩, fun _ => .str i⟩
    · rename_i n' a ds en
      cases en
      split at h
      · rename_i c dd its nn sl q
        obtain ⟨h1, h2⟩ := Bool.and_eq_true_iff.mp h
        obtain ⟨h3, h4⟩ := Bool.and_eq_true_iff.mp h2
        have e := of_decide_eq_true h1
        subst e
        obtain ⟨vs, r, qv⟩ := all n ih _ _ h4
        exact ⟨.ref a, rfl, fun Z => .tup (.inr ⟨_, its, nn, q, rfl, rfl, of_decide_eq_true h3, r⟩) (qv Z)⟩
      · cases h
    · rename_i n' a ds en
      cases en
      split at h
      · rename_i c its nn sl q
        obtain ⟨h1, h2⟩ := Bool.and_eq_true_iff.mp h
        obtain ⟨h3, h4⟩ := Bool.and_eq_true_iff.mp h2
        have e := of_decide_eq_true h1
        subst e
        obtain ⟨vs, r, qv⟩ := all n ih _ _ h4
        exact ⟨.ref a, rfl, fun Z => .lst (.inr ⟨_, its, nn, q, rfl, rfl, rfl, of_decide_eq_true h3, r⟩) (qv Z)⟩
      · cases h
    · cases h
/-- the module's name x stands for the tree d -/
def gloB (K : PySem.W.Frag) (x : Str) (d : PyData) : Bool := match PySem.W.nsIn K mainGlobals x with
  | some (some u) => datB K 8 u d
  | _ => false
/-- .. for a dict of trees with these keys -/
def gdcB (K : PySem.W.Frag) (x : Str) (kvs : List (Str × PyData)) : Bool := He.eqO (PySem.W.nsIn K mainGlobals x) (some (some (.ref (He.ga K x)))) && kvs.all fun q => match PySem.W.nsIn K (He.ga K x) q.1 with
  | some (some u) => datB K 8 u q.2
  | _ => false
def Glo (K : PySem.W.Frag) (mg : Str → Option Value) (x : Str) (d : PyData) : Prop := ∃ u v, mg x = some u ∧ RelV v u ∧ ∀ Z, Dp K Z v d
theorem glo_of {K : PySem.W.Frag} {h : Heap} {mg : Str → Option Value} (X : K.In h) (G : h.Ns mainGlobals mg) {x : Str} {d : PyData} (c : gloB K x d = true) : Glo K mg x d := by
  unfold gloB at c
  split at c
  · rename_i u e
    obtain ⟨v, r, q⟩ := datB_ok _ _ _ c
    exact ⟨u, v, PySem.W.mg_of X G e, r, q⟩
  · cases c
def Gdc (K : PySem.W.Frag) (w : World) (mg : Str → Option Value) (x : Str) (kvs : List (Str × PyData)) : Prop := mg x = some (.ref (He.ga K x)) ∧ ∀ z d, kvs.lookup z = some d → ∃ v, KDct K w (He.ga K x) z v ∧ ∀ Z, Dp K Z v d
theorem gdc_of {K : PySem.W.Frag} {w : World} {h : Heap} {mg : Str → Option Value} (X : K.In h) (G : h.Ns mainGlobals mg) {x : Str} {kvs : List (Str × PyData)} (c : gdcB K x kvs = true) (kd : ∃ es n, KDict K w (He.ga K x) es n) : Gdc K w mg x kvs := by
  obtain ⟨c1, c2⟩ := Bool.and_eq_true_iff.mp c
  obtain ⟨es, n, kd⟩ := kd
  refine ⟨PySem.W.mg_of X G (He.eqO_ok c1), fun z d hz => ?_⟩
  have hm : (z, d) ∈ kvs := by
    clear c c2
    induction kvs with
    | nil => cases hz
    | cons q r ih =>
      obtain ⟨k, e⟩ := q
      rw [List.lookup_cons] at hz
      cases hk : z == k with
      | true =>
        rw [hk] at hz
        have e1 : e = d := Option.some.inj hz
        rw [← e1, ← eq_of_beq hk]
        exact List.mem_cons_self
      | false => rw [hk] at hz; exact List.mem_cons_of_mem _ (ih hz)
  have h2 := List.all_eq_true.mp c2 _ hm
  cases e : PySem.W.nsIn K (He.ga K x) z with
  | none => simp only [e] at h2; cases h2
  | some r =>
    cases r with
    | none => simp only [e] at h2; cases h2
    | some u =>
      simp only [e] at h2
      obtain ⟨v, r, q⟩ := datB_ok _ _ _ h2
      exact ⟨v, ⟨es, n, u, kd.at_, kd.lit, e, r⟩, q⟩
section
variable {T : List Addr} {E : Wish} {X : Cx} {a b : Expr} {pos px : Pos} {x : Str} {d : PyData} {q : M Od}
theorem gd_glo (g : Glo X.K X.mg x d) (hg : Gl X x) (hd : (x == ("__debug__" : Str)) = false := by decide) : GD T E X (.Name x pos) (cst d) := by
  obtain ⟨u, v, h1, h2, h3⟩ := g
  exact gd_c (pe_glob hg h1 h2 hd) (h3 _)
def kdix (kvs : List (Str × PyData)) (q : M Od) : M PyData := bnd q fun y => fun en => match look en y with
  | some (.str z) => (match kvs.lookup z with
    | some d => .ok d en
    | none => .bad)
  | _ => .bad
theorem gd_kdix {kvs : List (Str × PyData)} (g : Gdc X.K X.w X.mg x kvs) (hg : Gl X x) (hb : GO T E X b q) (hs : PlainIx b := by intro _ _; rfl) (hd : (x == ("__debug__" : Str)) = false := by decide) : GD T E X (.Subscript (.Name x px) b pos) (kdix kvs q) := by
  obtain ⟨h1, h2⟩ := g
  refine pe_imp (pe_ix ix_kdict (pe_glob (v := .ref (He.ga X.K x)) hg h1 rfl hd) hb hs) fun sg H Q ⟨en, Z, r, q⟩ => ⟨en, Z, r, post_mono (post_bnd r q) fun y en1 H1 Z1 _ ⟨a1, q1⟩ v hv => ?_⟩
  cases hl : look en1 y with
  | none => simp only [hl] at q1; exact q1.elim
  | some dd =>
    have ht := top_of a1.rel hv hl
    cases dd with
    | str z =>
      simp only [hl] at q1
      cases hk : kvs.lookup z with
      | none => simp only [hk] at q1; exact q1.elim
      | some d =>
        simp only [hk] at q1
        obtain ⟨u, k1, k2⟩ := h2 z d hk
        exact ⟨_, z, u, rfl, ht.str, k1, q1 H1 Z1 (Aft.refl a1.rel) u (k2 _)⟩
    | _ => simp only [hl] at q1; exact q1.elim
end
end ZD

namespace ZD
open PySem PySem.Spec PyProof.Rows L2 GxR ZG

/-! ### dicts as trees -/
def sameK (a b : PyData) : Bool := PyData.eqv a b
def putD (kvs : List (PyData × PyData)) (k v : PyData) : List (PyData × PyData) :=
  if (kvs.any fun kv => sameK kv.1 k) = true then kvs.map (fun kv => if sameK kv.1 k = true then (kv.1, v) else kv) else kvs ++ [(k, v)]
def valD (kvs : List (PyData × PyData)) (k : PyData) : Option PyData := (kvs.find? fun kv => sameK kv.1 k).map (·.2)
def mergeD (kvs more : List (PyData × PyData)) : List (PyData × PyData) := more.foldl (fun acc kv => putD acc kv.1 kv.2) kvs
/-- a key of the kinds that are served -/
def keyOfD : PyData → Option Key
  | .int i => some (.inl i)
  | .str x => some (.inr x)
  | _ => none
theorem keyOfD_eq {d : PyData} {k : Key} (h : keyOfD d = some k) : d = keyD k := by
  cases d with
  | int i => cases h; rfl
  | str x => cases h; rfl
  | _ => cases h
theorem keyOfD_key (k : Key) : keyOfD (keyD k) = some k := by cases k <;> rfl
theorem sameK_key (a b : Key) : sameK (keyD a) (keyD b) = decide (a = b) := by
  unfold sameK
  cases a with
  | inl i => cases b with
    | inl j => simp [keyD, PyData.eqv]; rw [Bool.eq_iff_iff]; simp
    | inr j => simp [keyD, PyData.eqv]
  | inr i => cases b with
    | inl j => simp [keyD, PyData.eqv]
    | inr j => simp [keyD, PyData.eqv]; rw [Bool.eq_iff_iff]; simp
inductive DK (K : PySem.W.Frag) (Z : Hp) : List (Key × V) → List (PyData × PyData) → Prop
  | nil : DK K Z [] []
  | cons {k : Key} {v : V} {d : PyData} {kvs : List (Key × V)} {ds : List (PyData × PyData)} : Dp K Z v d → DK K Z kvs ds → DK K Z ((k, v) :: kvs) ((keyD k, d) :: ds)
section
variable {K : PySem.W.Frag} {Z : Hp}
theorem dk_of : ∀ {kvs : List (Key × V)} {ds : List (PyData × PyData)}, ds.map (·.1) = kvs.map (fun p => keyD p.1) → DpAll K Z (kvs.map (·.2)) (ds.map (·.2)) → DK K Z kvs ds
  | [], [], _, _ => .nil
  | [], _ :: _, h, _ => by cases h
  | _ :: _, [], h, _ => by cases h
  | (k, v) :: kvs, (d, e) :: ds, h, q => by
    rw [List.map_cons, List.map_cons] at h q
    have h1 : d = keyD k := (List.cons.inj h).1
    subst h1
    cases q with
    | cons q1 q2 => exact .cons q1 (dk_of (List.cons.inj h).2 q2)
theorem DK.keys : ∀ {kvs : List (Key × V)} {ds : List (PyData × PyData)}, DK K Z kvs ds → ds.map (·.1) = kvs.map (fun p => keyD p.1)
  | _, _, .nil => rfl
  | _, _, .cons _ t => by rw [List.map_cons, List.map_cons, t.keys]
theorem DK.vals : ∀ {kvs : List (Key × V)} {ds : List (PyData × PyData)}, DK K Z kvs ds → DpAll K Z (kvs.map (·.2)) (ds.map (·.2))
  | _, _, .nil => .nil
  | _, _, .cons h t => .cons h t.vals
theorem DK.length : ∀ {kvs : List (Key × V)} {ds : List (PyData × PyData)}, DK K Z kvs ds → kvs.length = ds.length
  | _, _, .nil => rfl
  | _, _, .cons h t => by rw [List.length_cons, List.length_cons, t.length]
theorem DK.mono {Z' : Hp} (hz : ∀ a o, Z a = some o → Z' a = some o) : ∀ {kvs : List (Key × V)} {ds : List (PyData × PyData)}, DK K Z kvs ds → DK K Z' kvs ds
  | _, _, .nil => .nil
  | _, _, .cons h t => .cons (dp_mono hz h) (t.mono hz)
theorem DK.any (k : Key) : ∀ {kvs : List (Key × V)} {ds : List (PyData × PyData)}, DK K Z kvs ds → (ds.any fun kv => sameK kv.1 (keyD k)) = (kvs.any fun kv => decide (kv.1 = k))
  | _, _, .nil => rfl
  | _, _, .cons h t => by rw [List.any_cons, List.any_cons, t.any k, sameK_key]
theorem DK.app : ∀ {kvs kvs' : List (Key × V)} {ds ds' : List (PyData × PyData)}, DK K Z kvs ds → DK K Z kvs' ds' → DK K Z (kvs ++ kvs') (ds ++ ds')
  | _, _, _, _, .nil, q => q
  | _, _, _, _, .cons h t, q => .cons h (t.app q)
theorem DK.map (k : Key) {v : V} {d : PyData} (hv : Dp K Z v d) : ∀ {kvs : List (Key × V)} {ds : List (PyData × PyData)}, DK K Z kvs ds → DK K Z (kvs.map fun kv => if kv.1 = k then (kv.1, v) else kv) (ds.map fun kv => if sameK kv.1 (keyD k) = true then (kv.1, d) else kv)
  | _, _, .nil => .nil
  | _, _, @DK.cons _ _ k' v' d' _ _ h t => by
    rw [List.map_cons, List.map_cons]
    simp only [sameK_key, decide_eq_true_eq]
    by_cases e : k' = k
    · rw [if_pos e, if_pos e]
      exact .cons hv (t.map k hv)
    · rw [if_neg e, if_neg e]
      exact .cons h (t.map k hv)
theorem DK.put {kvs : List (Key × V)} {ds : List (PyData × PyData)} (h : DK K Z kvs ds) (k : Key) {v : V} {d : PyData} (hv : Dp K Z v d) : DK K Z (putK kvs k v) (putD ds (keyD k) d) := by
  unfold putK putD
  rw [h.any k]
  by_cases e : (kvs.any fun kv => decide (kv.1 = k)) = true
  · rw [if_pos e, if_pos e]; exact h.map k hv
  · rw [if_neg e, if_neg e]; exact h.app (.cons hv .nil)
theorem DK.val (k : Key) : ∀ {kvs : List (Key × V)} {ds : List (PyData × PyData)}, DK K Z kvs ds → (∀ d, valD ds (keyD k) = some d → ∃ v, valV kvs k = some v ∧ Dp K Z v d) ∧ (valD ds (keyD k) = none → valV kvs k = none)
  | _, _, .nil => ⟨fun d h => (by cases h), fun _ => rfl⟩
  | _, _, @DK.cons _ _ k' v' d' _ _ h t => by
    have ih := t.val k
    unfold valD valV at ih ⊢
    rw [List.find?_cons, List.find?_cons, sameK_key]
    cases e : decide (k' = k) with
    | true => exact ⟨fun d hd => ⟨v', rfl, by cases hd; exact h⟩, fun z => by cases z⟩
    | false => exact ih
theorem DK.merge : ∀ {more : List (Key × V)} {md : List (PyData × PyData)} {kvs : List (Key × V)} {ds : List (PyData × PyData)}, DK K Z more md → DK K Z kvs ds → DK K Z (mergeK kvs more) (mergeD ds md)
  | _, _, _, _, .nil, q => q
  | _, _, _, _, @DK.cons _ _ k v d kvs2 ds2 h t, q => by
    have := t.merge (q.put k h)
    exact this
theorem dk_zip : ∀ {ks : List Key} {vs : List V} {ds : List PyData}, DpAll K Z vs ds → ks.length = vs.length → DK K Z (ks.zip vs) ((ks.map keyD).zip ds)
  | [], [], _, .nil, _ => .nil
  | _ :: _, [], _, .nil, h => by cases h
  | [], _ :: _, _, .cons _ _, h => by cases h
  | k :: ks, v :: vs, _, .cons h t, hl => .cons h (dk_zip t (by simpa using hl))
theorem own_dk {H : Hp} {v : V} {ds : List (PyData × PyData)} (h : Top K H Z v (.dict ds)) : ∃ a kvs, v = .ref a ∧ H a = some (.dK kvs) ∧ DK K Z kvs ds := by
  obtain ⟨a, kvs, e, h1, h2, h3⟩ := own_dict h
  exact ⟨a, kvs, e, h1, dk_of h2 h3⟩
end
/-! ### a new thing that is not yet all there -/
section
variable {k : Kx} {sg : L2.St} {H H2 Z Z2 : Hp} {en en2 : En} {E : Wish}
theorem aft_hole {p : Addr} {o o' : HO} (r : Rel k sg H Z en) (hp : H p = none) (ho : ∀ ps, o ≠ .tbl ps) (a : Aft k sg (upd H p o) Z en sg H2 Z2 en2) (r0 : Rel k sg (upd H p o) Z en) : H2 p = some o ∧ Z2 p = none ∧ ¬ Mine sg en2 p ∧ Aft k sg H Z en sg (upd H2 p o') Z2 en2 := by
  have nm : ¬ Mine sg en p := fun m => by
    obtain ⟨u, hu, _⟩ := mine_there r m
    rw [hp] at hu; cases hu
  have nt : p ∉ k.T := not_tab r0 upd_same ho
  have h2 : H2 p = some o := a.keep p o upd_same nm nt
  have z2 : Z2 p = none := by
    cases e : Z2 p with
    | none => rfl
    | some u =>
      rcases a.new p u e with q | q | q
      · rw [r.free hp] at q; cases q
      · rw [upd_same] at q; cases q
      · exact absurd q nm
  have nm2 : ¬ Mine sg en2 p := fun m => by
    rcases a.own p m with q | q
    · exact nm q
    · rw [upd_same] at q; cases q
  have up : ∀ b u, b ≠ p → H2 b = some u → upd H2 p o' b = some u := fun b u ne h => by rw [upd_ne ne]; exact h
  have up0 : ∀ b u, H b = some u → upd H p o b = some u := fun b u h => by
    rw [upd_ne (fun e => by rw [e, hp] at h; cases h)]; exact h
  refine ⟨h2, z2, nm2, ⟨⟨fun b u h => up b u (fun e => by rw [e, z2] at h; cases h) (a.rel.sub b u h), fun i s h => ?_, a.rel.dis, fun P hP => ?_⟩, a.zz, fun b u h => ?_, fun b u h m t => up b u (fun e => by rw [e, hp] at h; cases h) (a.keep b u (up0 b u h) m t), fun b h => ?_, a.io⟩⟩
  · obtain ⟨v, hv, q⟩ := a.rel.sl i s h
    refine ⟨v, hv, ?_⟩
    have go : ∀ b d, isOwn s = true → v = some (.ref b) → Own k.K H2 Z2 b d → Own k.K (upd H2 p o') Z2 b d := fun b d hs hb hd => hd.mono (fun u q => up b u (fun e => nm2 ⟨i, s, h, hs, by rw [hv, hb, e]⟩) q) fun _ _ q => q
    cases s with
    | no => trivial
    | sh d => exact q
    | ow d => obtain ⟨b, e, g1, g2⟩ := q; exact ⟨b, e, g1, go b d rfl e g2⟩
    | io d => obtain ⟨b, e, g1, g2⟩ := q; exact ⟨b, e, g1, go b d rfl e g2⟩
  · obtain ⟨⟨ps, p1, p2⟩, p3⟩ := a.rel.tab P hP
    exact ⟨⟨ps, up P _ (fun e => nt (e ▸ hP)) p1, p2⟩, p3⟩
  · rcases a.new b u h with q | q | q
    · exact .inl q
    · refine .inr (.inl ?_)
      by_cases e : b = p
      · rw [e]; exact hp
      · rw [upd_ne e] at q; exact q
    · exact .inr (.inr q)
  · rcases a.own b h with q | q
    · exact .inl q
    · refine .inr ?_
      by_cases e : b = p
      · rw [e]; exact hp
      · rw [upd_ne e] at q; exact q
end
/-! ### {k: v, ..} -/
def mlist : List (M PyData) → M (List PyData)
  | [] => manil
  | m :: ms => macons m (mlist ms)
/-- the keys are written texts or whole numbers -/
def mdisp (ks : List Key) (ms : List (M PyData)) : M Vl := bnd (mlist ms) fun ds => if ds.length = ks.length then ret (.ow (.dict (mergeD [] ((ks.map keyD).zip ds)))) else fail
section
variable {T : List Addr} {E : Wish} {X : Cx} {a b : Expr} {pos : Pos}
def trsOf (k : Kx) (E : Wish) (ks : List Key) (ms : List (M PyData)) : List (TE × TE) := (ks.zip ms).map fun q => (tC (kV q.1), tD k E q.2)
abbrev GPs (T : List Addr) (E : Wish) (X : Cx) (pos : Pos) (keys : List (Option Expr)) (values : List Expr) (ks : List Key) (ms : List (M PyData)) : Prop := PPs X pos keys values (trsOf ⟨X.K, T⟩ E ks ms) ∧ ks.length = ms.length
theorem gps_nil : GPs T E X pos [] [] [] [] := ⟨pps_nil, rfl⟩
theorem gps_str {x : Str} {j : Nat} {p2 : Pos} {keys : List (Option Expr)} {values : List Expr} {ks : List Key} {ms : List (M PyData)} {m : M PyData} (h : GD T E X a m) (hs : GPs T E X pos keys values ks ms) : GPs T E X pos (some (.Constant (.str x) j p2) :: keys) (a :: values) (.inr x :: ks) (m :: ms) :=
  ⟨pps_cons (tk := tC (.str x)) pe_str h hs.1, by rw [List.length_cons, List.length_cons, hs.2]⟩
theorem gps_int {x : Int} {j : Nat} {p2 : Pos} {keys : List (Option Expr)} {values : List Expr} {ks : List Key} {ms : List (M PyData)} {m : M PyData} (h : GD T E X a m) (hs : GPs T E X pos keys values ks ms) : GPs T E X pos (some (.Constant (.int x) j p2) :: keys) (a :: values) (.inl x :: ks) (m :: ms) :=
  ⟨pps_cons (tk := tC (.int x)) pe_int h hs.1, by rw [List.length_cons, List.length_cons, hs.2]⟩
theorem pairs_ok {k : Kx} {sg : L2.St} : ∀ {ks : List Key} {ms : List (M PyData)} {H : Hp} {Q : List (V × V) → Hp → Prop}, ks.length = ms.length → tA k E (mlist ms) sg H (fun vs H1 => Q (ks.map kV |>.zip vs) H1) → tPairs (trsOf k E ks ms) sg H Q
  | [], [], H, Q, _, ⟨en, Z, r, q⟩ => by
    have z := post_ret (a := ([] : List PyData)) r q [] .nil
    exact z
  | [], _ :: _, _, _, h, _ => by cases h
  | _ :: _, [], _, _, h, _ => by cases h
  | k0 :: ks, m :: ms, H, Q, hl, ⟨en, Z, r, q⟩ => by
    show tC (kV k0) sg H fun x H1 => tD k E m sg H1 fun y H2 => tPairs (trsOf k E ks ms) sg H2 fun ps H3 => Q ((x, y) :: ps) H3
    refine ⟨en, Z, r, post_mono (post_bnd r q) fun d en1 H1 Z1 _ ⟨a1, q1⟩ v hv => pairs_ok (by simpa using hl) ⟨en1, Z1, a1.rel, post_mono (post_bnd a1.rel q1) fun ds en2 H2 Z2 _ ⟨a2, q2⟩ vs hvs => ?_⟩⟩
    exact post_ret (a := d :: ds) a2.rel q2 (v :: vs) (.cons (dp_mono a2.zz hv) hvs)
theorem zip_map_kV : ∀ (ks : List Key) (vs : List V), (ks.map kV).zip vs = (ks.zip vs).map fun kv => (kV kv.1, kv.2)
  | [], _ => rfl
  | _ :: _, [] => rfl
  | k :: ks, v :: vs => by rw [List.map_cons, List.zip_cons_cons, List.zip_cons_cons, List.map_cons, zip_map_kV ks vs]
theorem ge_disp {keys : List (Option Expr)} {values : List Expr} {ks : List Key} {ms : List (M PyData)} (h : GPs T E X pos keys values ks ms) (h15k : ks.length ≤ 15) (hall : keys.all (·.isSome) = true := by rfl) (hl : keys.length = values.length := by rfl) (h0 : keys ≠ [] := by intro h; cases h)
    (h15 : keys.length ≤ 15 := by decide) : GE T E X (.Dict keys values pos) (mdisp ks ms) :=
  pe_imp (pe_disp h.1 hall hl h0 h15) fun sg H Q ⟨en, Z, r, q⟩ p hp => by
    have a0 := aft_new (o := .dK []) r hp
    -- the values, from the heap with the empty dict
    have key : ∀ P, Post ⟨X.K, T⟩ E sg H Z en (mdisp ks ms en) P → Post ⟨X.K, T⟩ E sg (upd H p (.dK [])) Z en (mlist ms en) fun ds en1 H1 Z1 => ds.length = ks.length ∧ H1 p = some (.dK []) ∧ ∀ (o' : HO), Own X.K (upd H1 p o') Z1 p (.dict (mergeD [] ((ks.map keyD).zip ds))) → ∃ x : Vl, x = .ow (.dict (mergeD [] ((ks.map keyD).zip ds))) ∧ P x en1 (upd H1 p o') Z1 ∧ VlOk ⟨X.K, T⟩ sg H en sg (upd H1 p o') Z1 en1 (.ref p) x := by
      intro P hP
      unfold mdisp bnd at hP
      cases hm : mlist ms en with
      | bad => rw [hm] at hP; exact hP
      | err c en1 =>
        rw [hm] at hP
        intro H1 Z1 a1
        exact hP H1 Z1 (a0.trans a1 r)
      | ok ds en1 =>
        rw [hm] at hP
        by_cases hlen : ds.length = ks.length
        case neg =>
          dsimp only at hP
          rw [if_neg hlen] at hP
          exact False.elim hP
        dsimp only at hP
        rw [if_pos hlen] at hP
        intro H1 Z1 a1
        have hh := fun o' => aft_hole (o' := o') r hp (fun ps e => by cases e) a1 a0.rel
        refine ⟨hlen, (hh (.dK [])).1, fun o' ho => ⟨_, rfl, ?_, ?_⟩⟩
        · exact hP _ _ (hh o').2.2.2
        · exact ⟨p, rfl, (hh o').2.1, ho, (hh o').2.2.1, .inl hp⟩
    refine pairs_ok h.2 ⟨en, Z, a0.rel, post_mono (key _ q) fun ds en1 H1 Z1 a1 ⟨h0l, h1, h2⟩ vs hvs => ⟨h1, ks.zip vs, zip_map_kV ks vs, ?_, ?_⟩⟩
    · rw [List.length_zip]; omega
    · have hlen : ks.length = vs.length := by rw [dpa_length hvs, h0l]
      have dk : DK X.K Z1 (mergeK [] (ks.zip vs)) (mergeD [] ((ks.map keyD).zip ds)) := (dk_zip hvs hlen).merge .nil
      obtain ⟨x, rfl, h3, h4⟩ := h2 (.dK (mergeK [] (ks.zip vs))) (.dct upd_same dk.keys dk.vals)
      exact h3 (.ref p) h4
/-! ### d[k] of a dict -/
def oDix : PyData → PyData → Out
  | .dict kvs, k => (match keyOfD k with
    | some _ => gotD (valD kvs k)
    | none => .bad)
  | _, _ => .bad
def rDix : R2 := fun x y H Q => ∃ a v, x = V.ref a ∧ DGet H a y (some v) ∧ Q v H
theorem keyV {K : PySem.W.Frag} {H Z : Hp} {v : V} {k : Key} (h : Top K H Z v (keyD k)) : v = kV k := by
  cases k with
  | inl i => exact h.int
  | inr x => exact h.str
theorem says_dix : Says2 X.K oDix rDix := by
  intro H Z v w d e Q hz hv hw ho
  cases d with
  | dict kvs =>
    simp only [oDix] at ho
    cases hk : keyOfD e with
    | none => rw [hk] at ho; exact False.elim ho
    | some k =>
      rw [hk] at ho
      have ek := keyOfD_eq hk
      subst ek
      obtain ⟨a, kv, rfl, h1, h2⟩ := own_dk hv
      obtain ⟨y, e1, q⟩ := got_ok ho
      obtain ⟨u, e2, hd⟩ := (h2.val k).1 y e1
      refine ⟨a, u, rfl, ?_, q u hd⟩
      rw [keyV hw, ← e2]
      exact .k h1
  | _ => exact False.elim ho
theorem ge_dixv {k : Nat} {m : M Vl} {q : M Od} (hr : Room k X.A) (ha : GE T E X a m) (hb : GO T E X b q) (hs : NoSl b := by intro _ _; rfl) : GE T E X (.Subscript a b pos) (opv2 oDix m q) :=
  ge_opv2 ha hb (fun _ _ h1 h2 => pe_dget (by have := hr.un; omega) h1 h2 hs) says_dix
theorem ge_dix {k : Nat} {p q : M Od} (hr : Room k X.A) (ha : GO T E X a p) (hb : GO T E X b q) (hs : NoSl b := by intro _ _; rfl) : GE T E X (.Subscript a b pos) (op2 oDix p q) :=
  ge_op2 ha hb (fun _ _ h1 h2 => pe_dget (by have := hr.un; omega) h1 h2 hs) says_dix
end
end ZD
namespace ZD
open PySem PySem.Spec PyProof.Rows L2 GxR ZG
def blkB (N : List Str) (sc scope : Scope) (own : List (Str × Nat)) : Bool := decide (scope.kind = .function) && (scope.names.all fun y => decide (scope.names.lookup y.1 = some y.2)) && (own.all fun p => decide (N[p.2]? = some p.1)) &&
  (scope.names.all fun y => !decide (y.2 = .free) || (decide (sc.names.lookup y.1 = some .cell) || decide (sc.names.lookup y.1 = some .free))) && (scope.names.all fun y => !(decide (y.2 = .local) || decide (y.2 = .cell)) || (decide (y.1 ∈ own.map (·.1)) || !decide (y.1 ∈ N)))
theorem blk_of {N : List Str} {sc scope : Scope} {own : List (Str × Nat)} (h : blkB N sc scope own = true) : BlkOk N sc scope own := by
  unfold blkB at h
  simp only [Bool.and_eq_true, List.all_eq_true, decide_eq_true_eq, Bool.or_eq_true, Bool.not_eq_true', decide_eq_false_iff_not] at h
  obtain ⟨⟨⟨⟨h1, h2⟩, h3⟩, h4⟩, h5⟩ := h
  refine ⟨h1, h2, h3, fun y hy e => (h4 y hy).resolve_left (fun z => z e), fun y hy e => ?_⟩
  rcases h5 y hy with z | z
  · exfalso
    simp only [Bool.or_eq_false_iff, decide_eq_false_iff_not] at z
    rcases e with e | e
    · exact z.1 e
    · exact z.2 e
  · exact z
end ZD
namespace ZD
open PySem PySem.Spec PyProof.Rows L2 GxR ZG
theorem code_of {K : PySem.W.Frag} {p : He.Defn} {x q : Str} {pa : Arguments} {bd : List Stmt} {sc : Scope} {dvs : List V} {kws : List (Str × V)} {f : Addr} {fd : FuncData} (F : FunD K x q pa bd sc dvs kws f fd) (hf : f = He.fAd K p) : fd.code = .ref (He.codeOf K p) := by
  obtain ⟨oc, od, dV, kV, doc, pm, an, cdv, ct, osl, rfl, lk, hcd, _, _⟩ := F.ex
  obtain ⟨c, rfl⟩ := He.codeIn_ref hcd
  rw [He.codeOf_eq (c := c) (by rw [← hf]; exact lk) rfl]
end ZD

namespace ZD
open PySem PySem.Spec PyProof.Rows L2 GxR ZG

/-! ### the end of a law -/
def scr (ns : List Int) : List Sl := [.sh (.list (ns.map .int))]
theorem dp_ints {K : PySem.W.Frag} {Z : Hp} : ∀ ns : List Int, DpAll K Z (ns.map V.int) (ns.map .int)
  | [] => .nil
  | n :: ns => .cons (.int n) (dp_ints ns)
theorem law_sp {K : PySem.W.Frag} {T : List Addr} {F : Fn} {ns : List Int} {en' : En} {H : Hp} {a : Addr} (hF : F (scr ns) = .ok (.sh (.bool true)) en') (hT : ∀ P ∈ T, H P = some (.tbl #[])) (hS : SqL K H a (ns.map V.int)) :
    spF ⟨K, T⟩ 1 F [.ref a] H (fun v _ => v = .bl true) fun _ _ _ => False := by
  -- what is fixed: the script's list, where it is tracked
  obtain ⟨Z, hz, hs, ht⟩ : ∃ Z : Hp, (∀ b o, Z b = some o → H b = some o) ∧ SqL K Z a (ns.map V.int) ∧ ∀ P ∈ T, Z P = none := by
    rcases hS with hS | hS
    · refine ⟨fun b => if b = a then H a else none, fun b o h => ?_, ?_, fun P hP => ?_⟩
      · by_cases e : b = a
        · simp only [e, if_true] at h; rw [e]; exact h
        · simp only [e, if_false] at h; cases h
      · rcases hS with h | ⟨o, h⟩
        · exact .inl (.inl (by simp only [if_true]; exact h))
        · exact .inl (.inr ⟨o, by simp only [if_true]; exact h⟩)
      · by_cases e : P = a
        · exfalso
          have h1 := hT P hP
          rw [e] at h1
          rcases hS with h | ⟨o, h⟩
          · rw [h1] at h; cases h
          · rw [h1] at h; cases h
        · simp only [e, if_false]
    · exact ⟨fun _ => none, (fun b o h => nomatch h), .inr hS, fun _ _ => rfl⟩
  refine ⟨rfl, scr ns, Z, rfl, rfl, ⟨hz, fun i s h => ?_, fun i j s t b h1 h2 h3 _ _ _ => ?_, fun P hP => ⟨⟨#[], hT P hP, trivial⟩, ht P hP⟩⟩, ?_⟩
  · cases i with
    | zero =>
      cases h
      exact ⟨some (.ref a), rfl, .ref a, rfl, .lst hs (dp_ints ns)⟩
    | succ i => cases h
  · cases i with
    | zero => cases h1; cases h3
    | succ i => cases h1
  · rw [hF]
    intro v H' Z' _ hv
    have hv : Dp K Z' v (.bool true) := hv
    cases hv
    rfl
theorem tab_bl {base : Heap} {mg : Str → Option Value} {c P : Addr} (t : LamX.TabB base mg c P) : GxR.TabB base mg c P := ⟨t.code, t.bm, t.gP⟩
theorem ex_get {l : List Bool} (h : l.all (fun b => b) = true) (i : Nat) {b : Bool} (hi : l[i]? = some b := by rfl) : b = true := List.all_eq_true.mp h b (List.mem_of_getElem? hi)
/-- a law's end: F_law gives true at each script -/
theorem law_at {l : PySem.W.OpenLaw} {w : World} {K : PySem.W.Frag} {mg : Str → Option Value} {h : Heap} {fa : List He.Fa} {fn : List He.DefD} {ts : List He.Tab} {tf : List He.Defn} {ex : PySem.W.Frag → Bool} {F : Fn} {k : Nat} {f : Addr} {fd : FuncData} {n : Nat} {x : Str}
    (KX : K.In h) (c : He.SaysX fa fn ts tf ex w h K) (hb : ∀ (s : Shared) (u : Value), BindsTo s fd ⟨[u], []⟩ [(x, u)])
    (hF : ∀ ns : List Int, ns.length ≤ n → (∀ z ∈ ns, Builtin.Int.intBits z ≤ 1048576) → ∃ en', F (scr ns) = .ok (.sh (.bool true)) en')
    (hfn : ∀ base : Heap, K.In base → base.Ns mainGlobals mg → (∀ p ∈ tf, GxR.TabB base mg (He.cT K p).1 (He.cT K p).2) → FnOk l.prog w K mg base CX0 k f fd [x] (spF ⟨K, tf.map fun p => (He.cT K p).2⟩ 1 F)) :
    LamX.LawAtS l w K CX0 k n x mg f h := by
  refine ⟨fd, tf.map (He.cT K), spF ⟨K, tf.map fun p => (He.cT K p).2⟩ 1 F, fun p hp => ?_, fun p hp => ?_, fun p hp => ?_, hb, fun H a ns hl hbits hT hS => ?_, fun base X G TB => hfn base X G fun p hp => tab_bl (TB _ (List.mem_map.mpr ⟨p, hp, rfl⟩))⟩
  · obtain ⟨q, hq, rfl⟩ := List.mem_map.mp hp
    exact c.empty q hq
  · obtain ⟨q, hq, rfl⟩ := List.mem_map.mp hp
    exact c.out q hq
  · obtain ⟨q, hq, rfl⟩ := List.mem_map.mp hp
    exact PySem.W.codeHd_of_K KX (c.hd q hq)
  · obtain ⟨en', e⟩ := hF ns hl hbits
    refine law_sp e (fun P hP => ?_) hS
    obtain ⟨q, hq, rfl⟩ := List.mem_map.mp hP
    exact hT _ (List.mem_map.mpr ⟨q, hq, rfl⟩)
end ZD

/-! reckoning with the functions of trees: plain Lean, no program -/
namespace ZD
open PySem

theorem bnd_ok {α β : Type} {m : M α} {f : α → M β} {en en1 : En} {a : α} (h : m en = .ok a en1) : bnd m f en = f a en1 := by unfold bnd; rw [h]
/-- m comes through, and Q holds behind it -/
def WP {α : Type} (m : M α) (en : En) (Q : α → En → Prop) : Prop := ∃ a en', m en = .ok a en' ∧ Q a en'
section
variable {α β : Type} {en en1 : En}
theorem wp_eq {m : M α} {a : α} {Q : α → En → Prop} (h : m en = .ok a en1) (q : Q a en1) : WP m en Q := ⟨a, en1, h, q⟩
theorem wp_mono {m : M α} {Q Q' : α → En → Prop} (h : WP m en Q) (i : ∀ a en', Q a en' → Q' a en') : WP m en Q' := let ⟨a, e, h1, h2⟩ := h; ⟨a, e, h1, i _ _ h2⟩
theorem wp_ret {a : α} {Q : α → En → Prop} (q : Q a en) : WP (ret a) en Q := ⟨a, en, rfl, q⟩
theorem wp_bnd {m : M α} {f : α → M β} {Q : β → En → Prop} (h : WP m en fun a e => WP (f a) e Q) : WP (bnd m f) en Q := by
  obtain ⟨a, e, h1, b, e2, h2, h3⟩ := h
  exact ⟨b, e2, by rw [bnd_ok h1]; exact h2, h3⟩
theorem wp_fn {m : M α} {r : Res α} {Q : α → En → Prop} (h : m en = r) (q : ∃ a e, r = .ok a e ∧ Q a e) : WP m en Q := by
  obtain ⟨a, e, h1, h2⟩ := q
  exact ⟨a, e, h.trans h1, h2⟩
theorem wp_cst {d : PyData} {Q : PyData → En → Prop} (q : Q d en) : WP (cst d) en Q := wp_ret q
theorem wp_shV {m : M PyData} {Q : Vl → En → Prop} (h : WP m en fun d e => Q (.sh d) e) : WP (shV m) en Q := wp_bnd (wp_mono h fun _ _ q => wp_ret q)
theorem wp_odD {m : M PyData} {Q : Od → En → Prop} (h : WP m en fun d e => Q (.d d) e) : WP (odD m) en Q := wp_bnd (wp_mono h fun _ _ q => wp_ret q)
/-- a new list is as good as any other -/
def frzV : Vl → Option PyData
  | .sh d => some d
  | .ow (.list ds) => some (.list ds)
  | .ow _ => none
theorem wp_fz {m : M Vl} {Q : PyData → En → Prop} (h : WP m en fun x e => ∃ d, frzV x = some d ∧ Q d e) : WP (fz m) en Q := wp_bnd (wp_mono h fun x e ⟨d, h1, q⟩ => by
  cases x with
  | sh d' => cases h1; exact wp_ret q
  | ow d' =>
    cases d' with
    | list ds => cases h1; exact wp_ret q
    | _ => cases h1)
theorem wp_nm {i : Nat} {d : PyData} {Q : Od → En → Prop} (h : en[i]? = some (.sh d)) (q : Q (.d d) en) : WP (nm i) en Q := ⟨_, en, by unfold nm; rw [h], q⟩
theorem wp_nv {i : Nat} {d : PyData} {Q : PyData → En → Prop} (h : en[i]? = some (.sh d)) (q : Q d en) : WP (nv i) en Q := ⟨_, en, by unfold nv; rw [h], q⟩
theorem wp_op1 {f : PyData → Out} {p : M Od} {Q : Vl → En → Prop} (h : WP p en fun x e => ∃ d, look e x = some d ∧ WP (out (f d)) e Q) : WP (op1 f p) en Q := wp_bnd (wp_mono h fun x e ⟨d, h1, q⟩ => by
  obtain ⟨a, e', h2, h3⟩ := q
  exact ⟨a, e', by simp only [h1]; exact h2, h3⟩)
theorem wp_op2 {f : PyData → PyData → Out} {p q : M Od} {Q : Vl → En → Prop} (h : WP p en fun x e => WP q e fun y e2 => ∃ d d2, look e2 x = some d ∧ look e2 y = some d2 ∧ WP (out (f d d2)) e2 Q) : WP (op2 f p q) en Q :=
  wp_bnd (wp_mono h fun x e h2 => wp_bnd (wp_mono h2 fun y e2 ⟨d, d2, l1, l2, a, e', h3, h4⟩ => ⟨a, e', by simp only [l1, l2]; exact h3, h4⟩))
theorem wp_mseq {m n : M Fl} {Q : Fl → En → Prop} (h : WP m en fun fl e => match fl with
    | .nx => WP n e Q
    | f => Q f e) : WP (mseq m n) en Q := wp_bnd (wp_mono h fun fl e q => by
  cases fl with
  | nx => exact q
  | rt x => exact wp_ret q
  | bk => exact wp_ret q
  | ct => exact wp_ret q)
theorem wp_mret {m : M Vl} {Q : Fl → En → Prop} (h : WP m en fun x e => Q (.rt x) e) : WP (mret m) en Q := wp_bnd (wp_mono h fun _ _ q => wp_ret q)
theorem wp_mifS {t : M Bool} {m n : M Fl} {Q : Fl → En → Prop} (h : WP t en fun b e => if b = true then WP m e Q else WP n e Q) : WP (mifS t m n) en Q := wp_bnd (wp_mono h fun b e q => by
  cases b with
  | true => exact q
  | false => exact q)
theorem wp_mif {t : M Bool} {m n : M α} {Q : α → En → Prop} (h : WP t en fun b e => if b = true then WP m e Q else WP n e Q) : WP (mif t m n) en Q := wp_bnd (wp_mono h fun b e q => by
  cases b with
  | true => exact q
  | false => exact q)
theorem wp_tst {m : M PyData} {Q : Bool → En → Prop} (h : WP m en fun d e => ∃ b, d = .bool b ∧ Q b e) : WP (tst m) en Q := wp_bnd (wp_mono h fun d e ⟨b, e1, q⟩ => by subst e1; exact wp_ret q)
theorem wp_mnot {m : M Bool} {Q : Bool → En → Prop} (h : WP m en fun b e => Q (!b) e) : WP (mnot m) en Q := wp_bnd (wp_mono h fun b e q => wp_ret q)
theorem wp_mand {m n : M Bool} {Q : Bool → En → Prop} (h : WP m en fun b e => if b = true then WP n e Q else Q false e) : WP (mand m n) en Q := wp_bnd (wp_mono h fun b e q => by
  cases b with
  | true => exact q
  | false => exact wp_ret q)
theorem wp_mor {m n : M Bool} {Q : Bool → En → Prop} (h : WP m en fun b e => if b = true then Q true e else WP n e Q) : WP (mor m n) en Q := wp_bnd (wp_mono h fun b e q => by
  cases b with
  | true => exact wp_ret q
  | false => exact q)
theorem wp_macons {m : M PyData} {ms : M (List PyData)} {Q : List PyData → En → Prop} (h : WP m en fun d e => WP ms e fun ds e2 => Q (d :: ds) e2) : WP (macons m ms) en Q := wp_bnd (wp_mono h fun d e q => wp_bnd (wp_mono q fun ds e2 q2 => wp_ret q2))
theorem wp_manil {Q : List PyData → En → Prop} (q : Q [] en) : WP manil en Q := wp_ret q
theorem wp_mtup {ms : M (List PyData)} {Q : PyData → En → Prop} (h : WP ms en fun ds e => ds.length ≤ 1000 ∧ Q (.tuple ds) e) : WP (mtup ms) en Q := wp_bnd (wp_mono h fun ds e ⟨h1, q⟩ => by rw [if_pos h1]; exact wp_ret q)
theorem wp_mlst {ms : M (List PyData)} {Q : Vl → En → Prop} (h : WP ms en fun ds e => ds.length ≤ 1000 ∧ Q (.ow (.list ds)) e) : WP (mlst ms) en Q := wp_bnd (wp_mono h fun ds e ⟨h1, q⟩ => by rw [if_pos h1]; exact wp_ret q)
theorem wp_asgN {i : Nat} {m : M Vl} {Q : Fl → En → Prop} (h : WP m en fun x e => ∃ s, e[i]? = some s ∧ (∀ d, s ≠ .io d) ∧ Q .nx (e.set i (slOf x))) : WP (asgN i m) en Q := wp_bnd (wp_mono h fun x e ⟨s, h1, h2, q⟩ => by
  refine ⟨.nx, _, ?_, q⟩
  unfold masg
  rw [h1]
  cases s with
  | io d => exact absurd rfl (h2 d)
  | _ => rfl)
theorem wp_seqM {m : M PyData} {Q : List PyData → En → Prop} (h : WP m en fun d e => ∃ ds, (d = .list ds ∨ d = .tuple ds) ∧ Q ds e) : WP (seqM m) en Q := wp_bnd (wp_mono h fun d e ⟨ds, h1, q⟩ => by
  rcases h1 with rfl | rfl
  · exact wp_ret q
  · exact wp_ret q)
theorem wp_rngM1 {m : M PyData} {Q : List PyData → En → Prop} (h : WP m en fun d e => ∃ n : Int, d = .int n ∧ n < 2 ^ 62 ∧ -(2 ^ 62) ≤ n ∧ Q (rngL 0 n.toNat) e) : WP (rngM1 m) en Q := wp_bnd (wp_mono h fun d e ⟨n, h1, h2, h3, q⟩ => by
  subst h1
  dsimp only
  rw [if_pos ⟨h2, h3⟩]
  exact wp_ret q)
/-- a loop, by what holds ahead of each turn -/
theorem wp_forM {f : TgF} {body : M Fl} {Q : Fl → En → Prop} {ds0 : List PyData} (I : Nat → En → Prop) (hend : ∀ e, I ds0.length e → Q .nx e)
    (step : ∀ (i : Nat) (d : PyData) (e : En), ds0[i]? = some d → I i e → WP (f d) e fun fl e1 => fl = .nx ∧ WP body e1 fun g e2 => match g with
      | .nx => I (i + 1) e2
      | .ct => I (i + 1) e2
      | .bk => Q .nx e2
      | .rt x => Q (.rt x) e2) : ∀ (n i : Nat) (e : En), i + n = ds0.length → I i e → WP (forM f body (ds0.drop i)) e Q
  | 0, i, e, hi, h => by
    rw [List.drop_of_length_le (by omega)]
    have : i = ds0.length := by omega
    exact wp_ret (hend e (this ▸ h))
  | n + 1, i, e, hi, h => by
    have hlt : i < ds0.length := by omega
    rw [List.drop_eq_getElem_cons hlt]
    unfold forM
    refine wp_bnd (wp_mono (step i _ e (List.getElem?_eq_getElem hlt) h) fun fl e1 ⟨h1, q⟩ => ?_)
    subst h1
    refine wp_bnd (wp_mono q fun g e2 q2 => ?_)
    cases g with
    | nx => exact wp_forM I hend step n (i + 1) e2 (by omega) q2
    | ct => exact wp_forM I hend step n (i + 1) e2 (by omega) q2
    | bk => exact wp_ret q2
    | rt x => exact wp_ret q2
theorem wp_mfor {m : M (List PyData)} {f : TgF} {body : M Fl} {Q : Fl → En → Prop} (h : WP m en fun ds e => ∃ I : Nat → En → Prop, I 0 e ∧ (∀ e, I ds.length e → Q .nx e) ∧ ∀ (i : Nat) (d : PyData) (e : En), ds[i]? = some d → I i e → WP (f d) e fun fl e1 => fl = .nx ∧ WP body e1 fun g e2 => match g with
      | .nx => I (i + 1) e2
      | .ct => I (i + 1) e2
      | .bk => Q .nx e2
      | .rt x => Q (.rt x) e2) : WP (mfor m f body) en Q := wp_bnd (wp_mono h fun ds e ⟨I, h0, h1, h2⟩ => by
  have z := wp_forM I h1 h2 ds.length 0 e (by omega) h0
  rw [List.drop_zero] at z
  exact z)
/-- a def is called -/
theorem wp_mcall {np : Nat} {F : Fn} {ms : M (List PyData)} {Q : Vl → En → Prop} (h : WP ms en fun ds e => ds.length = np ∧ ∃ x e', F (ds.map .sh) = .ok x e' ∧ Q x e) : WP (mcall np F ms) en Q := wp_bnd (wp_mono h fun ds e ⟨h1, x, e', h2, q⟩ => ⟨x, e, by dsimp only; rw [if_pos h1, h2], q⟩)
theorem wp_mcallI {np : Nat} {F : Fn} {i : Nat} {ms : M (List PyData)} {Q : Vl → En → Prop} {d0 : PyData} (h0 : en[i]? = some (.ow d0) ∨ en[i]? = some (.io d0))
    (h : WP ms en fun ds e => ds.length + 1 = np ∧ ∃ d x d' r, F (.io d :: ds.map .sh) = .ok x (.io d' :: r) ∧ ((e[i]? = some (.ow d) ∧ Q x (e.set i (.ow d'))) ∨ (e[i]? = some (.io d) ∧ Q x (e.set i (.io d'))))) : WP (mcallI np F i ms) en Q := by
  have h1 : (en[i]?.map isOwn).getD false = true := by rcases h0 with h0 | h0 <;> rw [h0] <;> rfl
  obtain ⟨ds, e, h2, h3, d, x, d', r, h4, h5⟩ := h
  unfold mcallI WP
  simp only [h1, if_true]
  rw [bnd_ok h2, if_pos h3]
  rcases h5 with ⟨h5, q⟩ | ⟨h5, q⟩
  · exact ⟨x, _, by rw [h5]; dsimp only; rw [h4], q⟩
  · exact ⟨x, _, by rw [h5]; dsimp only; rw [h4], q⟩
/-- a def, from its body -/
theorem run_wp {n : Nat} {m : M Fl} {ps : List Sl} {Q : Vl → En → Prop} (h : WP m (ps ++ List.replicate (n - ps.length) .no) fun fl e => match fl with
    | .rt x => Q x e
    | .nx => Q (.sh .none) e
    | _ => False) : ∃ x e, run n m ps = .ok x e ∧ Q x e := by
  obtain ⟨fl, e, h1, h2⟩ := h
  unfold run
  rw [h1]
  cases fl with
  | rt x => exact ⟨x, e, rfl, h2⟩
  | nx => exact ⟨_, e, rfl, h2⟩
  | bk => exact h2.elim
  | ct => exact h2.elim
/-- walks over a row, nothing is changed -/
theorem compL_pure {vs : List Nat} {f : TgF} {t : M Bool} {e : M PyData} {g : PyData → Option PyData} : ∀ (ds : List PyData), (∀ d ∈ ds, stepC vs f t e d en = .ok (g d) en) → compL vs f t e ds en = .ok (ds.filterMap g) en
  | [], _ => rfl
  | d :: ds, h => by
    rw [compL_cons, bnd_ok (h d List.mem_cons_self), bnd_ok (compL_pure ds fun x hx => h x (List.mem_cons_of_mem _ hx)), List.filterMap_cons]
    cases g d <;> rfl
theorem allL_pure {vs : List Nat} {f : TgF} {t : M Bool} {e : M PyData} {g : PyData → Bool} : ∀ (ds : List PyData), (∀ d ∈ ds, stepC vs f t e d en = .ok (some (.bool (g d))) en) → allL vs f t e ds en = .ok (ds.all g) en
  | [], _ => rfl
  | d :: ds, h => by
    rw [allL, bnd_ok (h d List.mem_cons_self), List.all_cons]
    cases hg : g d with
    | true => simp only [Bool.true_and]; exact allL_pure ds fun x hx => h x (List.mem_cons_of_mem _ hx)
    | false => rfl
theorem anyL_pure {vs : List Nat} {f : TgF} {t : M Bool} {e : M PyData} {g : PyData → Bool} : ∀ (ds : List PyData), (∀ d ∈ ds, stepC vs f t e d en = .ok (some (.bool (g d))) en) → anyL vs f t e ds en = .ok (ds.any g) en
  | [], _ => rfl
  | d :: ds, h => by
    rw [anyL, bnd_ok (h d List.mem_cons_self), List.any_cons]
    cases hg : g d with
    | false => simp only [Bool.false_or]; exact anyL_pure ds fun x hx => h x (List.mem_cons_of_mem _ hx)
    | true => rfl
theorem wp_mcomp {vs : List Nat} {m : M (List PyData)} {f : TgF} {t : M Bool} {e : M PyData} {Q : Vl → En → Prop} (h : WP m en fun ds e1 => ds.length ≤ 1000000 ∧ wipeable e1 vs = true ∧ ∃ g : PyData → Option PyData, (∀ d ∈ ds, stepC vs f t e d (wipeE e1 vs) = .ok (g d) (wipeE e1 vs)) ∧ Q (.ow (.list (ds.filterMap g))) (restE e1 (wipeE e1 vs) vs)) : WP (mcomp vs m f t e) en Q :=
  wp_bnd (wp_mono h fun ds e1 ⟨h1, h2, g, h3, q⟩ => by
    rw [if_pos h1]
    refine wp_bnd ⟨_, _, ?_, wp_ret q⟩
    unfold blk
    rw [if_pos h2, compL_pure ds h3])
theorem wp_mall {vs : List Nat} {m : M (List PyData)} {f : TgF} {t : M Bool} {e : M PyData} {Q : PyData → En → Prop} (h : WP m en fun ds e1 => wipeable e1 vs = true ∧ ∃ g : PyData → Bool, (∀ d ∈ ds, stepC vs f t e d (wipeE e1 vs) = .ok (some (.bool (g d))) (wipeE e1 vs)) ∧ Q (.bool (ds.all g)) (restE e1 (wipeE e1 vs) vs)) : WP (mall vs m f t e) en Q :=
  wp_bnd (wp_mono h fun ds e1 ⟨h2, g, h3, q⟩ => by
    refine wp_bnd ⟨_, _, ?_, wp_ret q⟩
    unfold blk
    rw [if_pos h2, allL_pure ds h3])
theorem wp_many {vs : List Nat} {m : M (List PyData)} {f : TgF} {t : M Bool} {e : M PyData} {Q : PyData → En → Prop} (h : WP m en fun ds e1 => wipeable e1 vs = true ∧ ∃ g : PyData → Bool, (∀ d ∈ ds, stepC vs f t e d (wipeE e1 vs) = .ok (some (.bool (g d))) (wipeE e1 vs)) ∧ Q (.bool (ds.any g)) (restE e1 (wipeE e1 vs) vs)) : WP (many vs m f t e) en Q :=
  wp_bnd (wp_mono h fun ds e1 ⟨h2, g, h3, q⟩ => by
    refine wp_bnd ⟨_, _, ?_, wp_ret q⟩
    unfold blk
    rw [if_pos h2, anyL_pure ds h3])
/-- .. where each turn may change what is one's own: I, by the turn and what is there so far -/
theorem wp_compL {vs : List Nat} {f : TgF} {t : M Bool} {e : M PyData} {Q : List PyData → En → Prop} {ds0 : List PyData} (I : Nat → List PyData → En → Prop) (hend : ∀ ys en', I ds0.length ys en' → Q ys en')
    (step : ∀ (i : Nat) (d : PyData) (ys : List PyData) (en' : En), ds0[i]? = some d → I i ys en' → WP (stepC vs f t e d) en' fun oy en2 => I (i + 1) (ys ++ oy.toList) en2) :
    ∀ (n i : Nat) (ys : List PyData) (en' : En), i + n = ds0.length → I i ys en' → WP (compL vs f t e (ds0.drop i)) en' fun zs en2 => Q (ys ++ zs) en2
  | 0, i, ys, en', hi, h => by
    rw [List.drop_of_length_le (by omega)]
    have : i = ds0.length := by omega
    exact wp_ret (by rw [List.append_nil]; exact hend ys en' (this ▸ h))
  | n + 1, i, ys, en', hi, h => by
    have hlt : i < ds0.length := by omega
    rw [List.drop_eq_getElem_cons hlt]
    obtain ⟨oy, en2, h1, h2⟩ := step i _ ys en' (List.getElem?_eq_getElem hlt) h
    obtain ⟨zs, en3, h3, h4⟩ := wp_compL I hend step n (i + 1) _ en2 (by omega) h2
    refine ⟨oy.toList ++ zs, en3, ?_, by dsimp only; rw [← List.append_assoc]; exact h4⟩
    rw [compL_cons, bnd_ok h1, bnd_ok h3]
    rfl
theorem wp_mcompI {vs : List Nat} {m : M (List PyData)} {f : TgF} {t : M Bool} {e : M PyData} {Q : Vl → En → Prop} (h : WP m en fun ds e1 => ds.length ≤ 1000000 ∧ wipeable e1 vs = true ∧ ∃ I : Nat → List PyData → En → Prop, I 0 [] (wipeE e1 vs) ∧ (∀ ys en', I ds.length ys en' → Q (.ow (.list ys)) (restE e1 en' vs)) ∧
    ∀ (i : Nat) (d : PyData) (ys : List PyData) (en' : En), ds[i]? = some d → I i ys en' → WP (stepC vs f t e d) en' fun oy en2 => I (i + 1) (ys ++ oy.toList) en2) : WP (mcomp vs m f t e) en Q :=
  wp_bnd (wp_mono h fun ds e1 ⟨h1, h2, I, h3, h4, h5⟩ => by
    rw [if_pos h1]
    have z := wp_compL (Q := fun ys en' => Q (.ow (.list ys)) (restE e1 en' vs)) I h4 h5 ds.length 0 [] (wipeE e1 vs) (by omega) h3
    rw [List.drop_zero] at z
    obtain ⟨ys, en2, z1, z2⟩ := z
    refine wp_bnd ⟨ys, restE e1 en2 vs, ?_, wp_ret z2⟩
    unfold blk
    rw [if_pos h2, z1])
end
theorem log_lt {x : Int} {k : Nat} (h0 : 0 < k) (h : x.natAbs < 2 ^ k) : x.natAbs.log2 < k := PySem.Flt.log2_lt_of h0 h
end ZD

namespace Q49
open PySem PySem.Spec PyProof.Rows L2 ZD
def top (i : Nat) : Stmt := PySem.Challenge.pw_happenedfirst_k49_things_and_deeds.main.body.getD i (.Pass ⟨0, 0, 0, 0⟩)
def tf : List He.Defn := [("is_name", none), ("is_names", none), ("is_things", none)]
abbrev TT (K : PySem.W.Frag) : List Addr := tf.map fun p => (He.cT K p).2
def kd_ALONE : List (Str × PyData) := [("cell", (.tuple [(.str "get")])), ("count", (.tuple [(.str "read")])), ("stack", (.tuple [(.str "pop")])), ("queue", (.tuple [(.str "pop")])), ("bag", (.tuple []))]
def kd_WITH_NUMBER : List (Str × PyData) := [("cell", (.tuple [(.str "put")])), ("count", (.tuple [(.str "add")])), ("stack", (.tuple [(.str "push")])), ("queue", (.tuple [(.str "push")])), ("bag", (.tuple [(.str "keep"), (.str "drop"), (.str "has")]))]
/-- what the top has left -/
structure Tops (w : World) (K : PySem.W.Frag) (mg : Str → Option Value) (base : Heap) : Prop where
  n_abs : mg "abs" = none
  n_all : mg "all" = none
  n_bool : mg "bool" = none
  n_int : mg "int" = none
  n_isinstance : mg "isinstance" = none
  n_len : mg "len" = none
  n_list : mg "list" = none
  n_range : mg "range" = none
  n_sorted : mg "sorted" = none
  n_str : mg "str" = none
  n_tuple : mg "tuple" = none
  d_ALONE : Gdc K w mg "ALONE" kd_ALONE
  g_KINDS : Glo K mg "KINDS" (.tuple [(.str "cell"), (.str "count"), (.str "stack"), (.str "queue"), (.str "bag")])
  g_MOST_NUMBER : Glo K mg "MOST_NUMBER" (.int 1000000)
  g_MOST_THINGS : Glo K mg "MOST_THINGS" (.int 6)
  d_WITH_NUMBER : Gdc K w mg "WITH_NUMBER" kd_WITH_NUMBER
  f_is_number : ∃ fd, FunD K "is_number" "is_number" (defArgs (top 1)) (defBody (top 1)) (defScope (top 1)) [] [] (He.ga K "is_number") fd ∧ mg "is_number" = some (.ref (He.ga K "is_number"))
  f_is_name : ∃ fd, FunD K "is_name" "is_name" (defArgs (top 2)) (defBody (top 2)) (defScope (top 2)) [] [] (He.ga K "is_name") fd ∧ mg "is_name" = some (.ref (He.ga K "is_name"))
  f_is_names : ∃ fd, FunD K "is_names" "is_names" (defArgs (top 3)) (defBody (top 3)) (defScope (top 3)) [] [] (He.ga K "is_names") fd ∧ mg "is_names" = some (.ref (He.ga K "is_names"))
  f_is_things : ∃ fd, FunD K "is_things" "is_things" (defArgs (top 11)) (defBody (top 11)) (defScope (top 11)) [] [] (He.ga K "is_things") fd ∧ mg "is_things" = some (.ref (He.ga K "is_things"))
  f_is_deed : ∃ fd, FunD K "is_deed" "is_deed" (defArgs (top 12)) (defBody (top 12)) (defScope (top 12)) [] [] (He.ga K "is_deed") fd ∧ mg "is_deed" = some (.ref (He.ga K "is_deed"))
  f_start : ∃ fd, FunD K "start" "start" (defArgs (top 13)) (defBody (top 13)) (defScope (top 13)) [] [] (He.ga K "start") fd ∧ mg "start" = some (.ref (He.ga K "start"))
  f_done_in_row : ∃ fd, FunD K "done_in_row" "done_in_row" (defArgs (top 14)) (defBody (top 14)) (defScope (top 14)) [] [] (He.ga K "done_in_row") fd ∧ mg "done_in_row" = some (.ref (He.ga K "done_in_row"))
  f_done_in_bag : ∃ fd, FunD K "done_in_bag" "done_in_bag" (defArgs (top 15)) (defBody (top 15)) (defScope (top 15)) [] [] (He.ga K "done_in_bag") fd ∧ mg "done_in_bag" = some (.ref (He.ga K "done_in_bag"))
  f_done : ∃ fd, FunD K "done" "done" (defArgs (top 16)) (defBody (top 16)) (defScope (top 16)) [] [] (He.ga K "done") fd ∧ mg "done" = some (.ref (He.ga K "done"))
  f__law_open : ∃ fd, FunD K "_law_open" "_law_open" (defArgs (top 18)) (defBody (top 18)) (defScope (top 18)) [] [] (He.ga K "_law_open") fd ∧ mg "_law_open" = some (.ref (He.ga K "_law_open"))
  f__law_mixed : ∃ fd, FunD K "_law_mixed" "_law_mixed" (defArgs (top 19)) (defBody (top 19)) (defScope (top 19)) [] [] (He.ga K "_law_mixed") fd ∧ mg "_law_mixed" = some (.ref (He.ga K "_law_mixed"))
  f__law_draw : ∃ fd, FunD K "_law_draw" "_law_draw" (defArgs (top 20)) (defBody (top 20)) (defScope (top 20)) [] [] (He.ga K "_law_draw") fd ∧ mg "_law_draw" = some (.ref (He.ga K "_law_draw"))
  f__law_int : ∃ fd, FunD K "_law_int" "_law_int" (defArgs (top 21)) (defBody (top 21)) (defScope (top 21)) [] [] (He.ga K "_law_int") fd ∧ mg "_law_int" = some (.ref (He.ga K "_law_int"))
  f__law_things : ∃ fd, FunD K "_law_things" "_law_things" (defArgs (top 22)) (defBody (top 22)) (defScope (top 22)) [] [] (He.ga K "_law_things") fd ∧ mg "_law_things" = some (.ref (He.ga K "_law_things"))
  f__law_start : ∃ fd, FunD K "_law_start" "_law_start" (defArgs (top 23)) (defBody (top 23)) (defScope (top 23)) [] [] (He.ga K "_law_start") fd ∧ mg "_law_start" = some (.ref (He.ga K "_law_start"))
  f__law_done : ∃ fd, FunD K "_law_done" "_law_done" (defArgs (top 24)) (defBody (top 24)) (defScope (top 24)) [] [] (He.ga K "_law_done") fd ∧ mg "_law_done" = some (.ref (He.ga K "_law_done"))
  f__law_deed : ∃ fd, FunD K "_law_deed" "_law_deed" (defArgs (top 25)) (defBody (top 25)) (defScope (top 25)) [] [] (He.ga K "_law_deed") fd ∧ mg "_law_deed" = some (.ref (He.ga K "_law_deed"))
  f__law_alike : ∃ fd, FunD K "_law_alike" "_law_alike" (defArgs (top 26)) (defBody (top 26)) (defScope (top 26)) [] [] (He.ga K "_law_alike") fd ∧ mg "_law_alike" = some (.ref (He.ga K "_law_alike"))
  f__law_wrong : ∃ fd, FunD K "_law_wrong" "_law_wrong" (defArgs (top 27)) (defBody (top 27)) (defScope (top 27)) [] [] (He.ga K "_law_wrong") fd ∧ mg "_law_wrong" = some (.ref (He.ga K "_law_wrong"))
  f__law_deeds : ∃ fd, FunD K "_law_deeds" "_law_deeds" (defArgs (top 28)) (defBody (top 28)) (defScope (top 28)) [] [] (He.ga K "_law_deeds") fd ∧ mg "_law_deeds" = some (.ref (He.ga K "_law_deeds"))
  f_law : ∃ fd, FunD K "law" "law" (defArgs (top 29)) (defBody (top 29)) (defScope (top 29)) [] [] (He.ga K "law") fd ∧ mg "law" = some (.ref (He.ga K "law"))
  t_is_name : GxR.TabB base mg (He.cT K ("is_name", none)).1 (He.cT K ("is_name", none)).2
  t_is_names : GxR.TabB base mg (He.cT K ("is_names", none)).1 (He.cT K ("is_names", none)).2
  t_is_things : GxR.TabB base mg (He.cT K ("is_things", none)).1 (He.cT K ("is_things", none)).2
section
variable {P : Program} {w : World} {K : PySem.W.Frag} {mg : Str → Option Value} {base : Heap}
/-! is_number -/
theorem sc_is_number : FnScope ["value", "least", "most"] ["value", "least", "most"] (defScope (top 1)) := ⟨rfl, rfl, rfl, by decide +kernel, rfl, by decide +kernel, by decide +kernel⟩
def m_is_number : M Fl := (mret (shV (vand (fz (op1 (oTest isiInt) (nm 0))) (vand (vnot (fz (op1 (oTest isiBool) (nm 0)))) (fz (op2c oLe oLe (nm 1) (nm 0) (nm 2)))))))
def F_is_number : Fn := run 3 m_is_number
theorem ok_is_number (t : Tops w K mg base) : Has P w K mg base (TT K) "is_number" 1 ["value", "least", "most"] 3 F_is_number := by
  obtain ⟨fd, F, hm⟩ := t.f_is_number
  have key := fn_okD (P := P) (w := w) (mg := mg) (base := base) (T := TT K) (k := 0) (m := m_is_number) F sc_is_number fun cdv A outer s H E hcd hr => (gss_one (gs_ret (ge_sh (gd_and (gd_fz (ge_isi isi_int rfl t.n_isinstance rfl t.n_int (go_s 0 (pv 0)))) (gd_and (gd_not (gd_fz (ge_isi isi_bool rfl t.n_isinstance rfl t.n_bool (go_s 0 (pv 0))))) (gd_one (gd_fz (ge_chain c_le c_le (go_s 1 (pv 1)) (go_s 0 (pv 0)) (go_s 2 (pv 2))))))))))
  exact ⟨fd, hm, F.kp, F.bindsN (fun _ _ _ _ _ _ us hl => match us, hl with | [_, _, _], _ => rfl), key⟩
/-! is_name -/
theorem sc_is_name : FnScope ["value", "sign"] ["value"] (defScope (top 2)) := ⟨rfl, rfl, rfl, by decide +kernel, rfl, by decide +kernel, by decide +kernel⟩
def c1_is_name : M PyData := mall [1] (seqM (nv 0)) (tgN 1) mtrue (fz (op2c oLe oLe (odD (cst (.str "a"))) (nm 1) (odD (cst (.str "z")))))
def m_is_name : M Fl := (mret (shV (vand (fz (op1 (oTest isiStr) (nm 0))) (vand (fz (op2c oLe oLe (odD (cst (.int 1))) (odD (fz (op1 oLen (nm 0)))) (odD (cst (.int 16))))) c1_is_name))))
def F_is_name : Fn := run 2 m_is_name
theorem ok_is_name (t : Tops w K mg base) : Has P w K mg base (TT K) "is_name" 3 ["value"] 1 F_is_name := by
  obtain ⟨fd, F, hm⟩ := t.f_is_name
  have hTB := t.t_is_name
  have hP : (He.cT K ("is_name", none)).2 ∈ TT K := List.mem_map.mpr ⟨("is_name", none), by decide, rfl⟩
  have hcode := code_of (p := ("is_name", none)) F rfl
  have key := fn_okD (P := P) (w := w) (mg := mg) (base := base) (T := TT K) (k := 2) (m := m_is_name) F sc_is_name fun cdv A outer s H E hcd hr => (gss_one (gs_ret (ge_sh (gd_and (gd_fz (ge_isi isi_str rfl t.n_isinstance rfl t.n_str (go_s 0 (pv 0)))) (gd_and (gd_fz (ge_chain c_le c_le (go_d gd_int) (go_d (gd_fz (ge_len rfl t.n_len (go_s 0 (pv 0))))) (go_d gd_int))) (gd_one (gd_all (k := 0) (own := [("sign", 1)]) rfl hP (hr.mono (by omega)) sc_is_name.nd rfl rfl t.n_all hTB (hcd.symm.trans hcode) rfl rfl (blk_of (by kernel_rfl)) (gi_seq (gd_v 0 (pv 0))) (fun _ _ _ _ _ _ hr2 => (gg_name (by decide) sc_is_name.nd rfl (by first | exact .inl rfl | exact .inr rfl))) (fun _ _ _ _ _ _ hr2 => gts_nil) (fun _ _ _ _ _ _ hr2 => (gd_fz (ge_chain c_le c_le (go_d gd_str) (go_s 1 (pv 1)) (go_d gd_str)))))))))))
  exact ⟨fd, hm, F.kp, F.bindsN (fun _ _ _ _ _ _ us hl => match us, hl with | [_], _ => rfl), key⟩
/-! is_names -/
theorem sc_is_names : FnScope ["value", "least", "most", "one", "k"] ["value", "least", "most"] (defScope (top 3)) := ⟨rfl, rfl, rfl, by decide +kernel, rfl, by decide +kernel, by decide +kernel⟩
def c1_is_names : M PyData := mall [3] (seqM (nv 0)) (tgN 3) mtrue (fz (mcall 1 F_is_name (macons (nv 3) manil)))
def c2_is_names : M PyData := mall [4] (rngM1 (fz (op2 oSub (odD (fz (op1 oLen (nm 0)))) (odD (cst (.int 1)))))) (tgN 4) mtrue (fz (op2 oLt (odD (fz (op2 oIx (nm 0) (nm 4)))) (odD (fz (op2 oIx (nm 0) (odD (fz (op2 oAdd (nm 4) (odD (cst (.int 1)))))))))))
def m_is_names : M Fl := (mseq (mifS (mor (mnot (tst (fz (op1 (oTest isiTup) (nm 0))))) (mnot (tst (fz (op2c oLe oLe (nm 1) (odD (fz (op1 oLen (nm 0)))) (nm 2))))))
  (mret (shV (cst (.bool false))))
  mnx)
 (mseq (mifS (mnot (tst c1_is_names))
  (mret (shV (cst (.bool false))))
  mnx)
 (mret (shV c2_is_names))))
def F_is_names : Fn := run 5 m_is_names
theorem ok_is_names (t : Tops w K mg base) : Has P w K mg base (TT K) "is_names" 6 ["value", "least", "most"] 3 F_is_names := by
  obtain ⟨fd, F, hm⟩ := t.f_is_names
  have hTB := t.t_is_names
  have hP : (He.cT K ("is_names", none)).2 ∈ TT K := List.mem_map.mpr ⟨("is_names", none), by decide, rfl⟩
  have hcode := code_of (p := ("is_names", none)) F rfl
  have H_is_name := ok_is_name (P := P) t
  have key := fn_okD (P := P) (w := w) (mg := mg) (base := base) (T := TT K) (k := 5) (m := m_is_names) F sc_is_names fun cdv A outer s H E hcd hr => (gss_cons (gs_if (gt_w (gw_or (gt_not (gt_val (gd_fz (ge_isi isi_tup rfl t.n_isinstance rfl t.n_tuple (go_s 0 (pv 0)))))) (gw_or1 (gt_not (gt_chain c_le c_le (go_s 1 (pv 1)) (go_d (gd_fz (ge_len rfl t.n_len (go_s 0 (pv 0))))) (go_s 2 (pv 2)))))))
  (gss_one (gs_ret (ge_sh gd_bool)))
  gss_nil)
 (gss_cons (gs_if (gt_not (gt_val (gd_all (k := 3) (own := [("one", 3)]) rfl hP (hr.mono (by omega)) sc_is_names.nd rfl rfl t.n_all hTB (hcd.symm.trans hcode) rfl rfl (blk_of (by kernel_rfl)) (gi_seq (gd_v 0 (pv 0))) (fun _ _ _ _ _ _ hr2 => (gg_name (by decide) sc_is_names.nd rfl (by first | exact .inl rfl | exact .inr rfl))) (fun _ _ _ _ _ _ hr2 => gts_nil) (fun _ _ _ _ _ _ hr2 => (gd_fz (ge_callH H_is_name hr2 (by omega) rfl (ga_cons (gd_v 3 (pv 3)) ga_nil)))))))
  (gss_one (gs_ret (ge_sh gd_bool)))
  gss_nil)
 (gss_one (gs_ret (ge_sh (gd_all (k := 0) (own := [("k", 4)]) rfl hP (hr.mono (by omega)) sc_is_names.nd rfl rfl t.n_all hTB (hcd.symm.trans hcode) rfl rfl (blk_of (by kernel_rfl)) (gi_range1 rfl t.n_range (gd_fz (ge_sub (go_d (gd_fz (ge_len rfl t.n_len (go_s 0 (pv 0))))) (go_d gd_int)))) (fun _ _ _ _ _ _ hr2 => (gg_name (by decide) sc_is_names.nd rfl (by first | exact .inl rfl | exact .inr rfl))) (fun _ _ _ _ _ _ hr2 => gts_nil) (fun _ _ _ _ _ _ hr2 => (gd_fz (ge_cmp c_lt (go_d (gd_fz (ge_ix (go_s 0 (pv 0)) (go_s 4 (pv 4))))) (go_d (gd_fz (ge_ix (go_s 0 (pv 0)) (go_d (gd_fz (ge_add (go_s 4 (pv 4)) (go_d gd_int))))))))))))))))
  exact ⟨fd, hm, F.kp, F.bindsN (fun _ _ _ _ _ _ us hl => match us, hl with | [_, _, _], _ => rfl), key⟩
/-! is_things -/
theorem sc_is_things : FnScope ["value", "pair"] ["value"] (defScope (top 11)) := ⟨rfl, rfl, rfl, by decide +kernel, rfl, by decide +kernel, by decide +kernel⟩
def c1_is_things : M PyData := mall [1] (seqM (nv 0)) (tgN 1) mtrue (vand (fz (op1 (oTest isiTup) (nm 1))) (fz (op2 oEq (odD (fz (op1 oLen (nm 1)))) (odD (cst (.int 2))))))
def c2_is_things : M Vl := mcomp [1] (seqM (nv 0)) (tgN 1) mtrue (fz (op2 oIx (nm 1) (odD (cst (.int 0)))))
def c3_is_things : M PyData := mall [1] (seqM (nv 0)) (tgN 1) mtrue (vand (fz (op1 (oTest isiStr) (odD (fz (op2 oIx (nm 1) (odD (cst (.int 1)))))))) (fz (op2 (oIn false) (odD (fz (op2 oIx (nm 1) (odD (cst (.int 1)))))) (odD (cst (.tuple [(.str "cell"), (.str "count"), (.str "stack"), (.str "queue"), (.str "bag")]))))))
def m_is_things : M Fl := (mseq (mifS (mor (mnot (tst (fz (op1 (oTest isiTup) (nm 0))))) (mnot (tst c1_is_things)))
  (mret (shV (cst (.bool false))))
  mnx)
 (mseq (mifS (mnot (tst (fz (mcall 3 F_is_names (macons (fz (op1 oTuple (odD (fz c2_is_things)))) (macons (cst (.int 1)) (macons (cst (.int 6)) manil)))))))
  (mret (shV (cst (.bool false))))
  mnx)
 (mret (shV c3_is_things))))
def F_is_things : Fn := run 2 m_is_things
theorem ok_is_things (t : Tops w K mg base) : Has P w K mg base (TT K) "is_things" 7 ["value"] 1 F_is_things := by
  obtain ⟨fd, F, hm⟩ := t.f_is_things
  have hTB := t.t_is_things
  have hP : (He.cT K ("is_things", none)).2 ∈ TT K := List.mem_map.mpr ⟨("is_things", none), by decide, rfl⟩
  have hcode := code_of (p := ("is_things", none)) F rfl
  have H_is_names := ok_is_names (P := P) t
  have key := fn_okD (P := P) (w := w) (mg := mg) (base := base) (T := TT K) (k := 6) (m := m_is_things) F sc_is_things fun cdv A outer s H E hcd hr => (gss_cons (gs_if (gt_w (gw_or (gt_not (gt_val (gd_fz (ge_isi isi_tup rfl t.n_isinstance rfl t.n_tuple (go_s 0 (pv 0)))))) (gw_or1 (gt_not (gt_val (gd_all (k := 0) (own := [("pair", 1)]) rfl hP (hr.mono (by omega)) sc_is_things.nd rfl rfl t.n_all hTB (hcd.symm.trans hcode) rfl rfl (blk_of (by kernel_rfl)) (gi_seq (gd_v 0 (pv 0))) (fun _ _ _ _ _ _ hr2 => (gg_name (by decide) sc_is_things.nd rfl (by first | exact .inl rfl | exact .inr rfl))) (fun _ _ _ _ _ _ hr2 => gts_nil) (fun _ _ _ _ _ _ hr2 => (gd_and (gd_fz (ge_isi isi_tup rfl t.n_isinstance rfl t.n_tuple (go_s 1 (pv 1)))) (gd_one (gd_fz (ge_cmp (c_eq hr2) (go_d (gd_fz (ge_len rfl t.n_len (go_s 1 (pv 1))))) (go_d gd_int))))))))))))
  (gss_one (gs_ret (ge_sh gd_bool)))
  gss_nil)
 (gss_cons (gs_if (gt_not (gt_val (gd_fz (ge_callH H_is_names hr (by omega) rfl (ga_cons (gd_fz (ge_tuple rfl t.n_tuple (go_d (gd_fz (ge_lc (own := [("pair", 1)]) rfl rfl sc_is_things.nd (gi_seq (gd_v 0 (pv 0))) (blk_of (by kernel_rfl)) (fun _ _ _ _ _ => (gg_name (by decide) sc_is_things.nd rfl (by first | exact .inl rfl | exact .inr rfl))) (fun _ _ _ _ _ => gts_nil) (fun _ _ _ _ _ => (gd_fz (ge_ix (go_s 1 (pv 1)) (go_d gd_int))))))))) (ga_cons gd_int (ga_cons (gd_glo t.g_MOST_THINGS rfl) ga_nil)))))))
  (gss_one (gs_ret (ge_sh gd_bool)))
  gss_nil)
 (gss_one (gs_ret (ge_sh (gd_all (k := 0) (own := [("pair", 1)]) rfl hP (hr.mono (by omega)) sc_is_things.nd rfl rfl t.n_all hTB (hcd.symm.trans hcode) rfl rfl (blk_of (by kernel_rfl)) (gi_seq (gd_v 0 (pv 0))) (fun _ _ _ _ _ _ hr2 => (gg_name (by decide) sc_is_things.nd rfl (by first | exact .inl rfl | exact .inr rfl))) (fun _ _ _ _ _ _ hr2 => gts_nil) (fun _ _ _ _ _ _ hr2 => (gd_and (gd_fz (ge_isi isi_str rfl t.n_isinstance rfl t.n_str (go_d (gd_fz (ge_ix (go_s 1 (pv 1)) (go_d gd_int)))))) (gd_one (gd_fz (ge_cmp c_in (go_d (gd_fz (ge_ix (go_s 1 (pv 1)) (go_d gd_int)))) (go_d (gd_glo t.g_KINDS rfl)))))))))))))
  exact ⟨fd, hm, F.kp, F.bindsN (fun _ _ _ _ _ _ us hl => match us, hl with | [_], _ => rfl), key⟩
/-! is_deed -/
theorem sc_is_deed : FnScope ["kind", "value"] ["kind", "value"] (defScope (top 12)) := ⟨rfl, rfl, rfl, by decide +kernel, rfl, by decide +kernel, by decide +kernel⟩
def m_is_deed : M Fl := (mseq (mifS (mor (mnot (tst (fz (op1 (oTest isiTup) (nm 1))))) (mor (mnot (tst (fz (op2c oLe oLe (odD (cst (.int 1))) (odD (fz (op1 oLen (nm 1)))) (odD (cst (.int 2))))))) (mnot (tst (fz (op1 (oTest isiStr) (odD (fz (op2 oIx (nm 1) (odD (cst (.int 0))))))))))))
  (mret (shV (cst (.bool false))))
  mnx)
 (mseq (mifS (tst (fz (op2 oEq (odD (fz (op1 oLen (nm 1)))) (odD (cst (.int 1))))))
  (mret (op2 (oIn false) (odD (fz (op2 oIx (nm 1) (odD (cst (.int 0)))))) (odD (kdix kd_ALONE (nm 0)))))
  mnx)
 (mret (shV (vand (fz (op2 (oIn false) (odD (fz (op2 oIx (nm 1) (odD (cst (.int 0)))))) (odD (kdix kd_WITH_NUMBER (nm 0))))) (fz (mcall 3 F_is_number (macons (fz (op2 oIx (nm 1) (odD (cst (.int 1))))) (macons (fz (op1 (oI1 fun i => -i) (odD (cst (.int 1000000))))) (macons (cst (.int 1000000)) manil))))))))))
def F_is_deed : Fn := run 2 m_is_deed
theorem ok_is_deed (t : Tops w K mg base) : Has P w K mg base (TT K) "is_deed" 2 ["kind", "value"] 2 F_is_deed := by
  obtain ⟨fd, F, hm⟩ := t.f_is_deed
  have H_is_number := ok_is_number (P := P) t
  have key := fn_okD (P := P) (w := w) (mg := mg) (base := base) (T := TT K) (k := 1) (m := m_is_deed) F sc_is_deed fun cdv A outer s H E hcd hr => (gss_cons (gs_if (gt_w (gw_or (gt_not (gt_val (gd_fz (ge_isi isi_tup rfl t.n_isinstance rfl t.n_tuple (go_s 1 (pv 1)))))) (gw_or (gt_not (gt_chain c_le c_le (go_d gd_int) (go_d (gd_fz (ge_len rfl t.n_len (go_s 1 (pv 1))))) (go_d gd_int))) (gw_or1 (gt_not (gt_val (gd_fz (ge_isi isi_str rfl t.n_isinstance rfl t.n_str (go_d (gd_fz (ge_ix (go_s 1 (pv 1)) (go_d gd_int))))))))))))
  (gss_one (gs_ret (ge_sh gd_bool)))
  gss_nil)
 (gss_cons (gs_if (gt_cmp (c_eq hr) (go_d (gd_fz (ge_len rfl t.n_len (go_s 1 (pv 1))))) (go_d gd_int))
  (gss_one (gs_ret (ge_cmp c_in (go_d (gd_fz (ge_ix (go_s 1 (pv 1)) (go_d gd_int)))) (go_d (gd_kdix t.d_ALONE rfl (go_s 0 (pv 0)))))))
  gss_nil)
 (gss_one (gs_ret (ge_sh (gd_and (gd_fz (ge_cmp c_in (go_d (gd_fz (ge_ix (go_s 1 (pv 1)) (go_d gd_int)))) (go_d (gd_kdix t.d_WITH_NUMBER rfl (go_s 0 (pv 0)))))) (gd_one (gd_fz (ge_callH H_is_number hr (by omega) rfl (ga_cons (gd_fz (ge_ix (go_s 1 (pv 1)) (go_d gd_int))) (ga_cons (gd_fz (ge_neg (go_d (gd_glo t.g_MOST_NUMBER rfl)))) (ga_cons (gd_glo t.g_MOST_NUMBER rfl) ga_nil))))))))))))
  exact ⟨fd, hm, F.kp, F.bindsN (fun _ _ _ _ _ _ us hl => match us, hl with | [_, _], _ => rfl), key⟩
/-! start -/
theorem sc_start : FnScope ["kind"] ["kind"] (defScope (top 13)) := ⟨rfl, rfl, rfl, by decide +kernel, rfl, by decide +kernel, by decide +kernel⟩
def m_start : M Fl := (mret (shV (mif (tst (fz (op2 (oIn false) (nm 0) (odD (mtup (macons (cst (.str "cell")) (macons (cst (.str "count")) manil))))))) (cst (.int 0)) (mtup manil))))
def F_start : Fn := run 1 m_start
theorem ok_start (t : Tops w K mg base) : Has P w K mg base (TT K) "start" 1 ["kind"] 1 F_start := by
  obtain ⟨fd, F, hm⟩ := t.f_start
  have key := fn_okD (P := P) (w := w) (mg := mg) (base := base) (T := TT K) (k := 0) (m := m_start) F sc_start fun cdv A outer s H E hcd hr => (gss_one (gs_ret (ge_sh (gd_if (gt_cmp c_in (go_s 0 (pv 0)) (go_d (gd_tup (ga_cons gd_str (ga_cons gd_str ga_nil))))) gd_int (gd_tup ga_nil)))))
  exact ⟨fd, hm, F.kp, F.bindsN (fun _ _ _ _ _ _ us hl => match us, hl with | [_], _ => rfl), key⟩
/-! done_in_row -/
theorem sc_done_in_row : FnScope ["kind", "state", "deed"] ["kind", "state", "deed"] (defScope (top 14)) := ⟨rfl, rfl, rfl, by decide +kernel, rfl, by decide +kernel, by decide +kernel⟩
def m_done_in_row : M Fl := (mseq (mifS (tst (fz (op2 oEq (odD (fz (op2 oIx (nm 2) (odD (cst (.int 0)))))) (odD (cst (.str "push"))))))
  (mret (shV (mtup (macons (fz (op2 oAdd (nm 1) (odD (mtup (macons (fz (op2 oIx (nm 2) (odD (cst (.int 1))))) manil))))) (macons (cst .none) manil)))))
  mnx)
 (mseq (mifS (tst (fz (op2 oEq (nm 1) (odD (mtup manil)))))
  (mret (shV (mtup (macons (nv 1) (macons (cst .none) manil)))))
  mnx)
 (mret (shV (mif (tst (fz (op2 oEq (nm 0) (odD (cst (.str "stack")))))) (mtup (macons (fz (mslice (nm 1) pno (pso (odD (fz (op1 (oI1 fun i => -i) (odD (cst (.int 1))))))))) (macons (fz (op2 oIx (nm 1) (odD (fz (op1 (oI1 fun i => -i) (odD (cst (.int 1)))))))) manil))) (mtup (macons (fz (mslice (nm 1) (pso (odD (cst (.int 1)))) pno)) (macons (fz (op2 oIx (nm 1) (odD (cst (.int 0))))) manil))))))))
def F_done_in_row : Fn := run 3 m_done_in_row
theorem ok_done_in_row (t : Tops w K mg base) : Has P w K mg base (TT K) "done_in_row" 1 ["kind", "state", "deed"] 3 F_done_in_row := by
  obtain ⟨fd, F, hm⟩ := t.f_done_in_row
  have key := fn_okD (P := P) (w := w) (mg := mg) (base := base) (T := TT K) (k := 0) (m := m_done_in_row) F sc_done_in_row fun cdv A outer s H E hcd hr => (gss_cons (gs_if (gt_cmp (c_eq hr) (go_d (gd_fz (ge_ix (go_s 2 (pv 2)) (go_d gd_int)))) (go_d gd_str))
  (gss_one (gs_ret (ge_sh (gd_tup (ga_cons (gd_fz (ge_add (go_s 1 (pv 1)) (go_d (gd_tup (ga_cons (gd_fz (ge_ix (go_s 2 (pv 2)) (go_d gd_int))) ga_nil))))) (ga_cons gd_none ga_nil))))))
  gss_nil)
 (gss_cons (gs_if (gt_cmp (c_eq hr) (go_s 1 (pv 1)) (go_d (gd_tup ga_nil)))
  (gss_one (gs_ret (ge_sh (gd_tup (ga_cons (gd_v 1 (pv 1)) (ga_cons gd_none ga_nil))))))
  gss_nil)
 (gss_one (gs_ret (ge_sh (gd_if (gt_cmp (c_eq hr) (go_s 0 (pv 0)) (go_d gd_str)) (gd_tup (ga_cons (gd_fz (ge_slice (go_s 1 (pv 1)) gp_no (gp_so (go_d (gd_fz (ge_neg (go_d gd_int))))))) (ga_cons (gd_fz (ge_ix (go_s 1 (pv 1)) (go_d (gd_fz (ge_neg (go_d gd_int)))))) ga_nil))) (gd_tup (ga_cons (gd_fz (ge_slice (go_s 1 (pv 1)) (gp_so (go_d gd_int)) gp_no)) (ga_cons (gd_fz (ge_ix (go_s 1 (pv 1)) (go_d gd_int))) ga_nil)))))))))
  exact ⟨fd, hm, F.kp, F.bindsN (fun _ _ _ _ _ _ us hl => match us, hl with | [_, _, _], _ => rfl), key⟩
/-! done_in_bag -/
theorem sc_done_in_bag : FnScope ["state", "deed", "word", "number", "there", "one"] ["state", "deed"] (defScope (top 15)) := ⟨rfl, rfl, rfl, by decide +kernel, rfl, by decide +kernel, by decide +kernel⟩
def c1_done_in_bag : M Vl := mcomp [5] (seqM (nv 0)) (tgN 5) (tst (fz (op2 oNe (nm 5) (nm 3)))) (nv 5)
def m_done_in_bag : M Fl := (mseq (asgT (tgtup 2 (tgcons (tgN 2) (tgcons (tgN 3) tgnil))) (nm 1))
 (mseq (asgN 4 (op2 (oIn false) (nm 3) (nm 0)))
 (mseq (mifS (mand (tst (fz (op2 oEq (nm 2) (odD (cst (.str "keep")))))) (mnot (tst (nv 4))))
  (mret (shV (mtup (macons (fz (op1 oTuple (odD (fz (op1 oSorted (odD (fz (op2 oAdd (nm 0) (odD (mtup (macons (nv 3) manil))))))))))) (macons (cst (.bool true)) manil)))))
  mnx)
 (mseq (mifS (mand (tst (fz (op2 oEq (nm 2) (odD (cst (.str "drop")))))) (tst (nv 4)))
  (mret (shV (mtup (macons (fz (op1 oTuple (odD (fz c1_done_in_bag)))) (macons (cst (.bool true)) manil)))))
  mnx)
 (mret (shV (mtup (macons (nv 0) (macons (vand (fz (op2 oNe (nm 2) (odD (cst (.str "keep"))))) (nv 4)) manil)))))))))
def F_done_in_bag : Fn := run 6 m_done_in_bag
theorem ok_done_in_bag (t : Tops w K mg base) : Has P w K mg base (TT K) "done_in_bag" 1 ["state", "deed"] 2 F_done_in_bag := by
  obtain ⟨fd, F, hm⟩ := t.f_done_in_bag
  have key := fn_okD (P := P) (w := w) (mg := mg) (base := base) (T := TT K) (k := 0) (m := m_done_in_bag) F sc_done_in_bag fun cdv A outer s H E hcd hr => (gss_cons (gs_asgT (L := [2, 3]) (go_s 1 (pv 1)) (ggt_tup rfl (ggs_cons (gg_name (by decide) sc_done_in_bag.nd rfl (by first | exact .inl rfl | exact .inr rfl)) (ggs_cons (gg_name (by decide) sc_done_in_bag.nd rfl (by first | exact .inl rfl | exact .inr rfl)) ggs_nil))))
 (gss_cons (gs_set (i := 4) sc_done_in_bag.nd rfl (by first | exact .inl rfl | exact .inr rfl) (ge_cmp c_in (go_s 3 (pv 3)) (go_s 0 (pv 0))))
 (gss_cons (gs_if (gt_w (gw_and (gt_cmp (c_eq hr) (go_s 2 (pv 2)) (go_d gd_str)) (gw_and1 (gt_not (gt_val (gd_v 4 (pv 4)))))))
  (gss_one (gs_ret (ge_sh (gd_tup (ga_cons (gd_fz (ge_tuple rfl t.n_tuple (go_d (gd_fz (ge_sorted hr rfl t.n_sorted (go_d (gd_fz (ge_add (go_s 0 (pv 0)) (go_d (gd_tup (ga_cons (gd_v 3 (pv 3)) ga_nil))))))))))) (ga_cons gd_bool ga_nil))))))
  gss_nil)
 (gss_cons (gs_if (gt_w (gw_and (gt_cmp (c_eq hr) (go_s 2 (pv 2)) (go_d gd_str)) (gw_and1 (gt_val (gd_v 4 (pv 4))))))
  (gss_one (gs_ret (ge_sh (gd_tup (ga_cons (gd_fz (ge_tuple rfl t.n_tuple (go_d (gd_fz (ge_lc (own := [("one", 5)]) rfl rfl sc_done_in_bag.nd (gi_seq (gd_v 0 (pv 0))) (blk_of (by kernel_rfl)) (fun _ _ _ _ _ => (gg_name (by decide) sc_done_in_bag.nd rfl (by first | exact .inl rfl | exact .inr rfl))) (fun _ _ _ _ _ => (gts_one (gt_cmp (c_ne hr) (go_s 5 (pv 5)) (go_s 3 (pv 3))))) (fun _ _ _ _ _ => (gd_v 5 (pv 5)))))))) (ga_cons gd_bool ga_nil))))))
  gss_nil)
 (gss_one (gs_ret (ge_sh (gd_tup (ga_cons (gd_v 0 (pv 0)) (ga_cons (gd_and (gd_fz (ge_cmp (c_ne hr) (go_s 2 (pv 2)) (go_d gd_str))) (gd_one (gd_v 4 (pv 4)))) ga_nil))))))))))
  exact ⟨fd, hm, F.kp, F.bindsN (fun _ _ _ _ _ _ us hl => match us, hl with | [_, _], _ => rfl), key⟩
/-! done -/
theorem sc_done : FnScope ["kind", "state", "deed"] ["kind", "state", "deed"] (defScope (top 16)) := ⟨rfl, rfl, rfl, by decide +kernel, rfl, by decide +kernel, by decide +kernel⟩
def m_done : M Fl := (mseq (mifS (tst (fz (op2 oEq (nm 0) (odD (cst (.str "cell"))))))
  (mret (shV (mif (tst (fz (op2 oEq (odD (fz (op2 oIx (nm 2) (odD (cst (.int 0)))))) (odD (cst (.str "put")))))) (mtup (macons (fz (op2 oIx (nm 2) (odD (cst (.int 1))))) (macons (cst .none) manil))) (mtup (macons (nv 1) (macons (nv 1) manil))))))
  mnx)
 (mseq (mifS (tst (fz (op2 oEq (nm 0) (odD (cst (.str "count"))))))
  (mret (shV (mif (tst (fz (op2 oEq (odD (fz (op2 oIx (nm 2) (odD (cst (.int 0)))))) (odD (cst (.str "add")))))) (mtup (macons (fz (op2 oAdd (nm 1) (odD (fz (op2 oIx (nm 2) (odD (cst (.int 1)))))))) (macons (cst .none) manil))) (mtup (macons (nv 1) (macons (nv 1) manil))))))
  mnx)
 (mret (mif (tst (fz (op2 oEq (nm 0) (odD (cst (.str "bag")))))) (mcall 2 F_done_in_bag (macons (nv 1) (macons (nv 2) manil))) (mcall 3 F_done_in_row (macons (nv 0) (macons (nv 1) (macons (nv 2) manil))))))))
def F_done : Fn := run 3 m_done
theorem ok_done (t : Tops w K mg base) : Has P w K mg base (TT K) "done" 2 ["kind", "state", "deed"] 3 F_done := by
  obtain ⟨fd, F, hm⟩ := t.f_done
  have H_done_in_bag := ok_done_in_bag (P := P) t
  have H_done_in_row := ok_done_in_row (P := P) t
  have key := fn_okD (P := P) (w := w) (mg := mg) (base := base) (T := TT K) (k := 1) (m := m_done) F sc_done fun cdv A outer s H E hcd hr => (gss_cons (gs_if (gt_cmp (c_eq hr) (go_s 0 (pv 0)) (go_d gd_str))
  (gss_one (gs_ret (ge_sh (gd_if (gt_cmp (c_eq hr) (go_d (gd_fz (ge_ix (go_s 2 (pv 2)) (go_d gd_int)))) (go_d gd_str)) (gd_tup (ga_cons (gd_fz (ge_ix (go_s 2 (pv 2)) (go_d gd_int))) (ga_cons gd_none ga_nil))) (gd_tup (ga_cons (gd_v 1 (pv 1)) (ga_cons (gd_v 1 (pv 1)) ga_nil)))))))
  gss_nil)
 (gss_cons (gs_if (gt_cmp (c_eq hr) (go_s 0 (pv 0)) (go_d gd_str))
  (gss_one (gs_ret (ge_sh (gd_if (gt_cmp (c_eq hr) (go_d (gd_fz (ge_ix (go_s 2 (pv 2)) (go_d gd_int)))) (go_d gd_str)) (gd_tup (ga_cons (gd_fz (ge_add (go_s 1 (pv 1)) (go_d (gd_fz (ge_ix (go_s 2 (pv 2)) (go_d gd_int)))))) (ga_cons gd_none ga_nil))) (gd_tup (ga_cons (gd_v 1 (pv 1)) (ga_cons (gd_v 1 (pv 1)) ga_nil)))))))
  gss_nil)
 (gss_one (gs_ret (ge_if (gt_cmp (c_eq hr) (go_s 0 (pv 0)) (go_d gd_str)) (ge_callH H_done_in_bag hr (by omega) rfl (ga_cons (gd_v 1 (pv 1)) (ga_cons (gd_v 2 (pv 2)) ga_nil))) (ge_callH H_done_in_row hr (by omega) rfl (ga_cons (gd_v 0 (pv 0)) (ga_cons (gd_v 1 (pv 1)) (ga_cons (gd_v 2 (pv 2)) ga_nil)))))))))
  exact ⟨fd, hm, F.kp, F.bindsN (fun _ _ _ _ _ _ us hl => match us, hl with | [_, _, _], _ => rfl), key⟩
/-! _law_open -/
theorem sc__law_open : FnScope ["script", "cells", "cell"] ["script"] (defScope (top 18)) := ⟨rfl, rfl, rfl, by decide +kernel, rfl, by decide +kernel, by decide +kernel⟩
def c1__law_open : M Vl := mcomp [2] (seqM (fz (mslice (nm 0) pno (pso (odD (cst (.int 63))))))) (tgN 2) mtrue (fz (op1 (oI1 absI) (odD (fz (op1 (oI1 fun i => i) (nm 2))))))
def m__law_open : M Fl := (mseq (asgN 1 c1__law_open)
 (mret (mlst (macons (cst (.int 0)) (macons (cst (.int 0)) (macons (fz (op2 oAdd (nm 1) (odD (fz (mlst (macons (cst (.int 0)) manil)))))) manil))))))
def F__law_open : Fn := run 3 m__law_open
theorem ok__law_open (t : Tops w K mg base) : Has P w K mg base (TT K) "_law_open" 1 ["script"] 1 F__law_open := by
  obtain ⟨fd, F, hm⟩ := t.f__law_open
  have key := fn_okD (P := P) (w := w) (mg := mg) (base := base) (T := TT K) (k := 0) (m := m__law_open) F sc__law_open fun cdv A outer s H E hcd hr => (gss_cons (gs_setLc (own := [("cell", 2)]) rfl rfl sc__law_open.nd rfl rfl rfl (gi_seq (gd_fz (ge_slice (go_s 0 (pv 0)) gp_no (gp_so (go_d gd_int))))) (blk_of (by kernel_rfl)) (fun _ _ _ _ _ => (gg_name (by decide) sc__law_open.nd rfl (by first | exact .inl rfl | exact .inr rfl))) (fun _ _ _ _ _ => gts_nil) (fun _ _ _ _ _ => (gd_fz (ge_abs rfl t.n_abs (go_d (gd_fz (ge_int rfl t.n_int (go_s 2 (pv 2)))))))))
 (gss_one (gs_ret (ge_lst (ga_cons gd_int (ga_cons gd_int (ga_cons (gd_fz (ge_add (go_s 1 (pv 1)) (go_d (gd_fz (ge_lst (ga_cons gd_int ga_nil)))))) ga_nil)))))))
  exact ⟨fd, hm, F.kp, F.bindsN (fun _ _ _ _ _ _ us hl => match us, hl with | [_], _ => rfl), key⟩
/-! _law_mixed -/
theorem sc__law_mixed : FnScope ["cell", "turn", "number"] ["cell", "turn"] (defScope (top 19)) := ⟨rfl, rfl, rfl, by decide +kernel, rfl, by decide +kernel, by decide +kernel⟩
def m__law_mixed : M Fl := (mseq (asgN 2 (op2 oMod (odD (fz (op2 oAdd (odD (fz (op2 oAdd (odD (fz (op2 oMul (odD (fz (op2 oMod (nm 0) (odD (fz (op2 oSub (odD (fz (op2 oPow (odD (cst (.int 2))) (odD (cst (.int 61)))))) (odD (cst (.int 1))))))))) (odD (cst (.int 6364136223846793005)))))) (odD (fz (op2 oMul (nm 1) (odD (cst (.int 1442695040888963407))))))))) (odD (cst (.int 97)))))) (odD (fz (op2 oPow (odD (cst (.int 2))) (odD (cst (.int 61))))))))
 (mseq (asgN 2 (op2 oMod (odD (fz (op2 oMul (odD (fz (op2 oXor (nm 2) (odD (fz (op2 oShr (nm 2) (odD (cst (.int 29))))))))) (odD (cst (.int 3935559000370003845)))))) (odD (fz (op2 oPow (odD (cst (.int 2))) (odD (cst (.int 61))))))))
 (mret (op2 oMod (odD (fz (op2 oMul (odD (fz (op2 oXor (nm 2) (odD (fz (op2 oShr (nm 2) (odD (cst (.int 31))))))))) (odD (cst (.int 2862933555777941757)))))) (odD (fz (op2 oPow (odD (cst (.int 2))) (odD (cst (.int 61))))))))))
def F__law_mixed : Fn := run 3 m__law_mixed
theorem ok__law_mixed (t : Tops w K mg base) : Has P w K mg base (TT K) "_law_mixed" 1 ["cell", "turn"] 2 F__law_mixed := by
  obtain ⟨fd, F, hm⟩ := t.f__law_mixed
  have key := fn_okD (P := P) (w := w) (mg := mg) (base := base) (T := TT K) (k := 0) (m := m__law_mixed) F sc__law_mixed fun cdv A outer s H E hcd hr => (gss_cons (gs_set (i := 2) sc__law_mixed.nd rfl (by first | exact .inl rfl | exact .inr rfl) (ge_mod (go_d (gd_fz (ge_add (go_d (gd_fz (ge_add (go_d (gd_fz (ge_mul (go_d (gd_fz (ge_mod (go_s 0 (pv 0)) (go_d (gd_fz (ge_sub (go_d (gd_fz (ge_pow (go_d gd_int) (go_d gd_int)))) (go_d gd_int))))))) (go_d gd_int)))) (go_d (gd_fz (ge_mul (go_s 1 (pv 1)) (go_d gd_int))))))) (go_d gd_int)))) (go_d (gd_fz (ge_pow (go_d gd_int) (go_d gd_int))))))
 (gss_cons (gs_set (i := 2) sc__law_mixed.nd rfl (by first | exact .inl rfl | exact .inr rfl) (ge_mod (go_d (gd_fz (ge_mul (go_d (gd_fz (ge_xor (go_s 2 (pv 2)) (go_d (gd_fz (ge_shr (go_s 2 (pv 2)) (go_d gd_int))))))) (go_d gd_int)))) (go_d (gd_fz (ge_pow (go_d gd_int) (go_d gd_int))))))
 (gss_one (gs_ret (ge_mod (go_d (gd_fz (ge_mul (go_d (gd_fz (ge_xor (go_s 2 (pv 2)) (go_d (gd_fz (ge_shr (go_s 2 (pv 2)) (go_d gd_int))))))) (go_d gd_int)))) (go_d (gd_fz (ge_pow (go_d gd_int) (go_d gd_int)))))))))
  exact ⟨fd, hm, F.kp, F.bindsN (fun _ _ _ _ _ _ us hl => match us, hl with | [_, _], _ => rfl), key⟩
/-! _law_draw -/
theorem sc__law_draw : FnScope ["draws", "size", "turn", "left", "cells", "cell"] ["draws", "size"] (defScope (top 20)) := ⟨rfl, rfl, rfl, by decide +kernel, rfl, by decide +kernel, by decide +kernel⟩
def m__law_draw : M Fl := (mseq (asgT (tgtup 3 (tgcons (tgN 2) (tgcons (tgN 3) (tgcons (tgN 4) tgnil)))) (nm 0))
 (mseq (mifS (tst (fz (op2 oLt (nm 3) (nm 1))))
  (mseq (asgN 5 (op2 oIx (nm 4) (odD (fz (op2 oMod (nm 2) (odD (fz (op1 oLen (nm 4)))))))))
 (mseq (asgN 3 (mif (mand (tst (fz (op2 oLt (nm 2) (odD (fz (op1 oLen (nm 4))))))) (tst (fz (op2 oGe (nm 5) (odD (fz (op2 oPow (odD (cst (.int 10))) (odD (cst (.int 18)))))))))) (shV (nv 5)) (mcall 2 F__law_mixed (macons (nv 5) (macons (nv 2) manil)))))
 (asgN 2 (op2 oAdd (nm 2) (odD (cst (.int 1)))))))
  mnx)
 (mseq (mst 0 (nv 2) (odD (cst (.int 0))))
 (mseq (mst 0 (fz (op2 oDiv (nm 3) (nm 1))) (odD (cst (.int 1))))
 (mret (op2 oMod (nm 3) (nm 1)))))))
def F__law_draw : Fn := run 6 m__law_draw
theorem ok__law_draw (t : Tops w K mg base) : Has P w K mg base (TT K) "_law_draw" 2 ["draws", "size"] 2 F__law_draw := by
  obtain ⟨fd, F, hm⟩ := t.f__law_draw
  have H__law_mixed := ok__law_mixed (P := P) t
  have key := fn_okD (P := P) (w := w) (mg := mg) (base := base) (T := TT K) (k := 1) (m := m__law_draw) F sc__law_draw fun cdv A outer s H E hcd hr => (gss_cons (gs_asgT (L := [2, 3, 4]) (go_s 0 (pv 0)) (ggt_tup rfl (ggs_cons (gg_name (by decide) sc__law_draw.nd rfl (by first | exact .inl rfl | exact .inr rfl)) (ggs_cons (gg_name (by decide) sc__law_draw.nd rfl (by first | exact .inl rfl | exact .inr rfl)) (ggs_cons (gg_name (by decide) sc__law_draw.nd rfl (by first | exact .inl rfl | exact .inr rfl)) ggs_nil)))))
 (gss_cons (gs_if (gt_cmp c_lt (go_s 3 (pv 3)) (go_s 1 (pv 1)))
  (gss_cons (gs_set (i := 5) sc__law_draw.nd rfl (by first | exact .inl rfl | exact .inr rfl) (ge_ix (go_s 4 (pv 4)) (go_d (gd_fz (ge_mod (go_s 2 (pv 2)) (go_d (gd_fz (ge_len rfl t.n_len (go_s 4 (pv 4))))))))))
 (gss_cons (gs_set (i := 3) sc__law_draw.nd rfl (by first | exact .inl rfl | exact .inr rfl) (ge_if (gt_w (gw_and (gt_cmp c_lt (go_s 2 (pv 2)) (go_d (gd_fz (ge_len rfl t.n_len (go_s 4 (pv 4)))))) (gw_and1 (gt_cmp c_ge (go_s 5 (pv 5)) (go_d (gd_fz (ge_pow (go_d gd_int) (go_d gd_int)))))))) (ge_sh (gd_v 5 (pv 5))) (ge_callH H__law_mixed hr (by omega) rfl (ga_cons (gd_v 5 (pv 5)) (ga_cons (gd_v 2 (pv 2)) ga_nil)))))
 (gss_one (gs_set (i := 2) sc__law_draw.nd rfl (by first | exact .inl rfl | exact .inr rfl) (ge_add (go_s 2 (pv 2)) (go_d gd_int))))))
  gss_nil)
 (gss_cons (gs_store (pv 0) (go_d gd_int) (gd_v 2 (pv 2)))
 (gss_cons (gs_store (pv 0) (go_d gd_int) (gd_fz (ge_div (go_s 3 (pv 3)) (go_s 1 (pv 1)))))
 (gss_one (gs_ret (ge_mod (go_s 3 (pv 3)) (go_s 1 (pv 1)))))))))
  exact ⟨fd, hm, F.kp, F.bindsN (fun _ _ _ _ _ _ us hl => match us, hl with | [_, _], _ => rfl), key⟩
/-! _law_int -/
theorem sc__law_int : FnScope ["value"] ["value"] (defScope (top 21)) := ⟨rfl, rfl, rfl, by decide +kernel, rfl, by decide +kernel, by decide +kernel⟩
def m__law_int : M Fl := (mret (shV (vand (fz (op1 (oTest isiInt) (nm 0))) (vnot (fz (op1 (oTest isiBool) (nm 0)))))))
def F__law_int : Fn := run 1 m__law_int
theorem ok__law_int (t : Tops w K mg base) : Has P w K mg base (TT K) "_law_int" 1 ["value"] 1 F__law_int := by
  obtain ⟨fd, F, hm⟩ := t.f__law_int
  have key := fn_okD (P := P) (w := w) (mg := mg) (base := base) (T := TT K) (k := 0) (m := m__law_int) F sc__law_int fun cdv A outer s H E hcd hr => (gss_one (gs_ret (ge_sh (gd_and (gd_fz (ge_isi isi_int rfl t.n_isinstance rfl t.n_int (go_s 0 (pv 0)))) (gd_one (gd_not (gd_fz (ge_isi isi_bool rfl t.n_isinstance rfl t.n_bool (go_s 0 (pv 0))))))))))
  exact ⟨fd, hm, F.kp, F.bindsN (fun _ _ _ _ _ _ us hl => match us, hl with | [_], _ => rfl), key⟩
/-! _law_things -/
theorem sc__law_things : FnScope ["draws", "most", "names", "name"] ["draws", "most"] (defScope (top 22)) := ⟨rfl, rfl, rfl, by decide +kernel, rfl, by decide +kernel, by decide +kernel⟩
def c1__law_things : M Vl := mcomp [3] (seqM (nv 2)) (tgN 3) mtrue (mtup (macons (nv 3) (macons (fz (opv2 oIx (mlst (macons (cst (.str "cell")) (macons (cst (.str "count")) (macons (cst (.str "stack")) (macons (cst (.str "queue")) (macons (cst (.str "bag")) manil)))))) (odD (fz (mcallI 2 F__law_draw 0 (macons (cst (.int 5)) manil)))))) manil)))
def m__law_things : M Fl := (mseq (asgN 2 (mslice (odD (fz (mlst (macons (cst (.str "a")) (macons (cst (.str "box")) (macons (cst (.str "c")) (macons (cst (.str "d")) (macons (cst (.str "e")) (macons (cst (.str "f")) manil))))))))) pno (pso (odD (fz (op2 oAdd (odD (cst (.int 1))) (odD (fz (mcallI 2 F__law_draw 0 (macons (nv 1) manil))))))))))
 (mret (op1 oTuple (odD (fz c1__law_things)))))
def F__law_things : Fn := run 4 m__law_things
theorem ok__law_things (t : Tops w K mg base) : Has P w K mg base (TT K) "_law_things" 3 ["draws", "most"] 2 F__law_things := by
  obtain ⟨fd, F, hm⟩ := t.f__law_things
  have H__law_draw := ok__law_draw (P := P) t
  have key := fn_okD (P := P) (w := w) (mg := mg) (base := base) (T := TT K) (k := 2) (m := m__law_things) F sc__law_things fun cdv A outer s H E hcd hr => (gss_cons (gs_set (i := 2) sc__law_things.nd rfl (by first | exact .inl rfl | exact .inr rfl) (ge_slice (go_d (gd_fz (ge_lst (ga_cons gd_str (ga_cons gd_str (ga_cons gd_str (ga_cons gd_str (ga_cons gd_str (ga_cons gd_str ga_nil))))))))) gp_no (gp_so (go_d (gd_fz (ge_add (go_d gd_int) (go_d (gd_fz (ge_callHI H__law_draw hr (by omega) rfl (pv 0) (ga_cons (gd_v 1 (pv 1)) ga_nil))))))))))
 (gss_one (gs_ret (ge_tuple rfl t.n_tuple (go_d (gd_fz (ge_lc (own := [("name", 3)]) rfl rfl sc__law_things.nd (gi_seq (gd_v 2 (pv 2))) (blk_of (by kernel_rfl)) (fun _ _ _ _ _ => (gg_name (by decide) sc__law_things.nd rfl (by first | exact .inl rfl | exact .inr rfl))) (fun _ _ _ _ _ => gts_nil) (fun _ _ _ _ _ => (gd_tup (ga_cons (gd_v 3 (pv 3)) (ga_cons (gd_fz (ge_ixv (ge_lst (ga_cons gd_str (ga_cons gd_str (ga_cons gd_str (ga_cons gd_str (ga_cons gd_str ga_nil)))))) (go_d (gd_fz (ge_callHI H__law_draw hr (by omega) rfl (pv 0) (ga_cons gd_int ga_nil)))))) ga_nil)))))))))))
  exact ⟨fd, hm, F.kp, F.bindsN (fun _ _ _ _ _ _ us hl => match us, hl with | [_, _], _ => rfl), key⟩
/-! _law_start -/
theorem sc__law_start : FnScope ["kind"] ["kind"] (defScope (top 23)) := ⟨rfl, rfl, rfl, by decide +kernel, rfl, by decide +kernel, by decide +kernel⟩
def m__law_start : M Fl := (mret (shV (mif (tst (fz (op2 (oIn false) (nm 0) (odD (mtup (macons (cst (.str "cell")) (macons (cst (.str "count")) manil))))))) (cst (.int 0)) (mtup manil))))
def F__law_start : Fn := run 1 m__law_start
theorem ok__law_start (t : Tops w K mg base) : Has P w K mg base (TT K) "_law_start" 1 ["kind"] 1 F__law_start := by
  obtain ⟨fd, F, hm⟩ := t.f__law_start
  have key := fn_okD (P := P) (w := w) (mg := mg) (base := base) (T := TT K) (k := 0) (m := m__law_start) F sc__law_start fun cdv A outer s H E hcd hr => (gss_one (gs_ret (ge_sh (gd_if (gt_cmp c_in (go_s 0 (pv 0)) (go_d (gd_tup (ga_cons gd_str (ga_cons gd_str ga_nil))))) gd_int (gd_tup ga_nil)))))
  exact ⟨fd, hm, F.kp, F.bindsN (fun _ _ _ _ _ _ us hl => match us, hl with | [_], _ => rfl), key⟩
/-! _law_done -/
theorem sc__law_done : FnScope ["kind", "state", "deed", "word", "at", "there", "one"] ["kind", "state", "deed"] (defScope (top 24)) := ⟨rfl, rfl, rfl, by decide +kernel, rfl, by decide +kernel, by decide +kernel⟩
def c1__law_done : M Vl := mcomp [6] (seqM (nv 1)) (tgN 6) (tst (fz (op2 oNe (nm 6) (odD (fz (op2 oIx (nm 2) (odD (cst (.int 1))))))))) (nv 6)
def c2__law_done : M Vl := mcomp [6] (seqM (nv 1)) (tgN 6) (tst (fz (op2 oNe (nm 6) (odD (fz (op2 oIx (nm 2) (odD (cst (.int 1))))))))) (nv 6)
def m__law_done : M Fl := (mseq (asgN 3 (op2 oIx (nm 2) (odD (cst (.int 0)))))
 (mseq (mifS (tst (fz (op2 oEq (nm 3) (odD (cst (.str "put"))))))
  (mret (shV (mtup (macons (fz (op2 oIx (nm 2) (odD (cst (.int 1))))) (macons (cst .none) manil)))))
  mnx)
 (mseq (mifS (tst (fz (op2 oEq (nm 3) (odD (cst (.str "add"))))))
  (mret (shV (mtup (macons (fz (op2 oAdd (nm 1) (odD (fz (op2 oIx (nm 2) (odD (cst (.int 1)))))))) (macons (cst .none) manil)))))
  mnx)
 (mseq (mifS (tst (fz (op2 (oIn false) (nm 3) (odD (mtup (macons (cst (.str "get")) (macons (cst (.str "read")) manil)))))))
  (mret (shV (mtup (macons (nv 1) (macons (nv 1) manil)))))
  mnx)
 (mseq (mifS (tst (fz (op2 oEq (nm 3) (odD (cst (.str "push"))))))
  (mret (shV (mtup (macons (fz (op2 oAdd (nm 1) (odD (mtup (macons (fz (op2 oIx (nm 2) (odD (cst (.int 1))))) manil))))) (macons (cst .none) manil)))))
  mnx)
 (mseq (mifS (tst (fz (op2 oEq (nm 3) (odD (cst (.str "pop"))))))
  (mseq (asgN 4 (mif (tst (fz (op2 oEq (nm 0) (odD (cst (.str "stack")))))) (op2 oSub (odD (fz (op1 oLen (nm 1)))) (odD (cst (.int 1)))) (shV (cst (.int 0)))))
 (mret (shV (mif (tst (fz (op2 oNe (nm 1) (odD (mtup manil))))) (mtup (macons (fz (op2 oAdd (odD (fz (mslice (nm 1) pno (pso (nm 4))))) (odD (fz (mslice (nm 1) (pso (odD (fz (op2 oAdd (nm 4) (odD (cst (.int 1))))))) pno))))) (macons (fz (op2 oIx (nm 1) (nm 4))) manil))) (mtup (macons (mtup manil) (macons (cst .none) manil)))))))
  mnx)
 (mseq (asgN 5 (op2 (oIn false) (odD (fz (op2 oIx (nm 2) (odD (cst (.int 1)))))) (nm 1)))
 (mseq (mifS (tst (fz (op2 oEq (nm 3) (odD (cst (.str "keep"))))))
  (mret (shV (mtup (macons (fz (op1 oTuple (odD (fz (op1 oSorted (odD (fz (op2 oAdd (odD (fz c1__law_done)) (odD (fz (mlst (macons (fz (op2 oIx (nm 2) (odD (cst (.int 1))))) manil)))))))))))) (macons (vnot (nv 5)) manil)))))
  mnx)
 (mseq (mifS (tst (fz (op2 oEq (nm 3) (odD (cst (.str "drop"))))))
  (mret (shV (mtup (macons (fz (op1 oTuple (odD (fz c2__law_done)))) (macons (nv 5) manil)))))
  mnx)
 (mret (shV (mtup (macons (nv 1) (macons (nv 5) manil))))))))))))))
def F__law_done : Fn := run 7 m__law_done
theorem ok__law_done (t : Tops w K mg base) : Has P w K mg base (TT K) "_law_done" 1 ["kind", "state", "deed"] 3 F__law_done := by
  obtain ⟨fd, F, hm⟩ := t.f__law_done
  have key := fn_okD (P := P) (w := w) (mg := mg) (base := base) (T := TT K) (k := 0) (m := m__law_done) F sc__law_done fun cdv A outer s H E hcd hr => (gss_cons (gs_set (i := 3) sc__law_done.nd rfl (by first | exact .inl rfl | exact .inr rfl) (ge_ix (go_s 2 (pv 2)) (go_d gd_int)))
 (gss_cons (gs_if (gt_cmp (c_eq hr) (go_s 3 (pv 3)) (go_d gd_str))
  (gss_one (gs_ret (ge_sh (gd_tup (ga_cons (gd_fz (ge_ix (go_s 2 (pv 2)) (go_d gd_int))) (ga_cons gd_none ga_nil))))))
  gss_nil)
 (gss_cons (gs_if (gt_cmp (c_eq hr) (go_s 3 (pv 3)) (go_d gd_str))
  (gss_one (gs_ret (ge_sh (gd_tup (ga_cons (gd_fz (ge_add (go_s 1 (pv 1)) (go_d (gd_fz (ge_ix (go_s 2 (pv 2)) (go_d gd_int)))))) (ga_cons gd_none ga_nil))))))
  gss_nil)
 (gss_cons (gs_if (gt_cmp c_in (go_s 3 (pv 3)) (go_d (gd_tup (ga_cons gd_str (ga_cons gd_str ga_nil)))))
  (gss_one (gs_ret (ge_sh (gd_tup (ga_cons (gd_v 1 (pv 1)) (ga_cons (gd_v 1 (pv 1)) ga_nil))))))
  gss_nil)
 (gss_cons (gs_if (gt_cmp (c_eq hr) (go_s 3 (pv 3)) (go_d gd_str))
  (gss_one (gs_ret (ge_sh (gd_tup (ga_cons (gd_fz (ge_add (go_s 1 (pv 1)) (go_d (gd_tup (ga_cons (gd_fz (ge_ix (go_s 2 (pv 2)) (go_d gd_int))) ga_nil))))) (ga_cons gd_none ga_nil))))))
  gss_nil)
 (gss_cons (gs_if (gt_cmp (c_eq hr) (go_s 3 (pv 3)) (go_d gd_str))
  (gss_cons (gs_set (i := 4) sc__law_done.nd rfl (by first | exact .inl rfl | exact .inr rfl) (ge_if (gt_cmp (c_eq hr) (go_s 0 (pv 0)) (go_d gd_str)) (ge_sub (go_d (gd_fz (ge_len rfl t.n_len (go_s 1 (pv 1))))) (go_d gd_int)) (ge_sh gd_int)))
 (gss_one (gs_ret (ge_sh (gd_if (gt_cmp (c_ne hr) (go_s 1 (pv 1)) (go_d (gd_tup ga_nil))) (gd_tup (ga_cons (gd_fz (ge_add (go_d (gd_fz (ge_slice (go_s 1 (pv 1)) gp_no (gp_so (go_s 4 (pv 4)))))) (go_d (gd_fz (ge_slice (go_s 1 (pv 1)) (gp_so (go_d (gd_fz (ge_add (go_s 4 (pv 4)) (go_d gd_int))))) gp_no))))) (ga_cons (gd_fz (ge_ix (go_s 1 (pv 1)) (go_s 4 (pv 4)))) ga_nil))) (gd_tup (ga_cons (gd_tup ga_nil) (ga_cons gd_none ga_nil))))))))
  gss_nil)
 (gss_cons (gs_set (i := 5) sc__law_done.nd rfl (by first | exact .inl rfl | exact .inr rfl) (ge_cmp c_in (go_d (gd_fz (ge_ix (go_s 2 (pv 2)) (go_d gd_int)))) (go_s 1 (pv 1))))
 (gss_cons (gs_if (gt_cmp (c_eq hr) (go_s 3 (pv 3)) (go_d gd_str))
  (gss_one (gs_ret (ge_sh (gd_tup (ga_cons (gd_fz (ge_tuple rfl t.n_tuple (go_d (gd_fz (ge_sorted hr rfl t.n_sorted (go_d (gd_fz (ge_add (go_d (gd_fz (ge_lc (own := [("one", 6)]) rfl rfl sc__law_done.nd (gi_seq (gd_v 1 (pv 1))) (blk_of (by kernel_rfl)) (fun _ _ _ _ _ => (gg_name (by decide) sc__law_done.nd rfl (by first | exact .inl rfl | exact .inr rfl))) (fun _ _ _ _ _ => (gts_one (gt_cmp (c_ne hr) (go_s 6 (pv 6)) (go_d (gd_fz (ge_ix (go_s 2 (pv 2)) (go_d gd_int))))))) (fun _ _ _ _ _ => (gd_v 6 (pv 6)))))) (go_d (gd_fz (ge_lst (ga_cons (gd_fz (ge_ix (go_s 2 (pv 2)) (go_d gd_int))) ga_nil)))))))))))) (ga_cons (gd_not (gd_v 5 (pv 5))) ga_nil))))))
  gss_nil)
 (gss_cons (gs_if (gt_cmp (c_eq hr) (go_s 3 (pv 3)) (go_d gd_str))
  (gss_one (gs_ret (ge_sh (gd_tup (ga_cons (gd_fz (ge_tuple rfl t.n_tuple (go_d (gd_fz (ge_lc (own := [("one", 6)]) rfl rfl sc__law_done.nd (gi_seq (gd_v 1 (pv 1))) (blk_of (by kernel_rfl)) (fun _ _ _ _ _ => (gg_name (by decide) sc__law_done.nd rfl (by first | exact .inl rfl | exact .inr rfl))) (fun _ _ _ _ _ => (gts_one (gt_cmp (c_ne hr) (go_s 6 (pv 6)) (go_d (gd_fz (ge_ix (go_s 2 (pv 2)) (go_d gd_int))))))) (fun _ _ _ _ _ => (gd_v 6 (pv 6)))))))) (ga_cons (gd_v 5 (pv 5)) ga_nil))))))
  gss_nil)
 (gss_one (gs_ret (ge_sh (gd_tup (ga_cons (gd_v 1 (pv 1)) (ga_cons (gd_v 5 (pv 5)) ga_nil)))))))))))))))
  exact ⟨fd, hm, F.kp, F.bindsN (fun _ _ _ _ _ _ us hl => match us, hl with | [_, _, _], _ => rfl), key⟩
/-! _law_deed -/
theorem sc__law_deed : FnScope ["draws", "kind", "word"] ["draws", "kind"] (defScope (top 25)) := ⟨rfl, rfl, rfl, by decide +kernel, rfl, by decide +kernel, by decide +kernel⟩
def d1__law_deed : M Vl := mdisp [.inr "cell", .inr "count", .inr "stack", .inr "queue", .inr "bag"] [(fz (mlst (macons (cst (.str "put")) (macons (cst (.str "get")) manil)))), (fz (mlst (macons (cst (.str "add")) (macons (cst (.str "read")) manil)))), (fz (mlst (macons (cst (.str "push")) (macons (cst (.str "pop")) manil)))), (fz (mlst (macons (cst (.str "push")) (macons (cst (.str "pop")) manil)))), (fz (mlst (macons (cst (.str "keep")) (macons (cst (.str "drop")) (macons (cst (.str "has")) (macons (cst (.str "keep")) manil))))))]
def m__law_deed : M Fl := (mseq (asgN 2 (opv2 oDix d1__law_deed (nm 1)))
 (mseq (asgN 2 (op2 oIx (nm 2) (odD (fz (mcallI 2 F__law_draw 0 (macons (fz (op1 oLen (nm 2))) manil))))))
 (mseq (mifS (tst (fz (op2 (oIn false) (nm 2) (odD (mtup (macons (cst (.str "get")) (macons (cst (.str "read")) (macons (cst (.str "pop")) manil))))))))
  (mret (shV (mtup (macons (nv 2) manil))))
  mnx)
 (mret (shV (mtup (macons (nv 2) (macons (fz (op2 oSub (odD (fz (mcallI 2 F__law_draw 0 (macons (fz (opv2 oIx (mlst (macons (cst (.int 3)) (macons (cst (.int 9)) manil))) (odD (fz (mcallI 2 F__law_draw 0 (macons (cst (.int 2)) manil)))))) manil)))) (odD (cst (.int 1))))) manil))))))))
def F__law_deed : Fn := run 3 m__law_deed
theorem ok__law_deed (t : Tops w K mg base) : Has P w K mg base (TT K) "_law_deed" 3 ["draws", "kind"] 2 F__law_deed := by
  obtain ⟨fd, F, hm⟩ := t.f__law_deed
  have H__law_draw := ok__law_draw (P := P) t
  have key := fn_okD (P := P) (w := w) (mg := mg) (base := base) (T := TT K) (k := 2) (m := m__law_deed) F sc__law_deed fun cdv A outer s H E hcd hr => (gss_cons (gs_set (i := 2) sc__law_deed.nd rfl (by first | exact .inl rfl | exact .inr rfl) (ge_dixv hr (ge_disp (gps_str (gd_fz (ge_lst (ga_cons gd_str (ga_cons gd_str ga_nil)))) (gps_str (gd_fz (ge_lst (ga_cons gd_str (ga_cons gd_str ga_nil)))) (gps_str (gd_fz (ge_lst (ga_cons gd_str (ga_cons gd_str ga_nil)))) (gps_str (gd_fz (ge_lst (ga_cons gd_str (ga_cons gd_str ga_nil)))) (gps_str (gd_fz (ge_lst (ga_cons gd_str (ga_cons gd_str (ga_cons gd_str (ga_cons gd_str ga_nil)))))) gps_nil))))) (by decide)) (go_s 1 (pv 1))))
 (gss_cons (gs_set (i := 2) sc__law_deed.nd rfl (by first | exact .inl rfl | exact .inr rfl) (ge_ix (go_s 2 (pv 2)) (go_d (gd_fz (ge_callHI H__law_draw hr (by omega) rfl (pv 0) (ga_cons (gd_fz (ge_len rfl t.n_len (go_s 2 (pv 2)))) ga_nil))))))
 (gss_cons (gs_if (gt_cmp c_in (go_s 2 (pv 2)) (go_d (gd_tup (ga_cons gd_str (ga_cons gd_str (ga_cons gd_str ga_nil))))))
  (gss_one (gs_ret (ge_sh (gd_tup (ga_cons (gd_v 2 (pv 2)) ga_nil)))))
  gss_nil)
 (gss_one (gs_ret (ge_sh (gd_tup (ga_cons (gd_v 2 (pv 2)) (ga_cons (gd_fz (ge_sub (go_d (gd_fz (ge_callHI H__law_draw hr (by omega) rfl (pv 0) (ga_cons (gd_fz (ge_ixv (ge_lst (ga_cons gd_int (ga_cons gd_int ga_nil))) (go_d (gd_fz (ge_callHI H__law_draw hr (by omega) rfl (pv 0) (ga_cons gd_int ga_nil)))))) ga_nil)))) (go_d gd_int))) ga_nil)))))))))
  exact ⟨fd, hm, F.kp, F.bindsN (fun _ _ _ _ _ _ us hl => match us, hl with | [_, _], _ => rfl), key⟩
/-! _law_alike -/
theorem sc__law_alike : FnScope ["told", "due"] ["told", "due"] (defScope (top 26)) := ⟨rfl, rfl, rfl, by decide +kernel, rfl, by decide +kernel, by decide +kernel⟩
def m__law_alike : M Fl := (mret (shV (vand (fz (op2 oEq (odD (fz (op2 (oIs false) (nm 0) (odD (cst (.bool true)))))) (odD (fz (op2 (oIs false) (nm 1) (odD (cst (.bool true)))))))) (vand (fz (op2 oEq (odD (fz (op2 (oIs false) (nm 0) (odD (cst (.bool false)))))) (odD (fz (op2 (oIs false) (nm 1) (odD (cst (.bool false)))))))) (fz (op2 oEq (nm 0) (nm 1)))))))
def F__law_alike : Fn := run 2 m__law_alike
theorem ok__law_alike (t : Tops w K mg base) : Has P w K mg base (TT K) "_law_alike" 1 ["told", "due"] 2 F__law_alike := by
  obtain ⟨fd, F, hm⟩ := t.f__law_alike
  have key := fn_okD (P := P) (w := w) (mg := mg) (base := base) (T := TT K) (k := 0) (m := m__law_alike) F sc__law_alike fun cdv A outer s H E hcd hr => (gss_one (gs_ret (ge_sh (gd_and (gd_fz (ge_cmp (c_eq hr) (go_d (gd_fz (ge_cmp c_is (go_s 0 (pv 0)) (go_d gd_bool)))) (go_d (gd_fz (ge_cmp c_is (go_s 1 (pv 1)) (go_d gd_bool)))))) (gd_and (gd_fz (ge_cmp (c_eq hr) (go_d (gd_fz (ge_cmp c_is (go_s 0 (pv 0)) (go_d gd_bool)))) (go_d (gd_fz (ge_cmp c_is (go_s 1 (pv 1)) (go_d gd_bool)))))) (gd_one (gd_fz (ge_cmp (c_eq hr) (go_s 0 (pv 0)) (go_s 1 (pv 1))))))))))
  exact ⟨fd, hm, F.kp, F.bindsN (fun _ _ _ _ _ _ us hl => match us, hl with | [_, _], _ => rfl), key⟩
/-! _law_wrong -/
theorem sc__law_wrong : FnScope ["things", "name", "kind", "first", "wrong", "sign", "value"] ["things"] (defScope (top 27)) := ⟨rfl, rfl, rfl, by decide +kernel, rfl, by decide +kernel, by decide +kernel⟩
def c1__law_wrong : M Vl := mcomp [5] (seqM (cst (.str "abcdefg"))) (tgN 5) mtrue (mtup (macons (fz (op2 oAdd (odD (cst (.str "n"))) (nm 5))) (macons (cst (.str "cell")) manil)))
def c2__law_wrong : M Vl := mcomp [6] (seqM (nv 4)) (tgN 6) (tst (fz (op2 (oIs true) (odD (fz (mcall 1 F_is_things (macons (nv 6) manil)))) (odD (cst (.bool false)))))) (nv 6)
def m__law_wrong : M Fl := (mseq (asgT (tgtup 2 (tgcons (tgN 1) (tgcons (tgN 2) tgnil))) (odD (fz (op2 oIx (nm 0) (odD (fz (op1 (oI1 fun i => -i) (odD (cst (.int 1))))))))))
 (mseq (asgN 3 (mslice (nm 0) pno (pso (odD (fz (op1 (oI1 fun i => -i) (odD (cst (.int 1)))))))))
 (mseq (asgN 4 (mlst (macons (cst .none) (macons (mtup manil) (macons (fz (op1 oList (nm 0))) (macons (fz (op2 oAdd (nm 0) (odD (fz (mslice (nm 0) (pso (odD (fz (op1 (oI1 fun i => -i) (odD (cst (.int 1))))))) pno))))) (macons (fz (op2 oAdd (nm 3) (odD (mtup (macons (mtup (macons (nv 1) (macons (cst (.str "pile")) manil))) manil))))) (macons (fz (op2 oAdd (nm 3) (odD (mtup (macons (mtup (macons (nv 1) (macons (cst .none) manil))) manil))))) (macons (fz (op2 oAdd (nm 3) (odD (mtup (macons (mtup (macons (nv 1) manil)) manil))))) (macons (fz (op2 oAdd (nm 3) (odD (mtup (macons (fz (mlst (macons (nv 1) (macons (nv 2) manil)))) manil))))) (macons (fz (op2 oAdd (nm 3) (odD (mtup (macons (mtup (macons (cst (.str "B1")) (macons (nv 2) manil))) manil))))) (macons (fz (op2 oAdd (nm 3) (odD (mtup (macons (mtup (macons (nv 1) (macons (nv 2) (macons (cst (.int 0)) manil)))) manil))))) (macons (fz (op2 oAdd (nm 3) (odD (mtup (macons (mtup (macons (cst .none) (macons (nv 2) manil))) manil))))) (macons (mtup (macons (mtup (macons (cst (.str "b")) (macons (cst (.str "cell")) manil))) (macons (mtup (macons (cst (.str "a")) (macons (cst (.str "cell")) manil))) manil))) (macons (fz (op1 oTuple (odD (fz c1__law_wrong)))) (macons (cst (.int 5)) (macons (cst (.str "cell")) (macons (mtup (macons (nv 1) (macons (nv 2) manil))) manil))))))))))))))))))
 (mret (shV (vand (fz (op2 (oIs false) (odD (fz (mcall 1 F_is_things (macons (nv 0) manil)))) (odD (cst (.bool true))))) (fz (op2 oEq (odD (fz c2__law_wrong)) (odD (fz (mlst manil)))))))))))
def F__law_wrong : Fn := run 7 m__law_wrong
theorem ok__law_wrong (t : Tops w K mg base) : Has P w K mg base (TT K) "_law_wrong" 8 ["things"] 1 F__law_wrong := by
  obtain ⟨fd, F, hm⟩ := t.f__law_wrong
  have H_is_things := ok_is_things (P := P) t
  have key := fn_okD (P := P) (w := w) (mg := mg) (base := base) (T := TT K) (k := 7) (m := m__law_wrong) F sc__law_wrong fun cdv A outer s H E hcd hr => (gss_cons (gs_asgT (L := [1, 2]) (go_d (gd_fz (ge_ix (go_s 0 (pv 0)) (go_d (gd_fz (ge_neg (go_d gd_int))))))) (ggt_tup rfl (ggs_cons (gg_name (by decide) sc__law_wrong.nd rfl (by first | exact .inl rfl | exact .inr rfl)) (ggs_cons (gg_name (by decide) sc__law_wrong.nd rfl (by first | exact .inl rfl | exact .inr rfl)) ggs_nil))))
 (gss_cons (gs_set (i := 3) sc__law_wrong.nd rfl (by first | exact .inl rfl | exact .inr rfl) (ge_slice (go_s 0 (pv 0)) gp_no (gp_so (go_d (gd_fz (ge_neg (go_d gd_int)))))))
 (gss_cons (gs_set (i := 4) sc__law_wrong.nd rfl (by first | exact .inl rfl | exact .inr rfl) (ge_lst (ga_cons gd_none (ga_cons (gd_tup ga_nil) (ga_cons (gd_fz (ge_list rfl t.n_list (go_s 0 (pv 0)))) (ga_cons (gd_fz (ge_add (go_s 0 (pv 0)) (go_d (gd_fz (ge_slice (go_s 0 (pv 0)) (gp_so (go_d (gd_fz (ge_neg (go_d gd_int))))) gp_no))))) (ga_cons (gd_fz (ge_add (go_s 3 (pv 3)) (go_d (gd_tup (ga_cons (gd_tup (ga_cons (gd_v 1 (pv 1)) (ga_cons gd_str ga_nil))) ga_nil))))) (ga_cons (gd_fz (ge_add (go_s 3 (pv 3)) (go_d (gd_tup (ga_cons (gd_tup (ga_cons (gd_v 1 (pv 1)) (ga_cons gd_none ga_nil))) ga_nil))))) (ga_cons (gd_fz (ge_add (go_s 3 (pv 3)) (go_d (gd_tup (ga_cons (gd_tup (ga_cons (gd_v 1 (pv 1)) ga_nil)) ga_nil))))) (ga_cons (gd_fz (ge_add (go_s 3 (pv 3)) (go_d (gd_tup (ga_cons (gd_fz (ge_lst (ga_cons (gd_v 1 (pv 1)) (ga_cons (gd_v 2 (pv 2)) ga_nil)))) ga_nil))))) (ga_cons (gd_fz (ge_add (go_s 3 (pv 3)) (go_d (gd_tup (ga_cons (gd_tup (ga_cons gd_str (ga_cons (gd_v 2 (pv 2)) ga_nil))) ga_nil))))) (ga_cons (gd_fz (ge_add (go_s 3 (pv 3)) (go_d (gd_tup (ga_cons (gd_tup (ga_cons (gd_v 1 (pv 1)) (ga_cons (gd_v 2 (pv 2)) (ga_cons gd_int ga_nil)))) ga_nil))))) (ga_cons (gd_fz (ge_add (go_s 3 (pv 3)) (go_d (gd_tup (ga_cons (gd_tup (ga_cons gd_none (ga_cons (gd_v 2 (pv 2)) ga_nil))) ga_nil))))) (ga_cons (gd_tup (ga_cons (gd_tup (ga_cons gd_str (ga_cons gd_str ga_nil))) (ga_cons (gd_tup (ga_cons gd_str (ga_cons gd_str ga_nil))) ga_nil))) (ga_cons (gd_fz (ge_tuple rfl t.n_tuple (go_d (gd_fz (ge_lc (own := [("sign", 5)]) rfl rfl sc__law_wrong.nd (gi_seq gd_str) (blk_of (by kernel_rfl)) (fun _ _ _ _ _ => (gg_name (by decide) sc__law_wrong.nd rfl (by first | exact .inl rfl | exact .inr rfl))) (fun _ _ _ _ _ => gts_nil) (fun _ _ _ _ _ => (gd_tup (ga_cons (gd_fz (ge_add (go_d gd_str) (go_s 5 (pv 5)))) (ga_cons gd_str ga_nil))))))))) (ga_cons gd_int (ga_cons gd_str (ga_cons (gd_tup (ga_cons (gd_v 1 (pv 1)) (ga_cons (gd_v 2 (pv 2)) ga_nil))) ga_nil))))))))))))))))))
 (gss_one (gs_ret (ge_sh (gd_and (gd_fz (ge_cmp c_is (go_d (gd_fz (ge_callH H_is_things hr (by omega) rfl (ga_cons (gd_v 0 (pv 0)) ga_nil)))) (go_d gd_bool))) (gd_one (gd_fz (ge_cmp (c_eq hr) (go_d (gd_fz (ge_lc (own := [("value", 6)]) rfl rfl sc__law_wrong.nd (gi_seq (gd_v 4 (pv 4))) (blk_of (by kernel_rfl)) (fun _ _ _ _ _ => (gg_name (by decide) sc__law_wrong.nd rfl (by first | exact .inl rfl | exact .inr rfl))) (fun _ _ _ _ _ => (gts_one (gt_cmp c_isnot (go_d (gd_fz (ge_callH H_is_things hr (by omega) rfl (ga_cons (gd_v 6 (pv 6)) ga_nil)))) (go_d gd_bool)))) (fun _ _ _ _ _ => (gd_v 6 (pv 6)))))) (go_d (gd_fz (ge_lst ga_nil)))))))))))))
  exact ⟨fd, hm, F.kp, F.bindsN (fun _ _ _ _ _ _ us hl => match us, hl with | [_], _ => rfl), key⟩
/-! _law_deeds -/
theorem sc__law_deeds : FnScope ["kind", "words", "alone", "right", "word", "wrong"] ["kind"] (defScope (top 28)) := ⟨rfl, rfl, rfl, by decide +kernel, rfl, by decide +kernel, by decide +kernel⟩
def d1__law_deeds : M Vl := mdisp [.inr "cell", .inr "count", .inr "stack", .inr "queue", .inr "bag"] [(fz (mlst (macons (cst (.str "put")) manil))), (fz (mlst (macons (cst (.str "add")) manil))), (fz (mlst (macons (cst (.str "push")) manil))), (fz (mlst (macons (cst (.str "push")) manil))), (fz (mlst (macons (cst (.str "keep")) (macons (cst (.str "drop")) (macons (cst (.str "has")) manil)))))]
def d2__law_deeds : M Vl := mdisp [.inr "cell", .inr "count", .inr "stack", .inr "queue", .inr "bag"] [(fz (mlst (macons (cst (.str "get")) manil))), (fz (mlst (macons (cst (.str "read")) manil))), (fz (mlst (macons (cst (.str "pop")) manil))), (fz (mlst (macons (cst (.str "pop")) manil))), (fz (mlst manil))]
def c3__law_deeds : M Vl := mcomp [4] (seqM (nv 1)) (tgN 4) mtrue (mtup (macons (nv 4) (macons (cst (.int 0)) manil)))
def l4__law_deeds : M Fl := mfor (seqM (nv 1)) (tgN 4)
  (mseq (asgN 3 (op2 oAdd (nm 3) (odD (fz (mlst (macons (mtup (macons (nv 4) (macons (fz (op2 oPow (odD (cst (.int 10))) (odD (cst (.int 6))))) manil))) (macons (mtup (macons (nv 4) (macons (fz (op1 (oI1 fun i => -i) (odD (fz (op2 oPow (odD (cst (.int 10))) (odD (cst (.int 6)))))))) manil))) manil)))))))
 (asgN 5 (op2 oAdd (nm 5) (odD (fz (mlst (macons (mtup (macons (nv 4) manil)) (macons (mtup (macons (nv 4) (macons (fz (op2 oAdd (odD (fz (op2 oPow (odD (cst (.int 10))) (odD (cst (.int 6)))))) (odD (cst (.int 1))))) manil))) (macons (mtup (macons (nv 4) (macons (fz (op2 oSub (odD (fz (op1 (oI1 fun i => -i) (odD (fz (op2 oPow (odD (cst (.int 10))) (odD (cst (.int 6))))))))) (odD (cst (.int 1))))) manil))) (macons (mtup (macons (nv 4) (macons (cst (.bool true)) manil))) (macons (mtup (macons (nv 4) (macons (cst .none) manil))) (macons (mtup (macons (nv 4) (macons (cst (.str "1")) manil))) (macons (mtup (macons (nv 4) (macons (cst (.int 1)) (macons (cst (.int 1)) manil)))) (macons (fz (mlst (macons (nv 4) (macons (cst (.int 1)) manil)))) manil))))))))))))))
def l5__law_deeds : M Fl := mfor (seqM (fz (mlst (macons (cst (.str "put")) (macons (cst (.str "add")) (macons (cst (.str "push")) (macons (cst (.str "keep")) (macons (cst (.str "drop")) (macons (cst (.str "has")) manil))))))))) (tgN 4)
  (mifS (tst (fz (op2 (oIn true) (nm 4) (nm 1))))
  (mdrop (shV (mapp 5 (mtup (macons (nv 4) (macons (cst (.int 1)) manil))))))
  mnx)
def l6__law_deeds : M Fl := mfor (seqM (fz (mlst (macons (cst (.str "get")) (macons (cst (.str "read")) (macons (cst (.str "pop")) manil)))))) (tgN 4)
  (mifS (tst (fz (op2 (oIn true) (nm 4) (nm 2))))
  (mdrop (shV (mapp 5 (mtup (macons (nv 4) manil)))))
  mnx)
def c7__law_deeds : M Vl := mcomp [4] (seqM (nv 2)) (tgN 4) mtrue (mtup (macons (nv 4) manil))
def m__law_deeds : M Fl := (mseq (asgN 1 (opv2 oDix d1__law_deeds (nm 0)))
 (mseq (asgN 2 (opv2 oDix d2__law_deeds (nm 0)))
 (mseq (asgN 3 c3__law_deeds)
 (mseq (asgN 5 (mlst (macons (cst .none) (macons (mtup manil) (macons (cst (.str "put")) (macons (mtup (macons (cst (.str "get")) (macons (cst (.int 0)) manil))) (macons (mtup (macons (cst (.str "read")) (macons (cst (.int 1)) manil))) (macons (mtup (macons (cst (.str "pop")) (macons (cst (.int 0)) manil))) (macons (mtup (macons (cst .none) (macons (cst (.int 1)) manil))) (macons (mtup (macons (cst (.int 1)) (macons (cst (.str "put")) manil))) (macons (mtup (macons (cst (.str "swap")) (macons (cst (.int 1)) manil))) (macons (mtup (macons (cst (.str "swap")) manil)) (macons (fz (mlst (macons (cst (.str "put")) (macons (cst (.int 1)) manil)))) manil)))))))))))))
 (mseq l4__law_deeds
 (mseq l5__law_deeds
 (mseq l6__law_deeds
 (mret (shV (mtup (macons (fz (op2 oAdd (nm 3) (odD (fz c7__law_deeds)))) (macons (nv 5) manil))))))))))))
def F__law_deeds : Fn := run 6 m__law_deeds
theorem ok__law_deeds (t : Tops w K mg base) : Has P w K mg base (TT K) "_law_deeds" 1 ["kind"] 1 F__law_deeds := by
  obtain ⟨fd, F, hm⟩ := t.f__law_deeds
  have key := fn_okD (P := P) (w := w) (mg := mg) (base := base) (T := TT K) (k := 0) (m := m__law_deeds) F sc__law_deeds fun cdv A outer s H E hcd hr => (gss_cons (gs_set (i := 1) sc__law_deeds.nd rfl (by first | exact .inl rfl | exact .inr rfl) (ge_dixv hr (ge_disp (gps_str (gd_fz (ge_lst (ga_cons gd_str ga_nil))) (gps_str (gd_fz (ge_lst (ga_cons gd_str ga_nil))) (gps_str (gd_fz (ge_lst (ga_cons gd_str ga_nil))) (gps_str (gd_fz (ge_lst (ga_cons gd_str ga_nil))) (gps_str (gd_fz (ge_lst (ga_cons gd_str (ga_cons gd_str (ga_cons gd_str ga_nil))))) gps_nil))))) (by decide)) (go_s 0 (pv 0))))
 (gss_cons (gs_set (i := 2) sc__law_deeds.nd rfl (by first | exact .inl rfl | exact .inr rfl) (ge_dixv hr (ge_disp (gps_str (gd_fz (ge_lst (ga_cons gd_str ga_nil))) (gps_str (gd_fz (ge_lst (ga_cons gd_str ga_nil))) (gps_str (gd_fz (ge_lst (ga_cons gd_str ga_nil))) (gps_str (gd_fz (ge_lst (ga_cons gd_str ga_nil))) (gps_str (gd_fz (ge_lst ga_nil)) gps_nil))))) (by decide)) (go_s 0 (pv 0))))
 (gss_cons (gs_setLc (own := [("word", 4)]) rfl rfl sc__law_deeds.nd rfl rfl rfl (gi_seq (gd_v 1 (pv 1))) (blk_of (by kernel_rfl)) (fun _ _ _ _ _ => (gg_name (by decide) sc__law_deeds.nd rfl (by first | exact .inl rfl | exact .inr rfl))) (fun _ _ _ _ _ => gts_nil) (fun _ _ _ _ _ => (gd_tup (ga_cons (gd_v 4 (pv 4)) (ga_cons gd_int ga_nil)))))
 (gss_cons (gs_set (i := 5) sc__law_deeds.nd rfl (by first | exact .inl rfl | exact .inr rfl) (ge_lst (ga_cons gd_none (ga_cons (gd_tup ga_nil) (ga_cons gd_str (ga_cons (gd_tup (ga_cons gd_str (ga_cons gd_int ga_nil))) (ga_cons (gd_tup (ga_cons gd_str (ga_cons gd_int ga_nil))) (ga_cons (gd_tup (ga_cons gd_str (ga_cons gd_int ga_nil))) (ga_cons (gd_tup (ga_cons gd_none (ga_cons gd_int ga_nil))) (ga_cons (gd_tup (ga_cons gd_int (ga_cons gd_str ga_nil))) (ga_cons (gd_tup (ga_cons gd_str (ga_cons gd_int ga_nil))) (ga_cons (gd_tup (ga_cons gd_str ga_nil)) (ga_cons (gd_fz (ge_lst (ga_cons gd_str (ga_cons gd_int ga_nil)))) ga_nil)))))))))))))
 (gss_cons (gs_for (L := [4]) PassesOwn.never rfl (gi_seq (gd_v 1 (pv 1))) (gg_name (by decide) sc__law_deeds.nd rfl (by first | exact .inl rfl | exact .inr rfl))
  (gss_cons (gs_set (i := 3) sc__law_deeds.nd rfl (by first | exact .inl rfl | exact .inr rfl) (ge_add (go_s 3 (pv 3)) (go_d (gd_fz (ge_lst (ga_cons (gd_tup (ga_cons (gd_v 4 (pv 4)) (ga_cons (gd_fz (ge_pow (go_d gd_int) (go_d gd_int))) ga_nil))) (ga_cons (gd_tup (ga_cons (gd_v 4 (pv 4)) (ga_cons (gd_fz (ge_neg (go_d (gd_fz (ge_pow (go_d gd_int) (go_d gd_int)))))) ga_nil))) ga_nil)))))))
 (gss_one (gs_set (i := 5) sc__law_deeds.nd rfl (by first | exact .inl rfl | exact .inr rfl) (ge_add (go_s 5 (pv 5)) (go_d (gd_fz (ge_lst (ga_cons (gd_tup (ga_cons (gd_v 4 (pv 4)) ga_nil)) (ga_cons (gd_tup (ga_cons (gd_v 4 (pv 4)) (ga_cons (gd_fz (ge_add (go_d (gd_fz (ge_pow (go_d gd_int) (go_d gd_int)))) (go_d gd_int))) ga_nil))) (ga_cons (gd_tup (ga_cons (gd_v 4 (pv 4)) (ga_cons (gd_fz (ge_sub (go_d (gd_fz (ge_neg (go_d (gd_fz (ge_pow (go_d gd_int) (go_d gd_int))))))) (go_d gd_int))) ga_nil))) (ga_cons (gd_tup (ga_cons (gd_v 4 (pv 4)) (ga_cons gd_bool ga_nil))) (ga_cons (gd_tup (ga_cons (gd_v 4 (pv 4)) (ga_cons gd_none ga_nil))) (ga_cons (gd_tup (ga_cons (gd_v 4 (pv 4)) (ga_cons gd_str ga_nil))) (ga_cons (gd_tup (ga_cons (gd_v 4 (pv 4)) (ga_cons gd_int (ga_cons gd_int ga_nil)))) (ga_cons (gd_fz (ge_lst (ga_cons (gd_v 4 (pv 4)) (ga_cons gd_int ga_nil)))) ga_nil))))))))))))))))
 (gss_cons (gs_for (L := [4]) PassesOwn.never rfl (gi_seq (gd_fz (ge_lst (ga_cons gd_str (ga_cons gd_str (ga_cons gd_str (ga_cons gd_str (ga_cons gd_str (ga_cons gd_str ga_nil))))))))) (gg_name (by decide) sc__law_deeds.nd rfl (by first | exact .inl rfl | exact .inr rfl))
  (gss_one (gs_if (gt_cmp c_notin (go_s 4 (pv 4)) (go_s 1 (pv 1)))
  (gss_one (gs_expr (ge_sh (gd_append (pv 5) (gd_tup (ga_cons (gd_v 4 (pv 4)) (ga_cons gd_int ga_nil)))))))
  gss_nil)))
 (gss_cons (gs_for (L := [4]) PassesOwn.never rfl (gi_seq (gd_fz (ge_lst (ga_cons gd_str (ga_cons gd_str (ga_cons gd_str ga_nil)))))) (gg_name (by decide) sc__law_deeds.nd rfl (by first | exact .inl rfl | exact .inr rfl))
  (gss_one (gs_if (gt_cmp c_notin (go_s 4 (pv 4)) (go_s 2 (pv 2)))
  (gss_one (gs_expr (ge_sh (gd_append (pv 5) (gd_tup (ga_cons (gd_v 4 (pv 4)) ga_nil))))))
  gss_nil)))
 (gss_one (gs_ret (ge_sh (gd_tup (ga_cons (gd_fz (ge_add (go_s 3 (pv 3)) (go_d (gd_fz (ge_lc (own := [("word", 4)]) rfl rfl sc__law_deeds.nd (gi_seq (gd_v 2 (pv 2))) (blk_of (by kernel_rfl)) (fun _ _ _ _ _ => (gg_name (by decide) sc__law_deeds.nd rfl (by first | exact .inl rfl | exact .inr rfl))) (fun _ _ _ _ _ => gts_nil) (fun _ _ _ _ _ => (gd_tup (ga_cons (gd_v 4 (pv 4)) ga_nil)))))))) (ga_cons (gd_v 5 (pv 5)) ga_nil)))))))))))))
  exact ⟨fd, hm, F.kp, F.bindsN (fun _ _ _ _ _ _ us hl => match us, hl with | [_], _ => rfl), key⟩
/-! law -/
theorem sc_law : FnScope ["script", "draws", "kind", "right", "wrong", "deed", "state", "turn", "due", "told"] ["script"] (defScope (top 29)) := ⟨rfl, rfl, rfl, by decide +kernel, rfl, by decide +kernel, by decide +kernel⟩
def c1_law : M Vl := mcomp [5] (seqM (nv 3)) (tgN 5) (tst (fz (op2 (oIs true) (odD (fz (mcall 2 F_is_deed (macons (nv 2) (macons (nv 5) manil))))) (odD (cst (.bool true)))))) (nv 5)
def c2_law : M Vl := mcomp [5] (seqM (nv 4)) (tgN 5) (tst (fz (op2 (oIs true) (odD (fz (mcall 2 F_is_deed (macons (nv 2) (macons (nv 5) manil))))) (odD (cst (.bool false)))))) (nv 5)
def l3_law : M Fl := mfor (rngM1 (fz (op2 oAdd (odD (cst (.int 6))) (odD (fz (mcallI 2 F__law_draw 1 (macons (cst (.int 20)) manil))))))) (tgN 7)
  (mseq (asgN 5 (mif (tst (fz (op2 oEq (odD (fz (mcallI 2 F__law_draw 1 (macons (cst (.int 6)) manil)))) (odD (cst (.int 0)))))) (op2 oIx (nm 3) (odD (fz (mcallI 2 F__law_draw 1 (macons (fz (op1 oLen (nm 3))) manil))))) (mcallI 2 F__law_deed 1 (macons (nv 2) manil))))
 (mseq (asgN 8 (mcall 3 F__law_done (macons (nv 2) (macons (nv 6) (macons (nv 5) manil)))))
 (mseq (asgN 9 (mcall 3 F_done (macons (nv 2) (macons (nv 6) (macons (nv 5) manil)))))
 (mseq (mifS (mor (mnot (tst (fz (op1 (oTest isiTup) (nm 9))))) (mor (tst (fz (op2 oNe (odD (fz (op1 oLen (nm 9)))) (odD (cst (.int 2)))))) (mor (tst (fz (op2 oNe (odD (fz (op2 oIx (nm 9) (odD (cst (.int 0)))))) (odD (fz (op2 oIx (nm 8) (odD (cst (.int 0))))))))) (mor (tst (fz (op1 (oTest isiBool) (odD (fz (op2 oIx (nm 9) (odD (cst (.int 0))))))))) (tst (fz (op2 oNe (odD (fz (op1 (oTest isiTup) (odD (fz (op2 oIx (nm 9) (odD (cst (.int 0))))))))) (odD (fz (op1 (oTest isiTup) (odD (fz (op2 oIx (nm 8) (odD (cst (.int 0))))))))))))))))
  (mret (shV (cst (.bool false))))
  mnx)
 (mseq (mifS (mnot (tst (fz (mcall 2 F__law_alike (macons (fz (op2 oIx (nm 9) (odD (cst (.int 1))))) (macons (fz (op2 oIx (nm 8) (odD (cst (.int 1))))) manil))))))
  (mret (shV (cst (.bool false))))
  mnx)
 (asgN 6 (op2 oIx (nm 9) (odD (cst (.int 0))))))))))
def l4_law : M Fl := mfor (seqM (fz (mlst (macons (cst (.str "cell")) (macons (cst (.str "count")) (macons (cst (.str "stack")) (macons (cst (.str "queue")) (macons (cst (.str "bag")) manil)))))))) (tgN 2)
  (mseq (asgT (tgtup 2 (tgcons (tgN 3) (tgcons (tgN 4) tgnil))) (odD (fz (mcall 1 F__law_deeds (macons (nv 2) manil)))))
 (mseq (mifS (mor (tst (fz (op2 oNe (odD (fz c1_law)) (odD (fz (mlst manil)))))) (tst (fz (op2 oNe (odD (fz c2_law)) (odD (fz (mlst manil)))))))
  (mret (shV (cst (.bool false))))
  mnx)
 (mseq (asgN 6 (mcall 1 F_start (macons (nv 2) manil)))
 (mseq (mifS (mor (tst (fz (op2 oNe (nm 6) (odD (fz (mcall 1 F__law_start (macons (nv 2) manil))))))) (tst (fz (op1 (oTest isiBool) (nm 6)))))
  (mret (shV (cst (.bool false))))
  mnx)
 l3_law))))
def m_law : M Fl := (mseq (asgN 1 (mcall 1 F__law_open (macons (nv 0) manil)))
 (mseq (mifS (mnot (tst (fz (mcall 1 F__law_wrong (macons (fz (mcallI 2 F__law_things 1 (macons (cst (.int 6)) manil))) manil)))))
  (mret (shV (cst (.bool false))))
  mnx)
 (mseq l4_law
 (mret (shV (cst (.bool true)))))))
def F_law : Fn := run 10 m_law
theorem fn_law (t : Tops w K mg base) {fd : FuncData} (F : FunD K "law" "law" (defArgs (top 29)) (defBody (top 29)) (defScope (top 29)) [] [] (He.ga K "law") fd) : FnOk P w K mg base CX0 9 (He.ga K "law") fd ["script"] (spF ⟨K, TT K⟩ 1 F_law) := by
  have H__law_open := ok__law_open (P := P) t
  have H__law_wrong := ok__law_wrong (P := P) t
  have H__law_things := ok__law_things (P := P) t
  have H__law_deeds := ok__law_deeds (P := P) t
  have H_is_deed := ok_is_deed (P := P) t
  have H_start := ok_start (P := P) t
  have H__law_start := ok__law_start (P := P) t
  have H__law_draw := ok__law_draw (P := P) t
  have H__law_deed := ok__law_deed (P := P) t
  have H__law_done := ok__law_done (P := P) t
  have H_done := ok_done (P := P) t
  have H__law_alike := ok__law_alike (P := P) t
  have key := fn_okD (P := P) (w := w) (mg := mg) (base := base) (T := TT K) (k := 8) (m := m_law) F sc_law fun cdv A outer s H E hcd hr => (gss_cons (gs_set (i := 1) sc_law.nd rfl (by first | exact .inl rfl | exact .inr rfl) (ge_callH H__law_open hr (by omega) rfl (ga_cons (gd_v 0 (pv 0)) ga_nil)))
 (gss_cons (gs_if (gt_not (gt_val (gd_fz (ge_callH H__law_wrong hr (by omega) rfl (ga_cons (gd_fz (ge_callHI H__law_things hr (by omega) rfl (pv 1) (ga_cons gd_int ga_nil))) ga_nil)))))
  (gss_one (gs_ret (ge_sh gd_bool)))
  gss_nil)
 (gss_cons (gs_for (L := [2]) PassesOwn.never rfl (gi_seq (gd_fz (ge_lst (ga_cons gd_str (ga_cons gd_str (ga_cons gd_str (ga_cons gd_str (ga_cons gd_str ga_nil)))))))) (gg_name (by decide) sc_law.nd rfl (by first | exact .inl rfl | exact .inr rfl))
  (gss_cons (gs_asgT (L := [3, 4]) (go_d (gd_fz (ge_callH H__law_deeds hr (by omega) rfl (ga_cons (gd_v 2 (pv 2)) ga_nil)))) (ggt_tup rfl (ggs_cons (gg_name (by decide) sc_law.nd rfl (by first | exact .inl rfl | exact .inr rfl)) (ggs_cons (gg_name (by decide) sc_law.nd rfl (by first | exact .inl rfl | exact .inr rfl)) ggs_nil))))
 (gss_cons (gs_if (gt_w (gw_or (gt_cmp (c_ne hr) (go_d (gd_fz (ge_lc (own := [("deed", 5)]) rfl rfl sc_law.nd (gi_seq (gd_v 3 (pv 3))) (blk_of (by kernel_rfl)) (fun _ _ _ _ _ => (gg_name (by decide) sc_law.nd rfl (by first | exact .inl rfl | exact .inr rfl))) (fun _ _ _ _ _ => (gts_one (gt_cmp c_isnot (go_d (gd_fz (ge_callH H_is_deed hr (by omega) rfl (ga_cons (gd_v 2 (pv 2)) (ga_cons (gd_v 5 (pv 5)) ga_nil))))) (go_d gd_bool)))) (fun _ _ _ _ _ => (gd_v 5 (pv 5)))))) (go_d (gd_fz (ge_lst ga_nil)))) (gw_or1 (gt_cmp (c_ne hr) (go_d (gd_fz (ge_lc (own := [("deed", 5)]) rfl rfl sc_law.nd (gi_seq (gd_v 4 (pv 4))) (blk_of (by kernel_rfl)) (fun _ _ _ _ _ => (gg_name (by decide) sc_law.nd rfl (by first | exact .inl rfl | exact .inr rfl))) (fun _ _ _ _ _ => (gts_one (gt_cmp c_isnot (go_d (gd_fz (ge_callH H_is_deed hr (by omega) rfl (ga_cons (gd_v 2 (pv 2)) (ga_cons (gd_v 5 (pv 5)) ga_nil))))) (go_d gd_bool)))) (fun _ _ _ _ _ => (gd_v 5 (pv 5)))))) (go_d (gd_fz (ge_lst ga_nil)))))))
  (gss_one (gs_ret (ge_sh gd_bool)))
  gss_nil)
 (gss_cons (gs_set (i := 6) sc_law.nd rfl (by first | exact .inl rfl | exact .inr rfl) (ge_callH H_start hr (by omega) rfl (ga_cons (gd_v 2 (pv 2)) ga_nil)))
 (gss_cons (gs_if (gt_w (gw_or (gt_cmp (c_ne hr) (go_s 6 (pv 6)) (go_d (gd_fz (ge_callH H__law_start hr (by omega) rfl (ga_cons (gd_v 2 (pv 2)) ga_nil))))) (gw_or1 (gt_val (gd_fz (ge_isi isi_bool rfl t.n_isinstance rfl t.n_bool (go_s 6 (pv 6))))))))
  (gss_one (gs_ret (ge_sh gd_bool)))
  gss_nil)
 (gss_one (gs_for (L := [7]) PassesOwn.never rfl (gi_range1 rfl t.n_range (gd_fz (ge_add (go_d gd_int) (go_d (gd_fz (ge_callHI H__law_draw hr (by omega) rfl (pv 1) (ga_cons gd_int ga_nil))))))) (gg_name (by decide) sc_law.nd rfl (by first | exact .inl rfl | exact .inr rfl))
  (gss_cons (gs_set (i := 5) sc_law.nd rfl (by first | exact .inl rfl | exact .inr rfl) (ge_if (gt_cmp (c_eq hr) (go_d (gd_fz (ge_callHI H__law_draw hr (by omega) rfl (pv 1) (ga_cons gd_int ga_nil)))) (go_d gd_int)) (ge_ix (go_s 3 (pv 3)) (go_d (gd_fz (ge_callHI H__law_draw hr (by omega) rfl (pv 1) (ga_cons (gd_fz (ge_len rfl t.n_len (go_s 3 (pv 3)))) ga_nil))))) (ge_callHI H__law_deed hr (by omega) rfl (pv 1) (ga_cons (gd_v 2 (pv 2)) ga_nil))))
 (gss_cons (gs_set (i := 8) sc_law.nd rfl (by first | exact .inl rfl | exact .inr rfl) (ge_callH H__law_done hr (by omega) rfl (ga_cons (gd_v 2 (pv 2)) (ga_cons (gd_v 6 (pv 6)) (ga_cons (gd_v 5 (pv 5)) ga_nil)))))
 (gss_cons (gs_set (i := 9) sc_law.nd rfl (by first | exact .inl rfl | exact .inr rfl) (ge_callH H_done hr (by omega) rfl (ga_cons (gd_v 2 (pv 2)) (ga_cons (gd_v 6 (pv 6)) (ga_cons (gd_v 5 (pv 5)) ga_nil)))))
 (gss_cons (gs_if (gt_w (gw_or (gt_not (gt_val (gd_fz (ge_isi isi_tup rfl t.n_isinstance rfl t.n_tuple (go_s 9 (pv 9)))))) (gw_or (gt_cmp (c_ne hr) (go_d (gd_fz (ge_len rfl t.n_len (go_s 9 (pv 9))))) (go_d gd_int)) (gw_or (gt_cmp (c_ne hr) (go_d (gd_fz (ge_ix (go_s 9 (pv 9)) (go_d gd_int)))) (go_d (gd_fz (ge_ix (go_s 8 (pv 8)) (go_d gd_int))))) (gw_or (gt_val (gd_fz (ge_isi isi_bool rfl t.n_isinstance rfl t.n_bool (go_d (gd_fz (ge_ix (go_s 9 (pv 9)) (go_d gd_int))))))) (gw_or1 (gt_cmp (c_ne hr) (go_d (gd_fz (ge_isi isi_tup rfl t.n_isinstance rfl t.n_tuple (go_d (gd_fz (ge_ix (go_s 9 (pv 9)) (go_d gd_int))))))) (go_d (gd_fz (ge_isi isi_tup rfl t.n_isinstance rfl t.n_tuple (go_d (gd_fz (ge_ix (go_s 8 (pv 8)) (go_d gd_int))))))))))))))
  (gss_one (gs_ret (ge_sh gd_bool)))
  gss_nil)
 (gss_cons (gs_if (gt_not (gt_val (gd_fz (ge_callH H__law_alike hr (by omega) rfl (ga_cons (gd_fz (ge_ix (go_s 9 (pv 9)) (go_d gd_int))) (ga_cons (gd_fz (ge_ix (go_s 8 (pv 8)) (go_d gd_int))) ga_nil))))))
  (gss_one (gs_ret (ge_sh gd_bool)))
  gss_nil)
 (gss_one (gs_set (i := 6) sc_law.nd rfl (by first | exact .inl rfl | exact .inr rfl) (ge_ix (go_s 9 (pv 9)) (go_d gd_int))))))))))))))))
 (gss_one (gs_ret (ge_sh gd_bool))))))
  exact key
end
/-! the head -/
def dfn (x : Str) (i : Nat) : He.DefD := ⟨(x, none), x, x, defArgs (top i), defBody (top i), defScope (top i), [], []⟩
def fn : List He.DefD := [dfn "is_number" 1, dfn "is_name" 2, dfn "is_names" 3, dfn "is_things" 11, dfn "is_deed" 12, dfn "start" 13, dfn "done_in_row" 14, dfn "done_in_bag" 15, dfn "done" 16, dfn "_law_open" 18, dfn "_law_mixed" 19, dfn "_law_draw" 20, dfn "_law_int" 21, dfn "_law_things" 22, dfn "_law_start" 23, dfn "_law_done" 24, dfn "_law_deed" 25, dfn "_law_alike" 26, dfn "_law_wrong" 27, dfn "_law_deeds" 28, dfn "law" 29]
def fa : List He.Fa := [.glo "is_number", .glo "is_name", .glo "is_names", .glo "is_things", .glo "is_deed", .glo "start", .glo "done_in_row", .glo "done_in_bag", .glo "done", .glo "_law_open", .glo "_law_mixed", .glo "_law_draw", .glo "_law_int", .glo "_law_things", .glo "_law_start", .glo "_law_done", .glo "_law_deed", .glo "_law_alike", .glo "_law_wrong", .glo "_law_deeds", .glo "law", .free "abs", .free "all", .free "bool", .free "int", .free "isinstance", .free "len", .free "list", .free "range", .free "sorted", .free "str", .free "tuple"]
def ts : List He.Tab := [(fun K => He.ga K "ALONE", ["cell", "count", "stack", "queue", "bag"]), (fun K => He.ga K "WITH_NUMBER", ["cell", "count", "stack", "queue", "bag"])]
def exs (K : PySem.W.Frag) : List Bool := [gloB K "KINDS" (.tuple [(.str "cell"), (.str "count"), (.str "stack"), (.str "queue"), (.str "bag")]), gloB K "MOST_NUMBER" (.int 1000000), gloB K "MOST_THINGS" (.int 6), gdcB K "ALONE" kd_ALONE, gdcB K "WITH_NUMBER" kd_WITH_NUMBER]
def ex (K : PySem.W.Frag) : Bool := (exs K).all fun b => b
abbrev R : PySem.W.OpenRow := PySem.W.OpenLaw.row PySem.Challenge.rw_happenedfirst_k49_things_and_deeds
abbrev hk : PySem.W.Hook := He.hookX 6 fa fn ts tf ex
def ob (s : PySem.W.SharedT) : He.AlX := He.obsX 6 fa fn ts tf ex (HandSHeadRun.getT s)
theorem ob_eq (s : PySem.W.SharedT) : ob s = hk.obs s.abs := He.obsX_eq (HandSHeadRun.getT_eq s)
theorem head_run (w : World) : HandSHeadRun.RunEq R (PySem.W.view R.prog [29]) hk ob 4000 ["is_number", "is_name", "is_names", "MOST_THINGS", "MOST_NUMBER", "KINDS", "BAG", "WITH_NUMBER", "ALONE", "is_things", "is_deed", "start", "done_in_row", "done_in_bag", "done", "_law_open", "_law_mixed", "_law_draw", "_law_int", "_law_things", "_law_start", "_law_done", "_law_deed", "_law_alike", "_law_wrong", "_law_deeds"] w := by
  refine PySem.W.byRow2 "special-get-raises" (P := fun w => HandSHeadRun.RunEq R (PySem.W.view R.prog [29]) hk ob 4000 ["is_number", "is_name", "is_names", "MOST_THINGS", "MOST_NUMBER", "KINDS", "BAG", "WITH_NUMBER", "ALONE", "is_things", "is_deed", "start", "done_in_row", "done_in_bag", "done", "_law_open", "_law_mixed", "_law_draw", "_law_int", "_law_things", "_law_start", "_law_done", "_law_deed", "_law_alike", "_law_wrong", "_law_deeds"] w) (fun w => ?_) (fun w => ?_) w
  · intro os; kernel_rfl
  · intro os; kernel_rfl
theorem tops_of {w : World} {K : PySem.W.Frag} {mg : Str → Option Value} {h base : Heap} (KX : K.In h) (G : h.Ns mainGlobals mg) (c : He.SaysX fa fn ts tf ex w h K) (TB : ∀ p ∈ tf, GxR.TabB base mg (He.cT K p).1 (He.cT K p).2) : Tops w K mg base where
  n_abs := He.free_ok KX G (c.t.d.fact 21 (f := .free "abs") rfl)
  n_all := He.free_ok KX G (c.t.d.fact 22 (f := .free "all") rfl)
  n_bool := He.free_ok KX G (c.t.d.fact 23 (f := .free "bool") rfl)
  n_int := He.free_ok KX G (c.t.d.fact 24 (f := .free "int") rfl)
  n_isinstance := He.free_ok KX G (c.t.d.fact 25 (f := .free "isinstance") rfl)
  n_len := He.free_ok KX G (c.t.d.fact 26 (f := .free "len") rfl)
  n_list := He.free_ok KX G (c.t.d.fact 27 (f := .free "list") rfl)
  n_range := He.free_ok KX G (c.t.d.fact 28 (f := .free "range") rfl)
  n_sorted := He.free_ok KX G (c.t.d.fact 29 (f := .free "sorted") rfl)
  n_str := He.free_ok KX G (c.t.d.fact 30 (f := .free "str") rfl)
  n_tuple := He.free_ok KX G (c.t.d.fact 31 (f := .free "tuple") rfl)
  g_KINDS := glo_of KX G (ex_get c.more 0)
  g_MOST_NUMBER := glo_of KX G (ex_get c.more 1)
  g_MOST_THINGS := glo_of KX G (ex_get c.more 2)
  d_ALONE := gdc_of KX G (ex_get c.more 3) (c.t.tab 0 (t := (fun K => He.ga K "ALONE", ["cell", "count", "stack", "queue", "bag"])) rfl)
  d_WITH_NUMBER := gdc_of KX G (ex_get c.more 4) (c.t.tab 1 (t := (fun K => He.ga K "WITH_NUMBER", ["cell", "count", "stack", "queue", "bag"])) rfl)
  f_is_number := (c.t.d.def_ 0 (d := dfn "is_number" 1) rfl).imp fun fd F => ⟨F, He.glo_ok KX G (c.t.d.fact 0 (f := .glo "is_number") rfl)⟩
  f_is_name := (c.t.d.def_ 1 (d := dfn "is_name" 2) rfl).imp fun fd F => ⟨F, He.glo_ok KX G (c.t.d.fact 1 (f := .glo "is_name") rfl)⟩
  f_is_names := (c.t.d.def_ 2 (d := dfn "is_names" 3) rfl).imp fun fd F => ⟨F, He.glo_ok KX G (c.t.d.fact 2 (f := .glo "is_names") rfl)⟩
  f_is_things := (c.t.d.def_ 3 (d := dfn "is_things" 11) rfl).imp fun fd F => ⟨F, He.glo_ok KX G (c.t.d.fact 3 (f := .glo "is_things") rfl)⟩
  f_is_deed := (c.t.d.def_ 4 (d := dfn "is_deed" 12) rfl).imp fun fd F => ⟨F, He.glo_ok KX G (c.t.d.fact 4 (f := .glo "is_deed") rfl)⟩
  f_start := (c.t.d.def_ 5 (d := dfn "start" 13) rfl).imp fun fd F => ⟨F, He.glo_ok KX G (c.t.d.fact 5 (f := .glo "start") rfl)⟩
  f_done_in_row := (c.t.d.def_ 6 (d := dfn "done_in_row" 14) rfl).imp fun fd F => ⟨F, He.glo_ok KX G (c.t.d.fact 6 (f := .glo "done_in_row") rfl)⟩
  f_done_in_bag := (c.t.d.def_ 7 (d := dfn "done_in_bag" 15) rfl).imp fun fd F => ⟨F, He.glo_ok KX G (c.t.d.fact 7 (f := .glo "done_in_bag") rfl)⟩
  f_done := (c.t.d.def_ 8 (d := dfn "done" 16) rfl).imp fun fd F => ⟨F, He.glo_ok KX G (c.t.d.fact 8 (f := .glo "done") rfl)⟩
  f__law_open := (c.t.d.def_ 9 (d := dfn "_law_open" 18) rfl).imp fun fd F => ⟨F, He.glo_ok KX G (c.t.d.fact 9 (f := .glo "_law_open") rfl)⟩
  f__law_mixed := (c.t.d.def_ 10 (d := dfn "_law_mixed" 19) rfl).imp fun fd F => ⟨F, He.glo_ok KX G (c.t.d.fact 10 (f := .glo "_law_mixed") rfl)⟩
  f__law_draw := (c.t.d.def_ 11 (d := dfn "_law_draw" 20) rfl).imp fun fd F => ⟨F, He.glo_ok KX G (c.t.d.fact 11 (f := .glo "_law_draw") rfl)⟩
  f__law_int := (c.t.d.def_ 12 (d := dfn "_law_int" 21) rfl).imp fun fd F => ⟨F, He.glo_ok KX G (c.t.d.fact 12 (f := .glo "_law_int") rfl)⟩
  f__law_things := (c.t.d.def_ 13 (d := dfn "_law_things" 22) rfl).imp fun fd F => ⟨F, He.glo_ok KX G (c.t.d.fact 13 (f := .glo "_law_things") rfl)⟩
  f__law_start := (c.t.d.def_ 14 (d := dfn "_law_start" 23) rfl).imp fun fd F => ⟨F, He.glo_ok KX G (c.t.d.fact 14 (f := .glo "_law_start") rfl)⟩
  f__law_done := (c.t.d.def_ 15 (d := dfn "_law_done" 24) rfl).imp fun fd F => ⟨F, He.glo_ok KX G (c.t.d.fact 15 (f := .glo "_law_done") rfl)⟩
  f__law_deed := (c.t.d.def_ 16 (d := dfn "_law_deed" 25) rfl).imp fun fd F => ⟨F, He.glo_ok KX G (c.t.d.fact 16 (f := .glo "_law_deed") rfl)⟩
  f__law_alike := (c.t.d.def_ 17 (d := dfn "_law_alike" 26) rfl).imp fun fd F => ⟨F, He.glo_ok KX G (c.t.d.fact 17 (f := .glo "_law_alike") rfl)⟩
  f__law_wrong := (c.t.d.def_ 18 (d := dfn "_law_wrong" 27) rfl).imp fun fd F => ⟨F, He.glo_ok KX G (c.t.d.fact 18 (f := .glo "_law_wrong") rfl)⟩
  f__law_deeds := (c.t.d.def_ 19 (d := dfn "_law_deeds" 28) rfl).imp fun fd F => ⟨F, He.glo_ok KX G (c.t.d.fact 19 (f := .glo "_law_deeds") rfl)⟩
  f_law := (c.t.d.def_ 20 (d := dfn "law" 29) rfl).imp fun fd F => ⟨F, He.glo_ok KX G (c.t.d.fact 20 (f := .glo "law") rfl)⟩
  t_is_name := TB ("is_name", none) (by decide)
  t_is_names := TB ("is_names", none) (by decide)
  t_is_things := TB ("is_things", none) (by decide)
theorem the_end (hF : ∀ ns : List Int, ns.length ≤ 63 → (∀ z ∈ ns, Builtin.Int.intBits z ≤ 1048576) → ∃ en', F_law (scr ns) = .ok (.sh (.bool true)) en') : PySem.Challenge.rw_happenedfirst_k49_things_and_deeds.Holds := by
  w_on; o_law
  refine HandSHeadRun.head_any (r := R) (q := PySem.W.view R.prog [29]) (H := hk) (ob := ob) (M := 4000) (loose := ["is_number", "is_name", "is_names", "MOST_THINGS", "MOST_NUMBER", "KINDS", "BAG", "WITH_NUMBER", "ALONE", "is_things", "is_deed", "start", "done_in_row", "done_in_bag", "done", "_law_open", "_law_mixed", "_law_draw", "_law_int", "_law_things", "_law_start", "_law_done", "_law_deed", "_law_alike", "_law_wrong", "_law_deeds"]) (d := HandSHeadRun.topDef R.prog 29) (kwd := []) ob_eq
    (by kernel_rfl) (fun s => by kernel_rfl) head_run (by kernel_rfl) (by kernel_rfl) (by kernel_rfl) (by rfl) (by first | assumption | decide +kernel) (by decide +kernel) ⟨rfl, rfl, rfl, rfl, rfl, by decide +kernel⟩ ?hw ?hc
  case hw => w_witness2
  case hc =>
    refine LamX.walk_ofTsE (l := PySem.Challenge.rw_happenedfirst_k49_things_and_deeds) (n := 63) (k := 9) (x := "script") (CX := fun _ => L2.CX0) rfl (by decide) (by kernel_rfl) ⟨rfl, by decide, by decide⟩ ?F (fun _ _ _ _ _ z => z)
    intro w mg fa0 h Y G hmg0
    obtain ⟨K, KX, c⟩ := Y
    have hmg : mg ("law" : PySem.Str) = some (.ref fa0) := by
      have e : (HandSHeadRun.topDef R.prog 29).name = ("law" : PySem.Str) := by kernel_rfl
      rw [← e]
      exact hmg0
    obtain ⟨fd, F⟩ := c.t.d.def_ 20 (d := dfn "law" 29) rfl
    have e := hmg.symm.trans (He.glo_ok KX G (c.t.d.fact 20 (f := .glo "law") rfl))
    cases e
    have b := FunD.bindsA (ps := ["script"]) F fun _ _ _ _ _ _ us hl => match us, hl with | [_], _ => rfl
    exact ⟨K, KX, law_at KX c (fun s v => b s [v] rfl) hF fun base _ _ TB => fn_law (tops_of KX G c TB) F⟩
end Q49

namespace Q49
open PySem ZD
def numOk (d : PyData) (lo hi : Int) : Bool := match d with
  | .int i => decide (lo ≤ i) && decide (i ≤ hi)
  | _ => false
theorem s_is_number (d : PyData) (lo hi : Int) : F_is_number [.sh d, .sh (.int lo), .sh (.int hi)] = .ok (.sh (.bool (numOk d lo hi))) [.sh d, .sh (.int lo), .sh (.int hi)] := by
  cases d with
  | int i =>
    cases h : decide (lo ≤ i) <;> simp [F_is_number, m_is_number, numOk, h, ZD.run, mret, mretN, shV, vand, vor, vnot, fz, op1, op2, op2c, opv2, nm, nv, cst, odD, bnd, ZD.ret, ZD.fail, out, look, tst, mnot, mand, mor, mif, mifS, mseq, mnx, macons, manil, mtup, mlst, asgN, masg, slOf, asgT, tgtup, tgcons, tgnil, tgN, Vl.d, stepC, ZD.wp, wipeable, wipeE, restE, isPlain, mtrue, List.replicate, List.set, oTest, isiInt, isiBool, isiStr, isiTup, isiList, oLe, oLt, oGe, oGt, oOrd, oLen, oIx, gotD]
  | _ => simp [F_is_number, m_is_number, numOk, ZD.run, mret, mretN, shV, vand, vor, vnot, fz, op1, op2, op2c, opv2, nm, nv, cst, odD, bnd, ZD.ret, ZD.fail, out, look, tst, mnot, mand, mor, mif, mifS, mseq, mnx, macons, manil, mtup, mlst, asgN, masg, slOf, asgT, tgtup, tgcons, tgnil, tgN, Vl.d, stepC, ZD.wp, wipeable, wipeE, restE, isPlain, mtrue, List.replicate, List.set, oTest, isiInt, isiBool, isiStr, isiTup, isiList, oLe, oLt, oGe, oGt, oOrd, oLen, oIx, gotD]
def signOk (d : PyData) : Bool := match d with
  | .str c => !sLt c "a" && !sLt "z" c
  | _ => false
def nameOk (d : PyData) : Bool := match d with
  | .str z => decide (1 ≤ z.length ∧ z.length ≤ 16) && (signs z).all signOk
  | _ => false
def small (d : PyData) : Prop := match d with
  | .str z => z.length ≤ 1000000
  | _ => True
theorem all_eq {m : M PyData} {en : En} {x : PyData} {e2 : En} (h : WP m en fun a e => a = x ∧ e = e2) : m en = .ok x e2 := by
  obtain ⟨a, e, h1, rfl, rfl⟩ := h
  exact h1
theorem allV_eq {m : M Vl} {en : En} {x : Vl} {e2 : En} (h : WP m en fun a e => a = x ∧ e = e2) : m en = .ok x e2 := by
  obtain ⟨a, e, h1, rfl, rfl⟩ := h
  exact h1
theorem s_is_name (d : PyData) (h : small d) : F_is_name [.sh d] = .ok (.sh (.bool (nameOk d))) [.sh d, .no] := by
  cases d with
  | str z =>
    have h : z.length ≤ 1000000 := h
    have e : c1_is_name [.sh (.str z), .no] = .ok (.bool ((signs z).all signOk)) [.sh (.str z), .no] :=
      all_eq (wp_mall ⟨signs z, [.sh (.str z), .no], by simp [seqM, ZD.run, mret, mretN, shV, vand, vor, vnot, fz, op1, op2, op2c, opv2, nm, nv, cst, odD, bnd, ZD.ret, ZD.fail, out, look, tst, mnot, mand, mor, mif, mifS, mseq, mnx, macons, manil, mtup, mlst, asgN, masg, slOf, asgT, tgtup, tgcons, tgnil, tgN, Vl.d, stepC, ZD.wp, wipeable, wipeE, restE, isPlain, mtrue, List.replicate, List.set, oTest, isiInt, isiBool, isiStr, isiTup, isiList, oLe, oLt, oGe, oGt, oOrd, oLen, oIx, gotD], by simp [ZD.run, mret, mretN, shV, vand, vor, vnot, fz, op1, op2, op2c, opv2, nm, nv, cst, odD, bnd, ZD.ret, ZD.fail, out, look, tst, mnot, mand, mor, mif, mifS, mseq, mnx, macons, manil, mtup, mlst, asgN, masg, slOf, asgT, tgtup, tgcons, tgnil, tgN, Vl.d, stepC, ZD.wp, wipeable, wipeE, restE, isPlain, mtrue, List.replicate, List.set, oTest, isiInt, isiBool, isiStr, isiTup, isiList, oLe, oLt, oGe, oGt, oOrd, oLen, oIx, gotD], signOk, fun d hd => by
          obtain ⟨c, _, rfl⟩ := List.mem_map.mp hd
          cases h1 : sLt ⟨#[c]⟩ "a" <;> simp [signOk, h1, ZD.run, mret, mretN, shV, vand, vor, vnot, fz, op1, op2, op2c, opv2, nm, nv, cst, odD, bnd, ZD.ret, ZD.fail, out, look, tst, mnot, mand, mor, mif, mifS, mseq, mnx, macons, manil, mtup, mlst, asgN, masg, slOf, asgT, tgtup, tgcons, tgnil, tgN, Vl.d, stepC, ZD.wp, wipeable, wipeE, restE, isPlain, mtrue, List.replicate, List.set, oTest, isiInt, isiBool, isiStr, isiTup, isiList, oLe, oLt, oGe, oGt, oOrd, oLen, oIx, gotD], rfl, by simp [ZD.run, mret, mretN, shV, vand, vor, vnot, fz, op1, op2, op2c, opv2, nm, nv, cst, odD, bnd, ZD.ret, ZD.fail, out, look, tst, mnot, mand, mor, mif, mifS, mseq, mnx, macons, manil, mtup, mlst, asgN, masg, slOf, asgT, tgtup, tgcons, tgnil, tgN, Vl.d, stepC, ZD.wp, wipeable, wipeE, restE, isPlain, mtrue, List.replicate, List.set, oTest, isiInt, isiBool, isiStr, isiTup, isiList, oLe, oLt, oGe, oGt, oOrd, oLen, oIx, gotD]⟩)
    by_cases h1 : (1 : Int) ≤ z.length
    · by_cases h2 : (z.length : Int) ≤ 16
      · have q1 : 1 ≤ z.length := by omega
        have q2 : z.length ≤ 16 := by omega
        simp [F_is_name, m_is_name, nameOk, h, h1, h2, q1, q2, e, ZD.run, mret, mretN, shV, vand, vor, vnot, fz, op1, op2, op2c, opv2, nm, nv, cst, odD, bnd, ZD.ret, ZD.fail, out, look, tst, mnot, mand, mor, mif, mifS, mseq, mnx, macons, manil, mtup, mlst, asgN, masg, slOf, asgT, tgtup, tgcons, tgnil, tgN, Vl.d, stepC, ZD.wp, wipeable, wipeE, restE, isPlain, mtrue, List.replicate, List.set, oTest, isiInt, isiBool, isiStr, isiTup, isiList, oLe, oLt, oGe, oGt, oOrd, oLen, oIx, gotD]
      · have q2 : ¬ z.length ≤ 16 := by omega
        simp [F_is_name, m_is_name, nameOk, h, h1, h2, q2, e, ZD.run, mret, mretN, shV, vand, vor, vnot, fz, op1, op2, op2c, opv2, nm, nv, cst, odD, bnd, ZD.ret, ZD.fail, out, look, tst, mnot, mand, mor, mif, mifS, mseq, mnx, macons, manil, mtup, mlst, asgN, masg, slOf, asgT, tgtup, tgcons, tgnil, tgN, Vl.d, stepC, ZD.wp, wipeable, wipeE, restE, isPlain, mtrue, List.replicate, List.set, oTest, isiInt, isiBool, isiStr, isiTup, isiList, oLe, oLt, oGe, oGt, oOrd, oLen, oIx, gotD]
    · have q1 : ¬ 1 ≤ z.length := by omega
      simp [F_is_name, m_is_name, nameOk, h, h1, q1, e, ZD.run, mret, mretN, shV, vand, vor, vnot, fz, op1, op2, op2c, opv2, nm, nv, cst, odD, bnd, ZD.ret, ZD.fail, out, look, tst, mnot, mand, mor, mif, mifS, mseq, mnx, macons, manil, mtup, mlst, asgN, masg, slOf, asgT, tgtup, tgcons, tgnil, tgN, Vl.d, stepC, ZD.wp, wipeable, wipeE, restE, isPlain, mtrue, List.replicate, List.set, oTest, isiInt, isiBool, isiStr, isiTup, isiList, oLe, oLt, oGe, oGt, oOrd, oLen, oIx, gotD]
  | _ => simp [F_is_name, m_is_name, nameOk, ZD.run, mret, mretN, shV, vand, vor, vnot, fz, op1, op2, op2c, opv2, nm, nv, cst, odD, bnd, ZD.ret, ZD.fail, out, look, tst, mnot, mand, mor, mif, mifS, mseq, mnx, macons, manil, mtup, mlst, asgN, masg, slOf, asgT, tgtup, tgcons, tgnil, tgN, Vl.d, stepC, ZD.wp, wipeable, wipeE, restE, isPlain, mtrue, List.replicate, List.set, oTest, isiInt, isiBool, isiStr, isiTup, isiList, oLe, oLt, oGe, oGt, oOrd, oLen, oIx, gotD]
/-- one less than the next -/
def ltAt (ds : List PyData) (d : PyData) : Bool := match d with
  | .int i => (match ds[i.toNat]?, ds[i.toNat + 1]? with
    | some (.str a), some (.str b) => sLt a b
    | _, _ => false)
  | _ => false
def namesOk (ds : List PyData) (lo hi : Int) : Bool := decide (lo ≤ ds.length) && decide ((ds.length : Int) ≤ hi) && ds.all nameOk && (rngL 0 (ds.length - 1 : Int).toNat).all (ltAt ds)
theorem atI_of {ds : List PyData} {i : Nat} {d : PyData} (h : ds[i]? = some d) : L2.atI ds (i : Int) = some d := L2.atI_nat h
theorem name_str {d : PyData} (h : nameOk d = true) : ∃ z, d = .str z := by
  cases d with
  | str z => exact ⟨z, rfl⟩
  | _ => cases h
theorem s_is_names (ds : List PyData) (lo hi : Int) (hs : ∀ d ∈ ds, small d) (hl : ds.length ≤ 1000000) : F_is_names [.sh (.tuple ds), .sh (.int lo), .sh (.int hi)] = .ok (.sh (.bool (namesOk ds lo hi))) [.sh (.tuple ds), .sh (.int lo), .sh (.int hi), .no, .no] := by
  have e1 : c1_is_names [.sh (.tuple ds), .sh (.int lo), .sh (.int hi), .no, .no] = .ok (.bool (ds.all nameOk)) [.sh (.tuple ds), .sh (.int lo), .sh (.int hi), .no, .no] :=
    all_eq (wp_mall ⟨ds, [.sh (.tuple ds), .sh (.int lo), .sh (.int hi), .no, .no], by simp [seqM, ZD.run, mret, mretN, shV, vand, vor, vnot, fz, op1, op2, op2c, opv2, nm, nv, cst, odD, bnd, ZD.ret, ZD.fail, out, look, tst, mnot, mand, mor, mif, mifS, mseq, mnx, macons, manil, mtup, mlst, asgN, masg, slOf, asgT, tgtup, tgcons, tgnil, tgN, Vl.d, stepC, ZD.wp, wipeable, wipeE, restE, isPlain, mtrue, List.replicate, List.set, oTest, isiInt, isiBool, isiStr, isiTup, isiList, oLe, oLt, oGe, oGt, oOrd, oLen, oIx, gotD], by simp [ZD.run, mret, mretN, shV, vand, vor, vnot, fz, op1, op2, op2c, opv2, nm, nv, cst, odD, bnd, ZD.ret, ZD.fail, out, look, tst, mnot, mand, mor, mif, mifS, mseq, mnx, macons, manil, mtup, mlst, asgN, masg, slOf, asgT, tgtup, tgcons, tgnil, tgN, Vl.d, stepC, ZD.wp, wipeable, wipeE, restE, isPlain, mtrue, List.replicate, List.set, oTest, isiInt, isiBool, isiStr, isiTup, isiList, oLe, oLt, oGe, oGt, oOrd, oLen, oIx, gotD], nameOk, fun d hd => by
      simp [mcall, s_is_name d (hs d hd), ZD.run, mret, mretN, shV, vand, vor, vnot, fz, op1, op2, op2c, opv2, nm, nv, cst, odD, bnd, ZD.ret, ZD.fail, out, look, tst, mnot, mand, mor, mif, mifS, mseq, mnx, macons, manil, mtup, mlst, asgN, masg, slOf, asgT, tgtup, tgcons, tgnil, tgN, Vl.d, stepC, ZD.wp, wipeable, wipeE, restE, isPlain, mtrue, List.replicate, List.set, oTest, isiInt, isiBool, isiStr, isiTup, isiList, oLe, oLt, oGe, oGt, oOrd, oLen, oIx, gotD], rfl, by simp [ZD.run, mret, mretN, shV, vand, vor, vnot, fz, op1, op2, op2c, opv2, nm, nv, cst, odD, bnd, ZD.ret, ZD.fail, out, look, tst, mnot, mand, mor, mif, mifS, mseq, mnx, macons, manil, mtup, mlst, asgN, masg, slOf, asgT, tgtup, tgcons, tgnil, tgN, Vl.d, stepC, ZD.wp, wipeable, wipeE, restE, isPlain, mtrue, List.replicate, List.set, oTest, isiInt, isiBool, isiStr, isiTup, isiList, oLe, oLt, oGe, oGt, oOrd, oLen, oIx, gotD]⟩)
  have e2 : ds.all nameOk = true → c2_is_names [.sh (.tuple ds), .sh (.int lo), .sh (.int hi), .no, .no] = .ok (.bool ((rngL 0 (ds.length - 1 : Int).toNat).all (ltAt ds))) [.sh (.tuple ds), .sh (.int lo), .sh (.int hi), .no, .no] := fun hall =>
    all_eq (wp_mall ⟨rngL 0 (ds.length - 1 : Int).toNat, [.sh (.tuple ds), .sh (.int lo), .sh (.int hi), .no, .no], by
        have q1 : ((ds.length : Int) - 1) < 2 ^ 62 := by omega
        have q2 : -(2 ^ 62) ≤ ((ds.length : Int) - 1) := by omega
        simp [rngM1, oSub, oInt, ZD.run, mret, mretN, shV, vand, vor, vnot, fz, op1, op2, op2c, opv2, nm, nv, cst, odD, bnd, ZD.ret, ZD.fail, out, look, tst, mnot, mand, mor, mif, mifS, mseq, mnx, macons, manil, mtup, mlst, asgN, masg, slOf, asgT, tgtup, tgcons, tgnil, tgN, Vl.d, stepC, ZD.wp, wipeable, wipeE, restE, isPlain, mtrue, List.replicate, List.set, oTest, isiInt, isiBool, isiStr, isiTup, isiList, oLe, oLt, oGe, oGt, oOrd, oLen, oIx, gotD]
        simp at q1 q2
        simp [q1, q2, ZD.ret], by simp [ZD.run, mret, mretN, shV, vand, vor, vnot, fz, op1, op2, op2c, opv2, nm, nv, cst, odD, bnd, ZD.ret, ZD.fail, out, look, tst, mnot, mand, mor, mif, mifS, mseq, mnx, macons, manil, mtup, mlst, asgN, masg, slOf, asgT, tgtup, tgcons, tgnil, tgN, Vl.d, stepC, ZD.wp, wipeable, wipeE, restE, isPlain, mtrue, List.replicate, List.set, oTest, isiInt, isiBool, isiStr, isiTup, isiList, oLe, oLt, oGe, oGt, oOrd, oLen, oIx, gotD], ltAt ds, fun d hd => by
      obtain ⟨i, hi, rfl⟩ := List.mem_map.mp hd
      have hi := List.mem_range.mp hi
      have i1 : i < ds.length := by omega
      have i2 : i + 1 < ds.length := by omega
      have g1 := List.getElem?_eq_getElem i1
      have g2 := List.getElem?_eq_getElem i2
      obtain ⟨a, ea⟩ := name_str (List.all_eq_true.mp hall _ (List.getElem_mem i1))
      obtain ⟨b, eb⟩ := name_str (List.all_eq_true.mp hall _ (List.getElem_mem i2))
      rw [ea] at g1
      rw [eb] at g2
      have a1 := atI_of g1
      have a2 : L2.atI ds ((i : Int) + 1) = some (.str b) := by have := atI_of g2; simpa using this
      simp [ltAt, g1, g2, a1, a2, oAdd, ZD.run, mret, mretN, shV, vand, vor, vnot, fz, op1, op2, op2c, opv2, nm, nv, cst, odD, bnd, ZD.ret, ZD.fail, out, look, tst, mnot, mand, mor, mif, mifS, mseq, mnx, macons, manil, mtup, mlst, asgN, masg, slOf, asgT, tgtup, tgcons, tgnil, tgN, Vl.d, stepC, ZD.wp, wipeable, wipeE, restE, isPlain, mtrue, List.replicate, List.set, oTest, isiInt, isiBool, isiStr, isiTup, isiList, oLe, oLt, oGe, oGt, oOrd, oLen, oIx, gotD], rfl, by simp [ZD.run, mret, mretN, shV, vand, vor, vnot, fz, op1, op2, op2c, opv2, nm, nv, cst, odD, bnd, ZD.ret, ZD.fail, out, look, tst, mnot, mand, mor, mif, mifS, mseq, mnx, macons, manil, mtup, mlst, asgN, masg, slOf, asgT, tgtup, tgcons, tgnil, tgN, Vl.d, stepC, ZD.wp, wipeable, wipeE, restE, isPlain, mtrue, List.replicate, List.set, oTest, isiInt, isiBool, isiStr, isiTup, isiList, oLe, oLt, oGe, oGt, oOrd, oLen, oIx, gotD]⟩)
  unfold F_is_names m_is_names
  by_cases h1 : lo ≤ (ds.length : Int)
  · by_cases h2 : (ds.length : Int) ≤ hi
    · cases h3 : ds.all nameOk with
      | false =>
        rw [h3] at e1
        simp [namesOk, h1, h2, h3, e1, ZD.run, mret, mretN, shV, vand, vor, vnot, fz, op1, op2, op2c, opv2, nm, nv, cst, odD, bnd, ZD.ret, ZD.fail, out, look, tst, mnot, mand, mor, mif, mifS, mseq, mnx, macons, manil, mtup, mlst, asgN, masg, slOf, asgT, tgtup, tgcons, tgnil, tgN, Vl.d, stepC, ZD.wp, wipeable, wipeE, restE, isPlain, mtrue, List.replicate, List.set, oTest, isiInt, isiBool, isiStr, isiTup, isiList, oLe, oLt, oGe, oGt, oOrd, oLen, oIx, gotD]
      | true =>
        have e2 := e2 h3
        rw [h3] at e1
        simp [namesOk, h1, h2, h3, e1, e2, ZD.run, mret, mretN, shV, vand, vor, vnot, fz, op1, op2, op2c, opv2, nm, nv, cst, odD, bnd, ZD.ret, ZD.fail, out, look, tst, mnot, mand, mor, mif, mifS, mseq, mnx, macons, manil, mtup, mlst, asgN, masg, slOf, asgT, tgtup, tgcons, tgnil, tgN, Vl.d, stepC, ZD.wp, wipeable, wipeE, restE, isPlain, mtrue, List.replicate, List.set, oTest, isiInt, isiBool, isiStr, isiTup, isiList, oLe, oLt, oGe, oGt, oOrd, oLen, oIx, gotD]
    · simp [namesOk, h1, h2, ZD.run, mret, mretN, shV, vand, vor, vnot, fz, op1, op2, op2c, opv2, nm, nv, cst, odD, bnd, ZD.ret, ZD.fail, out, look, tst, mnot, mand, mor, mif, mifS, mseq, mnx, macons, manil, mtup, mlst, asgN, masg, slOf, asgT, tgtup, tgcons, tgnil, tgN, Vl.d, stepC, ZD.wp, wipeable, wipeE, restE, isPlain, mtrue, List.replicate, List.set, oTest, isiInt, isiBool, isiStr, isiTup, isiList, oLe, oLt, oGe, oGt, oOrd, oLen, oIx, gotD]
  · simp [namesOk, h1, ZD.run, mret, mretN, shV, vand, vor, vnot, fz, op1, op2, op2c, opv2, nm, nv, cst, odD, bnd, ZD.ret, ZD.fail, out, look, tst, mnot, mand, mor, mif, mifS, mseq, mnx, macons, manil, mtup, mlst, asgN, masg, slOf, asgT, tgtup, tgcons, tgnil, tgN, Vl.d, stepC, ZD.wp, wipeable, wipeE, restE, isPlain, mtrue, List.replicate, List.set, oTest, isiInt, isiBool, isiStr, isiTup, isiList, oLe, oLt, oGe, oGt, oOrd, oLen, oIx, gotD]

/-! things -/
def pairOk (p : PyData) : Bool := match p with
  | .tuple q => decide (q.length = 2)
  | _ => false
def fstD (p : PyData) : PyData := match p with
  | .tuple (a :: _) => a
  | _ => .none
def kinds : List PyData := [.str "cell", .str "count", .str "stack", .str "queue", .str "bag"]
def kindOk (p : PyData) : Bool := match p with
  | .tuple [_, .str k] => kinds.any fun y => PyData.eqv y (.str k)
  | _ => false
def thingsOk (d : PyData) : Bool := match d with
  | .tuple ps => ps.all pairOk && namesOk (ps.map fstD) 1 6 && ps.all kindOk
  | _ => false
def smallP (p : PyData) : Prop := match p with
  | .tuple (a :: _) => small a
  | _ => True
theorem pair_of {p : PyData} (h : pairOk p = true) : ∃ a b, p = .tuple [a, b] := by
  cases p with
  | tuple q =>
    have h := of_decide_eq_true (show decide (q.length = 2) = true from h)
    match q, h with
    | [a, b], _ => exact ⟨a, b, rfl⟩
  | _ => cases h
theorem shaped_int (i : Int) : SeqAt.shaped (.int i) = true := by simp [SeqAt.shaped, PyData.canLay0, PyData.depth]
theorem fm_some (g : PyData → PyData) : ∀ ps : List PyData, ps.filterMap (fun p => some (g p)) = ps.map g
  | [] => rfl
  | p :: ps => by rw [List.filterMap_cons, List.map_cons, fm_some g ps]
theorem s_is_things_no (d : PyData) (h : ∀ ps, d ≠ .tuple ps) : F_is_things [.sh d] = .ok (.sh (.bool (thingsOk d))) [.sh d, .no] := by
  cases d with
  | tuple ps => exact absurd rfl (h ps)
  | _ => simp [F_is_things, m_is_things, thingsOk, ZD.run, mret, mretN, shV, vand, vor, vnot, fz, op1, op2, op2c, opv2, nm, nv, cst, odD, bnd, ZD.ret, ZD.fail, out, look, tst, mnot, mand, mor, mif, mifS, mseq, mnx, macons, manil, mtup, mlst, asgN, masg, slOf, asgT, tgtup, tgcons, tgnil, tgN, Vl.d, stepC, ZD.wp, wipeable, wipeE, restE, isPlain, mtrue, List.replicate, List.set, oTest, isiInt, isiBool, isiStr, isiTup, isiList, oLe, oLt, oGe, oGt, oOrd, oLen, oIx, gotD]
theorem s_is_things (ps : List PyData) (hs : ∀ p ∈ ps, smallP p) (hl : ps.length ≤ 1000000) : F_is_things [.sh (.tuple ps)] = .ok (.sh (.bool (thingsOk (.tuple ps)))) [.sh (.tuple ps), .no] := by
  have e1 : c1_is_things [.sh (.tuple ps), .no] = .ok (.bool (ps.all pairOk)) [.sh (.tuple ps), .no] :=
    all_eq (wp_mall ⟨ps, [.sh (.tuple ps), .no], by simp [seqM, ZD.run, mret, mretN, shV, vand, vor, vnot, fz, op1, op2, op2c, opv2, nm, nv, cst, odD, bnd, ZD.ret, ZD.fail, out, look, tst, mnot, mand, mor, mif, mifS, mseq, mnx, macons, manil, mtup, mlst, asgN, masg, slOf, asgT, tgtup, tgcons, tgnil, tgN, Vl.d, stepC, ZD.wp, wipeable, wipeE, restE, isPlain, mtrue, List.replicate, List.set, oTest, isiInt, isiBool, isiStr, isiTup, isiList, oLe, oLt, oGe, oGt, oOrd, oLen, oIx, gotD], by simp [ZD.run, mret, mretN, shV, vand, vor, vnot, fz, op1, op2, op2c, opv2, nm, nv, cst, odD, bnd, ZD.ret, ZD.fail, out, look, tst, mnot, mand, mor, mif, mifS, mseq, mnx, macons, manil, mtup, mlst, asgN, masg, slOf, asgT, tgtup, tgcons, tgnil, tgN, Vl.d, stepC, ZD.wp, wipeable, wipeE, restE, isPlain, mtrue, List.replicate, List.set, oTest, isiInt, isiBool, isiStr, isiTup, isiList, oLe, oLt, oGe, oGt, oOrd, oLen, oIx, gotD], pairOk, fun d hd => by
      cases d with
      | tuple q =>
        by_cases hq : q.length = 2
        · simp [pairOk, hq, oEq, shaped_int, PyData.eqv, ZD.run, mret, mretN, shV, vand, vor, vnot, fz, op1, op2, op2c, opv2, nm, nv, cst, odD, bnd, ZD.ret, ZD.fail, out, look, tst, mnot, mand, mor, mif, mifS, mseq, mnx, macons, manil, mtup, mlst, asgN, masg, slOf, asgT, tgtup, tgcons, tgnil, tgN, Vl.d, stepC, ZD.wp, wipeable, wipeE, restE, isPlain, mtrue, List.replicate, List.set, oTest, isiInt, isiBool, isiStr, isiTup, isiList, oLe, oLt, oGe, oGt, oOrd, oLen, oIx, gotD]
        · have hq2 : ¬ ((q.length : Int) = 2) := by omega
          simp [pairOk, hq, hq2, oEq, shaped_int, PyData.eqv, ZD.run, mret, mretN, shV, vand, vor, vnot, fz, op1, op2, op2c, opv2, nm, nv, cst, odD, bnd, ZD.ret, ZD.fail, out, look, tst, mnot, mand, mor, mif, mifS, mseq, mnx, macons, manil, mtup, mlst, asgN, masg, slOf, asgT, tgtup, tgcons, tgnil, tgN, Vl.d, stepC, ZD.wp, wipeable, wipeE, restE, isPlain, mtrue, List.replicate, List.set, oTest, isiInt, isiBool, isiStr, isiTup, isiList, oLe, oLt, oGe, oGt, oOrd, oLen, oIx, gotD]
      | _ => simp [pairOk, ZD.run, mret, mretN, shV, vand, vor, vnot, fz, op1, op2, op2c, opv2, nm, nv, cst, odD, bnd, ZD.ret, ZD.fail, out, look, tst, mnot, mand, mor, mif, mifS, mseq, mnx, macons, manil, mtup, mlst, asgN, masg, slOf, asgT, tgtup, tgcons, tgnil, tgN, Vl.d, stepC, ZD.wp, wipeable, wipeE, restE, isPlain, mtrue, List.replicate, List.set, oTest, isiInt, isiBool, isiStr, isiTup, isiList, oLe, oLt, oGe, oGt, oOrd, oLen, oIx, gotD], rfl, by simp [ZD.run, mret, mretN, shV, vand, vor, vnot, fz, op1, op2, op2c, opv2, nm, nv, cst, odD, bnd, ZD.ret, ZD.fail, out, look, tst, mnot, mand, mor, mif, mifS, mseq, mnx, macons, manil, mtup, mlst, asgN, masg, slOf, asgT, tgtup, tgcons, tgnil, tgN, Vl.d, stepC, ZD.wp, wipeable, wipeE, restE, isPlain, mtrue, List.replicate, List.set, oTest, isiInt, isiBool, isiStr, isiTup, isiList, oLe, oLt, oGe, oGt, oOrd, oLen, oIx, gotD]⟩)
  have e2 : ps.all pairOk = true → c2_is_things [.sh (.tuple ps), .no] = .ok (.ow (.list (ps.map fstD))) [.sh (.tuple ps), .no] := fun hall =>
    allV_eq (wp_mcomp ⟨ps, [.sh (.tuple ps), .no], by simp [seqM, ZD.run, mret, mretN, shV, vand, vor, vnot, fz, op1, op2, op2c, opv2, nm, nv, cst, odD, bnd, ZD.ret, ZD.fail, out, look, tst, mnot, mand, mor, mif, mifS, mseq, mnx, macons, manil, mtup, mlst, asgN, masg, slOf, asgT, tgtup, tgcons, tgnil, tgN, Vl.d, stepC, ZD.wp, wipeable, wipeE, restE, isPlain, mtrue, List.replicate, List.set, oTest, isiInt, isiBool, isiStr, isiTup, isiList, oLe, oLt, oGe, oGt, oOrd, oLen, oIx, gotD], hl, by simp [ZD.run, mret, mretN, shV, vand, vor, vnot, fz, op1, op2, op2c, opv2, nm, nv, cst, odD, bnd, ZD.ret, ZD.fail, out, look, tst, mnot, mand, mor, mif, mifS, mseq, mnx, macons, manil, mtup, mlst, asgN, masg, slOf, asgT, tgtup, tgcons, tgnil, tgN, Vl.d, stepC, ZD.wp, wipeable, wipeE, restE, isPlain, mtrue, List.replicate, List.set, oTest, isiInt, isiBool, isiStr, isiTup, isiList, oLe, oLt, oGe, oGt, oOrd, oLen, oIx, gotD], fun p => some (fstD p), fun d hd => by
      obtain ⟨a, b, rfl⟩ := pair_of (List.all_eq_true.mp hall d hd)
      simp [fstD, L2.atI, L2.ixN, ZD.run, mret, mretN, shV, vand, vor, vnot, fz, op1, op2, op2c, opv2, nm, nv, cst, odD, bnd, ZD.ret, ZD.fail, out, look, tst, mnot, mand, mor, mif, mifS, mseq, mnx, macons, manil, mtup, mlst, asgN, masg, slOf, asgT, tgtup, tgcons, tgnil, tgN, Vl.d, stepC, ZD.wp, wipeable, wipeE, restE, isPlain, mtrue, List.replicate, List.set, oTest, isiInt, isiBool, isiStr, isiTup, isiList, oLe, oLt, oGe, oGt, oOrd, oLen, oIx, gotD], by rw [fm_some], by simp [ZD.run, mret, mretN, shV, vand, vor, vnot, fz, op1, op2, op2c, opv2, nm, nv, cst, odD, bnd, ZD.ret, ZD.fail, out, look, tst, mnot, mand, mor, mif, mifS, mseq, mnx, macons, manil, mtup, mlst, asgN, masg, slOf, asgT, tgtup, tgcons, tgnil, tgN, Vl.d, stepC, ZD.wp, wipeable, wipeE, restE, isPlain, mtrue, List.replicate, List.set, oTest, isiInt, isiBool, isiStr, isiTup, isiList, oLe, oLt, oGe, oGt, oOrd, oLen, oIx, gotD]⟩)
  have e3 : ps.all pairOk = true → c3_is_things [.sh (.tuple ps), .no] = .ok (.bool (ps.all kindOk)) [.sh (.tuple ps), .no] := fun hall =>
    all_eq (wp_mall ⟨ps, [.sh (.tuple ps), .no], by simp [seqM, ZD.run, mret, mretN, shV, vand, vor, vnot, fz, op1, op2, op2c, opv2, nm, nv, cst, odD, bnd, ZD.ret, ZD.fail, out, look, tst, mnot, mand, mor, mif, mifS, mseq, mnx, macons, manil, mtup, mlst, asgN, masg, slOf, asgT, tgtup, tgcons, tgnil, tgN, Vl.d, stepC, ZD.wp, wipeable, wipeE, restE, isPlain, mtrue, List.replicate, List.set, oTest, isiInt, isiBool, isiStr, isiTup, isiList, oLe, oLt, oGe, oGt, oOrd, oLen, oIx, gotD], by simp [ZD.run, mret, mretN, shV, vand, vor, vnot, fz, op1, op2, op2c, opv2, nm, nv, cst, odD, bnd, ZD.ret, ZD.fail, out, look, tst, mnot, mand, mor, mif, mifS, mseq, mnx, macons, manil, mtup, mlst, asgN, masg, slOf, asgT, tgtup, tgcons, tgnil, tgN, Vl.d, stepC, ZD.wp, wipeable, wipeE, restE, isPlain, mtrue, List.replicate, List.set, oTest, isiInt, isiBool, isiStr, isiTup, isiList, oLe, oLt, oGe, oGt, oOrd, oLen, oIx, gotD], kindOk, fun d hd => by
      obtain ⟨a, b, rfl⟩ := pair_of (List.all_eq_true.mp hall d hd)
      cases b with
      | str k => simp [kindOk, kinds, L2.atI, L2.ixN, oIn, inD, flatD, ZD.run, mret, mretN, shV, vand, vor, vnot, fz, op1, op2, op2c, opv2, nm, nv, cst, odD, bnd, ZD.ret, ZD.fail, out, look, tst, mnot, mand, mor, mif, mifS, mseq, mnx, macons, manil, mtup, mlst, asgN, masg, slOf, asgT, tgtup, tgcons, tgnil, tgN, Vl.d, stepC, ZD.wp, wipeable, wipeE, restE, isPlain, mtrue, List.replicate, List.set, oTest, isiInt, isiBool, isiStr, isiTup, isiList, oLe, oLt, oGe, oGt, oOrd, oLen, oIx, gotD]
      | _ => simp [kindOk, L2.atI, L2.ixN, ZD.run, mret, mretN, shV, vand, vor, vnot, fz, op1, op2, op2c, opv2, nm, nv, cst, odD, bnd, ZD.ret, ZD.fail, out, look, tst, mnot, mand, mor, mif, mifS, mseq, mnx, macons, manil, mtup, mlst, asgN, masg, slOf, asgT, tgtup, tgcons, tgnil, tgN, Vl.d, stepC, ZD.wp, wipeable, wipeE, restE, isPlain, mtrue, List.replicate, List.set, oTest, isiInt, isiBool, isiStr, isiTup, isiList, oLe, oLt, oGe, oGt, oOrd, oLen, oIx, gotD], rfl, by simp [ZD.run, mret, mretN, shV, vand, vor, vnot, fz, op1, op2, op2c, opv2, nm, nv, cst, odD, bnd, ZD.ret, ZD.fail, out, look, tst, mnot, mand, mor, mif, mifS, mseq, mnx, macons, manil, mtup, mlst, asgN, masg, slOf, asgT, tgtup, tgcons, tgnil, tgN, Vl.d, stepC, ZD.wp, wipeable, wipeE, restE, isPlain, mtrue, List.replicate, List.set, oTest, isiInt, isiBool, isiStr, isiTup, isiList, oLe, oLt, oGe, oGt, oOrd, oLen, oIx, gotD]⟩)
  have sm : ∀ d ∈ ps.map fstD, ps.all pairOk = true → small d := fun d hd hall => by
    obtain ⟨p, hp, rfl⟩ := List.mem_map.mp hd
    have h1 := hs p hp
    obtain ⟨a, b, rfl⟩ := pair_of (List.all_eq_true.mp hall p hp)
    exact h1
  unfold F_is_things m_is_things
  cases h1 : ps.all pairOk with
  | false =>
    rw [h1] at e1
    simp [thingsOk, h1, e1, ZD.run, mret, mretN, shV, vand, vor, vnot, fz, op1, op2, op2c, opv2, nm, nv, cst, odD, bnd, ZD.ret, ZD.fail, out, look, tst, mnot, mand, mor, mif, mifS, mseq, mnx, macons, manil, mtup, mlst, asgN, masg, slOf, asgT, tgtup, tgcons, tgnil, tgN, Vl.d, stepC, ZD.wp, wipeable, wipeE, restE, isPlain, mtrue, List.replicate, List.set, oTest, isiInt, isiBool, isiStr, isiTup, isiList, oLe, oLt, oGe, oGt, oOrd, oLen, oIx, gotD]
  | true =>
    have e2 := e2 h1
    have e3 := e3 h1
    rw [h1] at e1
    have e4 := s_is_names (ps.map fstD) 1 6 (fun d hd => sm d hd h1) (by rw [List.length_map]; exact hl)
    cases h2 : namesOk (ps.map fstD) 1 6 with
    | false =>
      rw [h2] at e4
      simp [thingsOk, h1, h2, e1, e2, e4, mcall, oTuple, ZD.run, mret, mretN, shV, vand, vor, vnot, fz, op1, op2, op2c, opv2, nm, nv, cst, odD, bnd, ZD.ret, ZD.fail, out, look, tst, mnot, mand, mor, mif, mifS, mseq, mnx, macons, manil, mtup, mlst, asgN, masg, slOf, asgT, tgtup, tgcons, tgnil, tgN, Vl.d, stepC, ZD.wp, wipeable, wipeE, restE, isPlain, mtrue, List.replicate, List.set, oTest, isiInt, isiBool, isiStr, isiTup, isiList, oLe, oLt, oGe, oGt, oOrd, oLen, oIx, gotD]
    | true =>
      rw [h2] at e4
      simp [thingsOk, h1, h2, e1, e2, e3, e4, mcall, oTuple, ZD.run, mret, mretN, shV, vand, vor, vnot, fz, op1, op2, op2c, opv2, nm, nv, cst, odD, bnd, ZD.ret, ZD.fail, out, look, tst, mnot, mand, mor, mif, mifS, mseq, mnx, macons, manil, mtup, mlst, asgN, masg, slOf, asgT, tgtup, tgcons, tgnil, tgN, Vl.d, stepC, ZD.wp, wipeable, wipeE, restE, isPlain, mtrue, List.replicate, List.set, oTest, isiInt, isiBool, isiStr, isiTup, isiList, oLe, oLt, oGe, oGt, oOrd, oLen, oIx, gotD]
end Q49

namespace Q49
open PySem ZD
/-! the draws -/
theorem out_int {en : En} {Q : Vl → En → Prop} {x : PyData} (q : Q (.sh x) en) : WP (out (.d x)) en Q := wp_ret q
theorem mul_ok {i j : Int} (h : i.natAbs.log2 + j.natAbs.log2 < 1000000) : oMul (.int i) (.int j) = .d (.int (i * j)) := by
  exact if_pos (decide_eq_true h)
theorem add_ok (i j : Int) : oAdd (.int i) (.int j) = .d (.int (i + j)) := rfl
theorem sub_ok (i j : Int) : oSub (.int i) (.int j) = .d (.int (i - j)) := rfl
theorem xor_ok (i j : Int) : oXor (.int i) (.int j) = .d (.int (Builtin.bitXor i j)) := rfl
theorem mod_ok {i j : Int} (h : 0 < j) : oMod (.int i) (.int j) = .d (.int (i % j)) := by
  exact if_pos (decide_eq_true h)
theorem div_ok {i j : Int} (h : 0 < j) (h2 : j.natAbs.log2 < 9000) : oDiv (.int i) (.int j) = .d (.int (i / j)) := by
  exact if_pos (decide_eq_true ⟨h, h2⟩)
theorem shr_ok {i j : Int} (h : 0 ≤ j) : oShr (.int i) (.int j) = .d (.int (i / 2 ^ j.toNat)) := by
  exact if_pos (decide_eq_true h)
theorem pow_ok {i j : Int} (h : 0 ≤ j ∧ j ≤ 1000000 ∧ i.natAbs < 2 ^ 64) : oPow (.int i) (.int j) = .d (.int (i ^ j.toNat)) := by
  exact if_pos (decide_eq_true h)
theorem log_mod {i j : Int} (h : 0 < j) (h2 : j ≤ 2 ^ 61) : (i % j).natAbs.log2 < 61 := by
  have h3 := Int.emod_nonneg i (show j ≠ 0 by omega)
  have h4 := Int.emod_lt_of_pos i h
  exact log_lt (by decide) (by omega)
theorem log_xor (x : Int) (h0 : 0 ≤ x) (h : x < 2 ^ 61) (n : Nat) : (Builtin.bitXor x (x / 2 ^ n)).natAbs.log2 < 100 := by
  have h1 : 0 ≤ x / 2 ^ n := Int.ediv_nonneg h0 (Int.le_of_lt (Int.pow_pos (by decide)))
  have h2 : x / 2 ^ n ≤ x := Int.ediv_le_self _ h0
  rw [Bits.bitXor_pp h0 h1]
  have h3 : x.toNat ^^^ (x / 2 ^ n).toNat < 2 ^ 61 := Nat.xor_lt_two_pow (by omega) (by omega)
  have h4 : ((x.toNat ^^^ (x / 2 ^ n).toNat : Nat) : Int).natAbs.log2 < 61 := log_lt (by decide) (by omega)
  omega
theorem s_mixed (c : Int) (t : Nat) (ht : t < 2 ^ 60) : ∃ r en, F__law_mixed [.sh (.int c), .sh (.int t)] = .ok (.sh (.int r)) en := by
  have p61 : oPow (.int 2) (.int 61) = .d (.int (2 ^ 61)) := pow_ok (by decide)
  have l1 : (c % (2 ^ 61 - 1)).natAbs.log2 < 61 := log_mod (by decide) (by decide)
  have l2 : (t : Int).natAbs.log2 < 61 := log_lt (by decide) (by omega)
  have k1 : (6364136223846793005 : Int).natAbs.log2 < 63 := log_lt (by decide) (by decide)
  have k2 : (1442695040888963407 : Int).natAbs.log2 < 63 := log_lt (by decide) (by decide)
  have k3 : (3935559000370003845 : Int).natAbs.log2 < 63 := log_lt (by decide) (by decide)
  have k4 : (2862933555777941757 : Int).natAbs.log2 < 63 := log_lt (by decide) (by decide)
  generalize hx : (c % (2 ^ 61 - 1) * 6364136223846793005 + (t : Int) * 1442695040888963407 + 97) % 2 ^ 61 = x
  have x0 : 0 ≤ x := by rw [← hx]; exact Int.emod_nonneg _ (by decide)
  have x1 : x < 2 ^ 61 := by rw [← hx]; exact Int.emod_lt_of_pos _ (by decide)
  have lx := log_xor x x0 x1 29
  generalize hy : (Builtin.bitXor x (x / 2 ^ 29) * 3935559000370003845) % 2 ^ 61 = y
  have y0 : 0 ≤ y := by rw [← hy]; exact Int.emod_nonneg _ (by decide)
  have y1 : y < 2 ^ 61 := by rw [← hy]; exact Int.emod_lt_of_pos _ (by decide)
  have ly := log_xor y y0 y1 31
  have m1 : oMod (.int c) (.int (2 ^ 61 - 1)) = .d (.int (c % (2 ^ 61 - 1))) := mod_ok (by decide)
  have m2 : oMul (.int (c % (2 ^ 61 - 1))) (.int 6364136223846793005) = .d (.int (c % (2 ^ 61 - 1) * 6364136223846793005)) := mul_ok (by omega)
  have m3 : oMul (.int t) (.int 1442695040888963407) = .d (.int (t * 1442695040888963407)) := mul_ok (by omega)
  have m4 : ∀ z : Int, oMod (.int z) (.int (2 ^ 61)) = .d (.int (z % 2 ^ 61)) := fun z => mod_ok (by decide)
  have m5 : ∀ z : Int, oShr (.int z) (.int 29) = .d (.int (z / 2 ^ 29)) := fun z => shr_ok (by decide)
  have m6 : ∀ z : Int, oShr (.int z) (.int 31) = .d (.int (z / 2 ^ 31)) := fun z => shr_ok (by decide)
  have m7 : oMul (.int (Builtin.bitXor x (x / 2 ^ 29))) (.int 3935559000370003845) = .d (.int (Builtin.bitXor x (x / 2 ^ 29) * 3935559000370003845)) := mul_ok (by omega)
  have m8 : oMul (.int (Builtin.bitXor y (y / 2 ^ 31))) (.int 2862933555777941757) = .d (.int (Builtin.bitXor y (y / 2 ^ 31) * 2862933555777941757)) := mul_ok (by omega)
  refine ⟨Builtin.bitXor y (y / 2 ^ 31) * 2862933555777941757 % 2 ^ 61, [.sh (.int c), .sh (.int t), .sh (.int y)], ?_⟩
  simp only [F__law_mixed, m__law_mixed, ZD.run, mret, mretN, shV, vand, vor, vnot, fz, op1, op2, op2c, opv2, nm, nv, cst, odD, bnd, ZD.ret, ZD.fail, out, look, tst, mnot, mand, mor, mif, mifS, mseq, mnx, macons, manil, mtup, mlst, asgN, masg, slOf, asgT, tgtup, tgcons, tgnil, tgN, Vl.d, stepC, ZD.wp, wipeable, wipeE, restE, isPlain, mtrue, List.replicate, List.set, oTest, isiInt, isiBool, isiStr, isiTup, isiList, oLe, oLt, oGe, oGt, oOrd, oLen, oIx, gotD, p61, sub_ok, m1, m2, m3, add_ok, m4, hx, m5, xor_ok, m7, hy, m6, m8, List.length_cons, List.length_nil, List.cons_append, List.nil_append, List.getElem?_cons_succ, List.getElem?_cons_zero]

/-- the draws' list: at most n turns are gone -/
def DS (n : Nat) (d : PyData) : Prop := ∃ (turn : Nat) (left : Int) (cells : List Int), d = .list [.int turn, .int left, .list (cells.map .int)] ∧ cells ≠ [] ∧ turn ≤ n
theorem DS.up {n m : Nat} {d : PyData} (h : DS n d) (hm : n ≤ m) : DS m d := let ⟨t, l, c, e, h1, h2⟩ := h; ⟨t, l, c, e, h1, by omega⟩
theorem DS.isl {n : Nat} {d : PyData} (h : DS n d) : ∃ ds, d = .list ds := let ⟨_, _, _, e, _⟩ := h; ⟨_, e⟩
theorem draw_tail (turn left t' l' size : Int) (cs : List PyData) (x5 : Sl) (h0 : 0 < size) (h1 : size.natAbs.log2 < 9000) :
    (mseq (mst 0 (nv 2) (odD (cst (.int 0)))) (mseq (mst 0 (fz (op2 oDiv (nm 3) (nm 1))) (odD (cst (.int 1)))) (mret (op2 oMod (nm 3) (nm 1))))) [.io (.list [.int turn, .int left, .list cs]), .sh (.int size), .sh (.int t'), .sh (.int l'), .sh (.list cs), x5] =
    .ok (.rt (.sh (.int (l' % size)))) [.io (.list [.int t', .int (l' / size), .list cs]), .sh (.int size), .sh (.int t'), .sh (.int l'), .sh (.list cs), x5] := by
  simp [ZD.run, mret, mretN, shV, vand, vor, vnot, fz, op1, op2, op2c, opv2, nm, nv, cst, odD, bnd, ZD.ret, ZD.fail, out, look, tst, mnot, mand, mor, mif, mifS, mseq, mnx, macons, manil, mtup, mlst, asgN, masg, slOf, asgT, tgtup, tgcons, tgnil, tgN, Vl.d, stepC, ZD.wp, wipeable, wipeE, restE, isPlain, mtrue, List.replicate, List.set, oTest, isiInt, isiBool, isiStr, isiTup, isiList, oLe, oLt, oGe, oGt, oOrd, oLen, oIx, gotD, mst, mstW, chk, isLs, wr, gSt, L2.ixN, div_ok h0 h1, mod_ok h0]
theorem atI_cells {cells : List Int} {t : Nat} (h : cells ≠ []) : ∃ c : Int, L2.atI (cells.map PyData.int) ((t : Int) % (cells.length : Int)) = some (.int c) := by
  have hl : 0 < cells.length := List.length_pos_iff.mpr h
  have e : ((t : Int) % (cells.length : Int)) = ((t % cells.length : Nat) : Int) := by simp
  have hlt : t % cells.length < cells.length := Nat.mod_lt _ hl
  refine ⟨cells[t % cells.length], ?_⟩
  rw [e]
  exact atI_of (by rw [List.getElem?_map, List.getElem?_eq_getElem hlt]; rfl)
theorem s_draw {n : Nat} {d : PyData} (hd : DS n d) (hn : n < 2 ^ 60) (size : Int) (h0 : 0 < size) (h1 : size.natAbs.log2 < 9000) :
    ∃ (r : Int) (d' : PyData) (en : En), F__law_draw [.io d, .sh (.int size)] = .ok (.sh (.int r)) (.io d' :: en) ∧ 0 ≤ r ∧ r < size ∧ DS (n + 1) d' := by
  obtain ⟨turn, left, cells, rfl, hne, ht⟩ := hd
  have fin : ∀ (t' : Nat) (l' : Int) (x5 : Sl), t' ≤ n + 1 → (∃ e1, m__law_draw ([.io (.list [.int turn, .int left, .list (cells.map .int)]), .sh (.int size)] ++ List.replicate 4 .no) = .ok (.rt (.sh (.int (l' % size)))) (.io (.list [.int t', .int (l' / size), .list (cells.map .int)]) :: e1)) →
      ∃ (r : Int) (d' : PyData) (en : En), F__law_draw [.io (.list [.int turn, .int left, .list (cells.map .int)]), .sh (.int size)] = .ok (.sh (.int r)) (.io d' :: en) ∧ 0 ≤ r ∧ r < size ∧ DS (n + 1) d' := fun t' l' x5 h2 ⟨e1, h3⟩ =>
    ⟨l' % size, _, e1, by unfold F__law_draw ZD.run; show (match m__law_draw ([.io (.list [.int turn, .int left, .list (cells.map .int)]), .sh (.int size)] ++ List.replicate 4 .no) with | .ok (.rt x) en => Res.ok x en | .ok .nx en => .ok (.sh .none) en | .ok _ _ => .bad | .err c en => .err c en | .bad => .bad) = _; rw [h3], Int.emod_nonneg _ (by omega), Int.emod_lt_of_pos _ h0, t', l' / size, cells, rfl, hne, h2⟩
  have tl := fun (t' : Int) (l' : Int) (x5 : Sl) => draw_tail turn left t' l' size (cells.map .int) x5 h0 h1
  obtain ⟨c, hc⟩ := atI_cells (t := turn) hne
  have hl : 0 < (cells.length : Int) := by have := List.length_pos_iff.mpr hne; omega
  have md : oMod (.int turn) (.int cells.length) = .d (.int ((turn : Int) % cells.length)) := mod_ok hl
  let rest := fun (t' l' : Int) (x5 : Sl) => [Sl.sh (.int size), .sh (.int t'), .sh (.int l'), .sh (.list (cells.map .int)), x5]
  have p18 : oPow (.int 10) (.int 18) = .d (.int (10 ^ 18)) := pow_ok (by decide)
  by_cases hls : left < size
  · by_cases hb1 : (turn : Int) < cells.length
    · by_cases hb2 : (1000000000000000000 : Int) ≤ c
      · refine fin (turn + 1) c (.sh (.int c)) (by omega) ⟨rest (turn + 1) c (.sh (.int c)), ?_⟩
        simp [m__law_draw, ZD.run, mret, mretN, shV, vand, vor, vnot, fz, op1, op2, op2c, opv2, nm, nv, cst, odD, bnd, ZD.ret, ZD.fail, out, look, tst, mnot, mand, mor, mif, mifS, mseq, mnx, macons, manil, mtup, mlst, asgN, masg, slOf, asgT, tgtup, tgcons, tgnil, tgN, Vl.d, stepC, ZD.wp, wipeable, wipeE, restE, isPlain, mtrue, List.replicate, List.set, oTest, isiInt, isiBool, isiStr, isiTup, isiList, oLe, oLt, oGe, oGt, oOrd, oLen, oIx, gotD, hls, hb1, hb2, hc, md, p18, oAdd, mst, mstW, chk, isLs, wr, gSt, L2.ixN, div_ok h0 h1, mod_ok h0, rest]
      · obtain ⟨r, en, hr⟩ := s_mixed c turn (by omega)
        refine fin (turn + 1) r (.sh (.int c)) (by omega) ⟨rest (turn + 1) r (.sh (.int c)), ?_⟩
        simp [m__law_draw, ZD.run, mret, mretN, shV, vand, vor, vnot, fz, op1, op2, op2c, opv2, nm, nv, cst, odD, bnd, ZD.ret, ZD.fail, out, look, tst, mnot, mand, mor, mif, mifS, mseq, mnx, macons, manil, mtup, mlst, asgN, masg, slOf, asgT, tgtup, tgcons, tgnil, tgN, Vl.d, stepC, ZD.wp, wipeable, wipeE, restE, isPlain, mtrue, List.replicate, List.set, oTest, isiInt, isiBool, isiStr, isiTup, isiList, oLe, oLt, oGe, oGt, oOrd, oLen, oIx, gotD, hls, hb1, hb2, hc, md, p18, oAdd, mst, mstW, chk, isLs, wr, gSt, L2.ixN, div_ok h0 h1, mod_ok h0, rest, mcall, hr]
    · obtain ⟨r, en, hr⟩ := s_mixed c turn (by omega)
      refine fin (turn + 1) r (.sh (.int c)) (by omega) ⟨rest (turn + 1) r (.sh (.int c)), ?_⟩
      simp [m__law_draw, ZD.run, mret, mretN, shV, vand, vor, vnot, fz, op1, op2, op2c, opv2, nm, nv, cst, odD, bnd, ZD.ret, ZD.fail, out, look, tst, mnot, mand, mor, mif, mifS, mseq, mnx, macons, manil, mtup, mlst, asgN, masg, slOf, asgT, tgtup, tgcons, tgnil, tgN, Vl.d, stepC, ZD.wp, wipeable, wipeE, restE, isPlain, mtrue, List.replicate, List.set, oTest, isiInt, isiBool, isiStr, isiTup, isiList, oLe, oLt, oGe, oGt, oOrd, oLen, oIx, gotD, hls, hb1, hc, md, p18, oAdd, mst, mstW, chk, isLs, wr, gSt, L2.ixN, div_ok h0 h1, mod_ok h0, rest, mcall, hr]
  · refine fin turn left .no (by omega) ⟨rest turn left .no, ?_⟩
    simp [m__law_draw, ZD.run, mret, mretN, shV, vand, vor, vnot, fz, op1, op2, op2c, opv2, nm, nv, cst, odD, bnd, ZD.ret, ZD.fail, out, look, tst, mnot, mand, mor, mif, mifS, mseq, mnx, macons, manil, mtup, mlst, asgN, masg, slOf, asgT, tgtup, tgcons, tgnil, tgN, Vl.d, stepC, ZD.wp, wipeable, wipeE, restE, isPlain, mtrue, List.replicate, List.set, oTest, isiInt, isiBool, isiStr, isiTup, isiList, oLe, oLt, oGe, oGt, oOrd, oLen, oIx, gotD, hls, mst, mstW, chk, isLs, wr, gSt, L2.ixN, div_ok h0 h1, mod_ok h0, rest]
end Q49

namespace Q49
open PySem ZD
theorem ek_cell_cell : oEq (.str "cell") (.str "cell") = .d (.bool true) := by kernel_rfl
theorem ek_cell_count : oEq (.str "cell") (.str "count") = .d (.bool false) := by kernel_rfl
theorem ek_cell_bag : oEq (.str "cell") (.str "bag") = .d (.bool false) := by kernel_rfl
theorem ek_cell_stack : oEq (.str "cell") (.str "stack") = .d (.bool false) := by kernel_rfl
theorem ek_count_cell : oEq (.str "count") (.str "cell") = .d (.bool false) := by kernel_rfl
theorem ek_count_count : oEq (.str "count") (.str "count") = .d (.bool true) := by kernel_rfl
theorem ek_count_bag : oEq (.str "count") (.str "bag") = .d (.bool false) := by kernel_rfl
theorem ek_count_stack : oEq (.str "count") (.str "stack") = .d (.bool false) := by kernel_rfl
theorem ek_stack_cell : oEq (.str "stack") (.str "cell") = .d (.bool false) := by kernel_rfl
theorem ek_stack_count : oEq (.str "stack") (.str "count") = .d (.bool false) := by kernel_rfl
theorem ek_stack_bag : oEq (.str "stack") (.str "bag") = .d (.bool false) := by kernel_rfl
theorem ek_stack_stack : oEq (.str "stack") (.str "stack") = .d (.bool true) := by kernel_rfl
theorem ek_queue_cell : oEq (.str "queue") (.str "cell") = .d (.bool false) := by kernel_rfl
theorem ek_queue_count : oEq (.str "queue") (.str "count") = .d (.bool false) := by kernel_rfl
theorem ek_queue_bag : oEq (.str "queue") (.str "bag") = .d (.bool false) := by kernel_rfl
theorem ek_queue_stack : oEq (.str "queue") (.str "stack") = .d (.bool false) := by kernel_rfl
theorem ek_bag_cell : oEq (.str "bag") (.str "cell") = .d (.bool false) := by kernel_rfl
theorem ek_bag_count : oEq (.str "bag") (.str "count") = .d (.bool false) := by kernel_rfl
theorem ek_bag_bag : oEq (.str "bag") (.str "bag") = .d (.bool true) := by kernel_rfl
theorem ek_bag_stack : oEq (.str "bag") (.str "stack") = .d (.bool false) := by kernel_rfl
theorem ew_put_put : oEq (.str "put") (.str "put") = .d (.bool true) := by kernel_rfl
theorem ew_put_add : oEq (.str "put") (.str "add") = .d (.bool false) := by kernel_rfl
theorem ew_put_push : oEq (.str "put") (.str "push") = .d (.bool false) := by kernel_rfl
theorem ew_put_pop : oEq (.str "put") (.str "pop") = .d (.bool false) := by kernel_rfl
theorem ew_put_keep : oEq (.str "put") (.str "keep") = .d (.bool false) := by kernel_rfl
theorem ew_put_drop : oEq (.str "put") (.str "drop") = .d (.bool false) := by kernel_rfl
theorem en_put_keep : oNe (.str "put") (.str "keep") = .d (.bool true) := by kernel_rfl
theorem ei_put : oIn false (.str "put") (.tuple [.str "get", .str "read"]) = .d (.bool false) := by kernel_rfl
theorem ew_get_put : oEq (.str "get") (.str "put") = .d (.bool false) := by kernel_rfl
theorem ew_get_add : oEq (.str "get") (.str "add") = .d (.bool false) := by kernel_rfl
theorem ew_get_push : oEq (.str "get") (.str "push") = .d (.bool false) := by kernel_rfl
theorem ew_get_pop : oEq (.str "get") (.str "pop") = .d (.bool false) := by kernel_rfl
theorem ew_get_keep : oEq (.str "get") (.str "keep") = .d (.bool false) := by kernel_rfl
theorem ew_get_drop : oEq (.str "get") (.str "drop") = .d (.bool false) := by kernel_rfl
theorem en_get_keep : oNe (.str "get") (.str "keep") = .d (.bool true) := by kernel_rfl
theorem ei_get : oIn false (.str "get") (.tuple [.str "get", .str "read"]) = .d (.bool true) := by kernel_rfl
theorem ew_add_put : oEq (.str "add") (.str "put") = .d (.bool false) := by kernel_rfl
theorem ew_add_add : oEq (.str "add") (.str "add") = .d (.bool true) := by kernel_rfl
theorem ew_add_push : oEq (.str "add") (.str "push") = .d (.bool false) := by kernel_rfl
theorem ew_add_pop : oEq (.str "add") (.str "pop") = .d (.bool false) := by kernel_rfl
theorem ew_add_keep : oEq (.str "add") (.str "keep") = .d (.bool false) := by kernel_rfl
theorem ew_add_drop : oEq (.str "add") (.str "drop") = .d (.bool false) := by kernel_rfl
theorem en_add_keep : oNe (.str "add") (.str "keep") = .d (.bool true) := by kernel_rfl
theorem ei_add : oIn false (.str "add") (.tuple [.str "get", .str "read"]) = .d (.bool false) := by kernel_rfl
theorem ew_read_put : oEq (.str "read") (.str "put") = .d (.bool false) := by kernel_rfl
theorem ew_read_add : oEq (.str "read") (.str "add") = .d (.bool false) := by kernel_rfl
theorem ew_read_push : oEq (.str "read") (.str "push") = .d (.bool false) := by kernel_rfl
theorem ew_read_pop : oEq (.str "read") (.str "pop") = .d (.bool false) := by kernel_rfl
theorem ew_read_keep : oEq (.str "read") (.str "keep") = .d (.bool false) := by kernel_rfl
theorem ew_read_drop : oEq (.str "read") (.str "drop") = .d (.bool false) := by kernel_rfl
theorem en_read_keep : oNe (.str "read") (.str "keep") = .d (.bool true) := by kernel_rfl
theorem ei_read : oIn false (.str "read") (.tuple [.str "get", .str "read"]) = .d (.bool true) := by kernel_rfl
theorem ew_push_put : oEq (.str "push") (.str "put") = .d (.bool false) := by kernel_rfl
theorem ew_push_add : oEq (.str "push") (.str "add") = .d (.bool false) := by kernel_rfl
theorem ew_push_push : oEq (.str "push") (.str "push") = .d (.bool true) := by kernel_rfl
theorem ew_push_pop : oEq (.str "push") (.str "pop") = .d (.bool false) := by kernel_rfl
theorem ew_push_keep : oEq (.str "push") (.str "keep") = .d (.bool false) := by kernel_rfl
theorem ew_push_drop : oEq (.str "push") (.str "drop") = .d (.bool false) := by kernel_rfl
theorem en_push_keep : oNe (.str "push") (.str "keep") = .d (.bool true) := by kernel_rfl
theorem ei_push : oIn false (.str "push") (.tuple [.str "get", .str "read"]) = .d (.bool false) := by kernel_rfl
theorem ew_pop_put : oEq (.str "pop") (.str "put") = .d (.bool false) := by kernel_rfl
theorem ew_pop_add : oEq (.str "pop") (.str "add") = .d (.bool false) := by kernel_rfl
theorem ew_pop_push : oEq (.str "pop") (.str "push") = .d (.bool false) := by kernel_rfl
theorem ew_pop_pop : oEq (.str "pop") (.str "pop") = .d (.bool true) := by kernel_rfl
theorem ew_pop_keep : oEq (.str "pop") (.str "keep") = .d (.bool false) := by kernel_rfl
theorem ew_pop_drop : oEq (.str "pop") (.str "drop") = .d (.bool false) := by kernel_rfl
theorem en_pop_keep : oNe (.str "pop") (.str "keep") = .d (.bool true) := by kernel_rfl
theorem ei_pop : oIn false (.str "pop") (.tuple [.str "get", .str "read"]) = .d (.bool false) := by kernel_rfl
theorem ew_keep_put : oEq (.str "keep") (.str "put") = .d (.bool false) := by kernel_rfl
theorem ew_keep_add : oEq (.str "keep") (.str "add") = .d (.bool false) := by kernel_rfl
theorem ew_keep_push : oEq (.str "keep") (.str "push") = .d (.bool false) := by kernel_rfl
theorem ew_keep_pop : oEq (.str "keep") (.str "pop") = .d (.bool false) := by kernel_rfl
theorem ew_keep_keep : oEq (.str "keep") (.str "keep") = .d (.bool true) := by kernel_rfl
theorem ew_keep_drop : oEq (.str "keep") (.str "drop") = .d (.bool false) := by kernel_rfl
theorem en_keep_keep : oNe (.str "keep") (.str "keep") = .d (.bool false) := by kernel_rfl
theorem ei_keep : oIn false (.str "keep") (.tuple [.str "get", .str "read"]) = .d (.bool false) := by kernel_rfl
theorem ew_drop_put : oEq (.str "drop") (.str "put") = .d (.bool false) := by kernel_rfl
theorem ew_drop_add : oEq (.str "drop") (.str "add") = .d (.bool false) := by kernel_rfl
theorem ew_drop_push : oEq (.str "drop") (.str "push") = .d (.bool false) := by kernel_rfl
theorem ew_drop_pop : oEq (.str "drop") (.str "pop") = .d (.bool false) := by kernel_rfl
theorem ew_drop_keep : oEq (.str "drop") (.str "keep") = .d (.bool false) := by kernel_rfl
theorem ew_drop_drop : oEq (.str "drop") (.str "drop") = .d (.bool true) := by kernel_rfl
theorem en_drop_keep : oNe (.str "drop") (.str "keep") = .d (.bool true) := by kernel_rfl
theorem ei_drop : oIn false (.str "drop") (.tuple [.str "get", .str "read"]) = .d (.bool false) := by kernel_rfl
theorem ew_has_put : oEq (.str "has") (.str "put") = .d (.bool false) := by kernel_rfl
theorem ew_has_add : oEq (.str "has") (.str "add") = .d (.bool false) := by kernel_rfl
theorem ew_has_push : oEq (.str "has") (.str "push") = .d (.bool false) := by kernel_rfl
theorem ew_has_pop : oEq (.str "has") (.str "pop") = .d (.bool false) := by kernel_rfl
theorem ew_has_keep : oEq (.str "has") (.str "keep") = .d (.bool false) := by kernel_rfl
theorem ew_has_drop : oEq (.str "has") (.str "drop") = .d (.bool false) := by kernel_rfl
theorem en_has_keep : oNe (.str "has") (.str "keep") = .d (.bool true) := by kernel_rfl
theorem ei_has : oIn false (.str "has") (.tuple [.str "get", .str "read"]) = .d (.bool false) := by kernel_rfl
theorem cut_lastA (qs : List PyData) (x : PyData) : cutD (qs ++ [x]) none (some (-1)) = qs ∧ cutD (qs ++ [x]) none (some (qs.length : Int)) = qs ∧ cutD (qs ++ [x]) (some ((qs.length : Int) + 1)) none = [] := by
  have hl : (qs ++ [x]).length = qs.length + 1 := by simp
  have e1 : HT.sIx (qs.length + 1) (qs.length + 1) (some (-1)) = qs.length := by simp [HT.sIx]; omega
  have e2 : HT.sIx (qs.length + 1) (qs.length + 1) (some (qs.length : Int)) = qs.length := by simp [HT.sIx]; omega
  have e5 : HT.sIx (qs.length + 1) 0 (some ((qs.length : Int) + 1)) = qs.length + 1 := by simp [HT.sIx]; omega
  have e3 : HT.sIx (qs.length + 1) 0 none = 0 := rfl
  have e4 : HT.sIx (qs.length + 1) (qs.length + 1) none = qs.length + 1 := rfl
  unfold cutD
  rw [hl]
  rw [e1, e2, e3, e4, e5]
  simp
theorem cut_first (x : PyData) (qs : List PyData) : cutD (x :: qs) (some 1) none = qs ∧ cutD (x :: qs) none (some 0) = [] := by
  have hl : (x :: qs).length = qs.length + 1 := by simp
  have e1 : HT.sIx (qs.length + 1) 0 (some 1) = 1 := by simp [HT.sIx]
  have e2 : HT.sIx (qs.length + 1) (qs.length + 1) (some 0) = 0 := by simp [HT.sIx]
  have e3 : HT.sIx (qs.length + 1) 0 none = 0 := rfl
  have e4 : HT.sIx (qs.length + 1) (qs.length + 1) none = qs.length + 1 := rfl
  unfold cutD
  rw [hl]
  rw [e1, e2, e3, e4]
  simp
/-! what is done -/
theorem lay_ints : ∀ ns : List Int, PyData.canLayAll0 (ns.map .int) = true
  | [] => rfl
  | n :: ns => by
    show PyData.canLayAll0 (.int n :: ns.map .int) = true
    rw [PyData.canLayAll0, lay_ints ns]
    rfl
theorem shaped_ints (ns : List Int) : SeqAt.shaped (.tuple (ns.map .int)) = true := by
  have h1 : PyData.canLay0 (.tuple (ns.map .int)) = true := by rw [PyData.canLay0]; exact lay_ints ns
  have h2 : PyData.depth (.tuple (ns.map .int)) ≤ 64 := by
    rw [PyData.depth, PySem.W.depth_ints]
    decide
  unfold SeqAt.shaped
  rw [h1, decide_eq_true h2]
  rfl
theorem eqv_nil (ns : List Int) : PyData.eqv (.tuple (ns.map .int)) (.tuple []) = ns.isEmpty := by
  cases ns with
  | nil => rfl
  | cons n ns => simp [PyData.eqv, PyData.eqvAll]
theorem eq_nil (ns : List Int) : oEq (.tuple (ns.map .int)) (.tuple []) = .d (.bool ns.isEmpty) := by
  unfold oEq
  rw [shaped_ints, show SeqAt.shaped (.tuple []) = true from rfl, eqv_nil]
  rfl
theorem ne_nil (ns : List Int) : oNe (.tuple (ns.map .int)) (.tuple []) = .d (.bool (!ns.isEmpty)) := by
  unfold oNe
  rw [shaped_ints, show SeqAt.shaped (.tuple []) = true from rfl, eqv_nil]
  rfl
/-- both say the same -/
def Same (k s d s2 r : PyData) : Prop := (∃ en, F_done [.sh k, .sh s, .sh d] = .ok (.sh (.tuple [s2, r])) en) ∧ ∃ en, F__law_done [.sh k, .sh s, .sh d] = .ok (.sh (.tuple [s2, r])) en
theorem same_put (i n : Int) : Same (.str "cell") (.int i) (.tuple [.str "put", .int n]) (.int n) .none := ⟨⟨[.sh (.str "cell"), .sh (.int i), .sh (.tuple [.str "put", .int n])], by simp [F_done, m_done, mcall, F_done_in_row, m_done_in_row, L2.atI, L2.ixN, oAdd, ek_cell_cell, ek_cell_count, ek_cell_bag, ek_cell_stack, ek_count_cell, ek_count_count, ek_count_bag, ek_count_stack, ek_stack_cell, ek_stack_count, ek_stack_bag, ek_stack_stack, ek_queue_cell, ek_queue_count, ek_queue_bag, ek_queue_stack, ek_bag_cell, ek_bag_count, ek_bag_bag, ek_bag_stack, ew_put_put, ew_put_add, ew_put_push, ew_put_pop, ew_put_keep, ew_put_drop, en_put_keep, ei_put, ew_get_put, ew_get_add, ew_get_push, ew_get_pop, ew_get_keep, ew_get_drop, en_get_keep, ei_get, ew_add_put, ew_add_add, ew_add_push, ew_add_pop, ew_add_keep, ew_add_drop, en_add_keep, ei_add, ew_read_put, ew_read_add, ew_read_push, ew_read_pop, ew_read_keep, ew_read_drop, en_read_keep, ei_read, ew_push_put, ew_push_add, ew_push_push, ew_push_pop, ew_push_keep, ew_push_drop, en_push_keep, ei_push, ew_pop_put, ew_pop_add, ew_pop_push, ew_pop_pop, ew_pop_keep, ew_pop_drop, en_pop_keep, ei_pop, ew_keep_put, ew_keep_add, ew_keep_push, ew_keep_pop, ew_keep_keep, ew_keep_drop, en_keep_keep, ei_keep, ew_drop_put, ew_drop_add, ew_drop_push, ew_drop_pop, ew_drop_keep, ew_drop_drop, en_drop_keep, ei_drop, ew_has_put, ew_has_add, ew_has_push, ew_has_pop, ew_has_keep, ew_has_drop, en_has_keep, ei_has, ZD.run, mret, mretN, shV, vand, vor, vnot, fz, op1, op2, op2c, opv2, nm, nv, cst, odD, bnd, ZD.ret, ZD.fail, out, look, tst, mnot, mand, mor, mif, mifS, mseq, mnx, macons, manil, mtup, mlst, asgN, masg, slOf, asgT, tgtup, tgcons, tgnil, tgN, Vl.d, stepC, ZD.wp, wipeable, wipeE, restE, isPlain, mtrue, List.replicate, List.set, oTest, isiInt, isiBool, isiStr, isiTup, isiList, oLe, oLt, oGe, oGt, oOrd, oLen, oIx, gotD]⟩, ⟨[.sh (.str "cell"), .sh (.int i), .sh (.tuple [.str "put", .int n]), .sh (.str "put"), .no, .no, .no], by simp [F__law_done, m__law_done, L2.atI, L2.ixN, oAdd, ek_cell_cell, ek_cell_count, ek_cell_bag, ek_cell_stack, ek_count_cell, ek_count_count, ek_count_bag, ek_count_stack, ek_stack_cell, ek_stack_count, ek_stack_bag, ek_stack_stack, ek_queue_cell, ek_queue_count, ek_queue_bag, ek_queue_stack, ek_bag_cell, ek_bag_count, ek_bag_bag, ek_bag_stack, ew_put_put, ew_put_add, ew_put_push, ew_put_pop, ew_put_keep, ew_put_drop, en_put_keep, ei_put, ew_get_put, ew_get_add, ew_get_push, ew_get_pop, ew_get_keep, ew_get_drop, en_get_keep, ei_get, ew_add_put, ew_add_add, ew_add_push, ew_add_pop, ew_add_keep, ew_add_drop, en_add_keep, ei_add, ew_read_put, ew_read_add, ew_read_push, ew_read_pop, ew_read_keep, ew_read_drop, en_read_keep, ei_read, ew_push_put, ew_push_add, ew_push_push, ew_push_pop, ew_push_keep, ew_push_drop, en_push_keep, ei_push, ew_pop_put, ew_pop_add, ew_pop_push, ew_pop_pop, ew_pop_keep, ew_pop_drop, en_pop_keep, ei_pop, ew_keep_put, ew_keep_add, ew_keep_push, ew_keep_pop, ew_keep_keep, ew_keep_drop, en_keep_keep, ei_keep, ew_drop_put, ew_drop_add, ew_drop_push, ew_drop_pop, ew_drop_keep, ew_drop_drop, en_drop_keep, ei_drop, ew_has_put, ew_has_add, ew_has_push, ew_has_pop, ew_has_keep, ew_has_drop, en_has_keep, ei_has, ZD.run, mret, mretN, shV, vand, vor, vnot, fz, op1, op2, op2c, opv2, nm, nv, cst, odD, bnd, ZD.ret, ZD.fail, out, look, tst, mnot, mand, mor, mif, mifS, mseq, mnx, macons, manil, mtup, mlst, asgN, masg, slOf, asgT, tgtup, tgcons, tgnil, tgN, Vl.d, stepC, ZD.wp, wipeable, wipeE, restE, isPlain, mtrue, List.replicate, List.set, oTest, isiInt, isiBool, isiStr, isiTup, isiList, oLe, oLt, oGe, oGt, oOrd, oLen, oIx, gotD]⟩⟩
theorem same_get (i : Int) : Same (.str "cell") (.int i) (.tuple [.str "get"]) (.int i) (.int i) := ⟨⟨[.sh (.str "cell"), .sh (.int i), .sh (.tuple [.str "get"])], by simp [F_done, m_done, mcall, F_done_in_row, m_done_in_row, L2.atI, L2.ixN, oAdd, ek_cell_cell, ek_cell_count, ek_cell_bag, ek_cell_stack, ek_count_cell, ek_count_count, ek_count_bag, ek_count_stack, ek_stack_cell, ek_stack_count, ek_stack_bag, ek_stack_stack, ek_queue_cell, ek_queue_count, ek_queue_bag, ek_queue_stack, ek_bag_cell, ek_bag_count, ek_bag_bag, ek_bag_stack, ew_put_put, ew_put_add, ew_put_push, ew_put_pop, ew_put_keep, ew_put_drop, en_put_keep, ei_put, ew_get_put, ew_get_add, ew_get_push, ew_get_pop, ew_get_keep, ew_get_drop, en_get_keep, ei_get, ew_add_put, ew_add_add, ew_add_push, ew_add_pop, ew_add_keep, ew_add_drop, en_add_keep, ei_add, ew_read_put, ew_read_add, ew_read_push, ew_read_pop, ew_read_keep, ew_read_drop, en_read_keep, ei_read, ew_push_put, ew_push_add, ew_push_push, ew_push_pop, ew_push_keep, ew_push_drop, en_push_keep, ei_push, ew_pop_put, ew_pop_add, ew_pop_push, ew_pop_pop, ew_pop_keep, ew_pop_drop, en_pop_keep, ei_pop, ew_keep_put, ew_keep_add, ew_keep_push, ew_keep_pop, ew_keep_keep, ew_keep_drop, en_keep_keep, ei_keep, ew_drop_put, ew_drop_add, ew_drop_push, ew_drop_pop, ew_drop_keep, ew_drop_drop, en_drop_keep, ei_drop, ew_has_put, ew_has_add, ew_has_push, ew_has_pop, ew_has_keep, ew_has_drop, en_has_keep, ei_has, ZD.run, mret, mretN, shV, vand, vor, vnot, fz, op1, op2, op2c, opv2, nm, nv, cst, odD, bnd, ZD.ret, ZD.fail, out, look, tst, mnot, mand, mor, mif, mifS, mseq, mnx, macons, manil, mtup, mlst, asgN, masg, slOf, asgT, tgtup, tgcons, tgnil, tgN, Vl.d, stepC, ZD.wp, wipeable, wipeE, restE, isPlain, mtrue, List.replicate, List.set, oTest, isiInt, isiBool, isiStr, isiTup, isiList, oLe, oLt, oGe, oGt, oOrd, oLen, oIx, gotD]⟩, ⟨[.sh (.str "cell"), .sh (.int i), .sh (.tuple [.str "get"]), .sh (.str "get"), .no, .no, .no], by simp [F__law_done, m__law_done, L2.atI, L2.ixN, oAdd, ek_cell_cell, ek_cell_count, ek_cell_bag, ek_cell_stack, ek_count_cell, ek_count_count, ek_count_bag, ek_count_stack, ek_stack_cell, ek_stack_count, ek_stack_bag, ek_stack_stack, ek_queue_cell, ek_queue_count, ek_queue_bag, ek_queue_stack, ek_bag_cell, ek_bag_count, ek_bag_bag, ek_bag_stack, ew_put_put, ew_put_add, ew_put_push, ew_put_pop, ew_put_keep, ew_put_drop, en_put_keep, ei_put, ew_get_put, ew_get_add, ew_get_push, ew_get_pop, ew_get_keep, ew_get_drop, en_get_keep, ei_get, ew_add_put, ew_add_add, ew_add_push, ew_add_pop, ew_add_keep, ew_add_drop, en_add_keep, ei_add, ew_read_put, ew_read_add, ew_read_push, ew_read_pop, ew_read_keep, ew_read_drop, en_read_keep, ei_read, ew_push_put, ew_push_add, ew_push_push, ew_push_pop, ew_push_keep, ew_push_drop, en_push_keep, ei_push, ew_pop_put, ew_pop_add, ew_pop_push, ew_pop_pop, ew_pop_keep, ew_pop_drop, en_pop_keep, ei_pop, ew_keep_put, ew_keep_add, ew_keep_push, ew_keep_pop, ew_keep_keep, ew_keep_drop, en_keep_keep, ei_keep, ew_drop_put, ew_drop_add, ew_drop_push, ew_drop_pop, ew_drop_keep, ew_drop_drop, en_drop_keep, ei_drop, ew_has_put, ew_has_add, ew_has_push, ew_has_pop, ew_has_keep, ew_has_drop, en_has_keep, ei_has, ZD.run, mret, mretN, shV, vand, vor, vnot, fz, op1, op2, op2c, opv2, nm, nv, cst, odD, bnd, ZD.ret, ZD.fail, out, look, tst, mnot, mand, mor, mif, mifS, mseq, mnx, macons, manil, mtup, mlst, asgN, masg, slOf, asgT, tgtup, tgcons, tgnil, tgN, Vl.d, stepC, ZD.wp, wipeable, wipeE, restE, isPlain, mtrue, List.replicate, List.set, oTest, isiInt, isiBool, isiStr, isiTup, isiList, oLe, oLt, oGe, oGt, oOrd, oLen, oIx, gotD]⟩⟩
theorem same_add (i n : Int) : Same (.str "count") (.int i) (.tuple [.str "add", .int n]) (.int (i + n)) .none := ⟨⟨[.sh (.str "count"), .sh (.int i), .sh (.tuple [.str "add", .int n])], by simp [F_done, m_done, mcall, F_done_in_row, m_done_in_row, L2.atI, L2.ixN, oAdd, ek_cell_cell, ek_cell_count, ek_cell_bag, ek_cell_stack, ek_count_cell, ek_count_count, ek_count_bag, ek_count_stack, ek_stack_cell, ek_stack_count, ek_stack_bag, ek_stack_stack, ek_queue_cell, ek_queue_count, ek_queue_bag, ek_queue_stack, ek_bag_cell, ek_bag_count, ek_bag_bag, ek_bag_stack, ew_put_put, ew_put_add, ew_put_push, ew_put_pop, ew_put_keep, ew_put_drop, en_put_keep, ei_put, ew_get_put, ew_get_add, ew_get_push, ew_get_pop, ew_get_keep, ew_get_drop, en_get_keep, ei_get, ew_add_put, ew_add_add, ew_add_push, ew_add_pop, ew_add_keep, ew_add_drop, en_add_keep, ei_add, ew_read_put, ew_read_add, ew_read_push, ew_read_pop, ew_read_keep, ew_read_drop, en_read_keep, ei_read, ew_push_put, ew_push_add, ew_push_push, ew_push_pop, ew_push_keep, ew_push_drop, en_push_keep, ei_push, ew_pop_put, ew_pop_add, ew_pop_push, ew_pop_pop, ew_pop_keep, ew_pop_drop, en_pop_keep, ei_pop, ew_keep_put, ew_keep_add, ew_keep_push, ew_keep_pop, ew_keep_keep, ew_keep_drop, en_keep_keep, ei_keep, ew_drop_put, ew_drop_add, ew_drop_push, ew_drop_pop, ew_drop_keep, ew_drop_drop, en_drop_keep, ei_drop, ew_has_put, ew_has_add, ew_has_push, ew_has_pop, ew_has_keep, ew_has_drop, en_has_keep, ei_has, ZD.run, mret, mretN, shV, vand, vor, vnot, fz, op1, op2, op2c, opv2, nm, nv, cst, odD, bnd, ZD.ret, ZD.fail, out, look, tst, mnot, mand, mor, mif, mifS, mseq, mnx, macons, manil, mtup, mlst, asgN, masg, slOf, asgT, tgtup, tgcons, tgnil, tgN, Vl.d, stepC, ZD.wp, wipeable, wipeE, restE, isPlain, mtrue, List.replicate, List.set, oTest, isiInt, isiBool, isiStr, isiTup, isiList, oLe, oLt, oGe, oGt, oOrd, oLen, oIx, gotD]⟩, ⟨[.sh (.str "count"), .sh (.int i), .sh (.tuple [.str "add", .int n]), .sh (.str "add"), .no, .no, .no], by simp [F__law_done, m__law_done, L2.atI, L2.ixN, oAdd, ek_cell_cell, ek_cell_count, ek_cell_bag, ek_cell_stack, ek_count_cell, ek_count_count, ek_count_bag, ek_count_stack, ek_stack_cell, ek_stack_count, ek_stack_bag, ek_stack_stack, ek_queue_cell, ek_queue_count, ek_queue_bag, ek_queue_stack, ek_bag_cell, ek_bag_count, ek_bag_bag, ek_bag_stack, ew_put_put, ew_put_add, ew_put_push, ew_put_pop, ew_put_keep, ew_put_drop, en_put_keep, ei_put, ew_get_put, ew_get_add, ew_get_push, ew_get_pop, ew_get_keep, ew_get_drop, en_get_keep, ei_get, ew_add_put, ew_add_add, ew_add_push, ew_add_pop, ew_add_keep, ew_add_drop, en_add_keep, ei_add, ew_read_put, ew_read_add, ew_read_push, ew_read_pop, ew_read_keep, ew_read_drop, en_read_keep, ei_read, ew_push_put, ew_push_add, ew_push_push, ew_push_pop, ew_push_keep, ew_push_drop, en_push_keep, ei_push, ew_pop_put, ew_pop_add, ew_pop_push, ew_pop_pop, ew_pop_keep, ew_pop_drop, en_pop_keep, ei_pop, ew_keep_put, ew_keep_add, ew_keep_push, ew_keep_pop, ew_keep_keep, ew_keep_drop, en_keep_keep, ei_keep, ew_drop_put, ew_drop_add, ew_drop_push, ew_drop_pop, ew_drop_keep, ew_drop_drop, en_drop_keep, ei_drop, ew_has_put, ew_has_add, ew_has_push, ew_has_pop, ew_has_keep, ew_has_drop, en_has_keep, ei_has, ZD.run, mret, mretN, shV, vand, vor, vnot, fz, op1, op2, op2c, opv2, nm, nv, cst, odD, bnd, ZD.ret, ZD.fail, out, look, tst, mnot, mand, mor, mif, mifS, mseq, mnx, macons, manil, mtup, mlst, asgN, masg, slOf, asgT, tgtup, tgcons, tgnil, tgN, Vl.d, stepC, ZD.wp, wipeable, wipeE, restE, isPlain, mtrue, List.replicate, List.set, oTest, isiInt, isiBool, isiStr, isiTup, isiList, oLe, oLt, oGe, oGt, oOrd, oLen, oIx, gotD]⟩⟩
theorem same_read (i : Int) : Same (.str "count") (.int i) (.tuple [.str "read"]) (.int i) (.int i) := ⟨⟨[.sh (.str "count"), .sh (.int i), .sh (.tuple [.str "read"])], by simp [F_done, m_done, mcall, F_done_in_row, m_done_in_row, L2.atI, L2.ixN, oAdd, ek_cell_cell, ek_cell_count, ek_cell_bag, ek_cell_stack, ek_count_cell, ek_count_count, ek_count_bag, ek_count_stack, ek_stack_cell, ek_stack_count, ek_stack_bag, ek_stack_stack, ek_queue_cell, ek_queue_count, ek_queue_bag, ek_queue_stack, ek_bag_cell, ek_bag_count, ek_bag_bag, ek_bag_stack, ew_put_put, ew_put_add, ew_put_push, ew_put_pop, ew_put_keep, ew_put_drop, en_put_keep, ei_put, ew_get_put, ew_get_add, ew_get_push, ew_get_pop, ew_get_keep, ew_get_drop, en_get_keep, ei_get, ew_add_put, ew_add_add, ew_add_push, ew_add_pop, ew_add_keep, ew_add_drop, en_add_keep, ei_add, ew_read_put, ew_read_add, ew_read_push, ew_read_pop, ew_read_keep, ew_read_drop, en_read_keep, ei_read, ew_push_put, ew_push_add, ew_push_push, ew_push_pop, ew_push_keep, ew_push_drop, en_push_keep, ei_push, ew_pop_put, ew_pop_add, ew_pop_push, ew_pop_pop, ew_pop_keep, ew_pop_drop, en_pop_keep, ei_pop, ew_keep_put, ew_keep_add, ew_keep_push, ew_keep_pop, ew_keep_keep, ew_keep_drop, en_keep_keep, ei_keep, ew_drop_put, ew_drop_add, ew_drop_push, ew_drop_pop, ew_drop_keep, ew_drop_drop, en_drop_keep, ei_drop, ew_has_put, ew_has_add, ew_has_push, ew_has_pop, ew_has_keep, ew_has_drop, en_has_keep, ei_has, ZD.run, mret, mretN, shV, vand, vor, vnot, fz, op1, op2, op2c, opv2, nm, nv, cst, odD, bnd, ZD.ret, ZD.fail, out, look, tst, mnot, mand, mor, mif, mifS, mseq, mnx, macons, manil, mtup, mlst, asgN, masg, slOf, asgT, tgtup, tgcons, tgnil, tgN, Vl.d, stepC, ZD.wp, wipeable, wipeE, restE, isPlain, mtrue, List.replicate, List.set, oTest, isiInt, isiBool, isiStr, isiTup, isiList, oLe, oLt, oGe, oGt, oOrd, oLen, oIx, gotD]⟩, ⟨[.sh (.str "count"), .sh (.int i), .sh (.tuple [.str "read"]), .sh (.str "read"), .no, .no, .no], by simp [F__law_done, m__law_done, L2.atI, L2.ixN, oAdd, ek_cell_cell, ek_cell_count, ek_cell_bag, ek_cell_stack, ek_count_cell, ek_count_count, ek_count_bag, ek_count_stack, ek_stack_cell, ek_stack_count, ek_stack_bag, ek_stack_stack, ek_queue_cell, ek_queue_count, ek_queue_bag, ek_queue_stack, ek_bag_cell, ek_bag_count, ek_bag_bag, ek_bag_stack, ew_put_put, ew_put_add, ew_put_push, ew_put_pop, ew_put_keep, ew_put_drop, en_put_keep, ei_put, ew_get_put, ew_get_add, ew_get_push, ew_get_pop, ew_get_keep, ew_get_drop, en_get_keep, ei_get, ew_add_put, ew_add_add, ew_add_push, ew_add_pop, ew_add_keep, ew_add_drop, en_add_keep, ei_add, ew_read_put, ew_read_add, ew_read_push, ew_read_pop, ew_read_keep, ew_read_drop, en_read_keep, ei_read, ew_push_put, ew_push_add, ew_push_push, ew_push_pop, ew_push_keep, ew_push_drop, en_push_keep, ei_push, ew_pop_put, ew_pop_add, ew_pop_push, ew_pop_pop, ew_pop_keep, ew_pop_drop, en_pop_keep, ei_pop, ew_keep_put, ew_keep_add, ew_keep_push, ew_keep_pop, ew_keep_keep, ew_keep_drop, en_keep_keep, ei_keep, ew_drop_put, ew_drop_add, ew_drop_push, ew_drop_pop, ew_drop_keep, ew_drop_drop, en_drop_keep, ei_drop, ew_has_put, ew_has_add, ew_has_push, ew_has_pop, ew_has_keep, ew_has_drop, en_has_keep, ei_has, ZD.run, mret, mretN, shV, vand, vor, vnot, fz, op1, op2, op2c, opv2, nm, nv, cst, odD, bnd, ZD.ret, ZD.fail, out, look, tst, mnot, mand, mor, mif, mifS, mseq, mnx, macons, manil, mtup, mlst, asgN, masg, slOf, asgT, tgtup, tgcons, tgnil, tgN, Vl.d, stepC, ZD.wp, wipeable, wipeE, restE, isPlain, mtrue, List.replicate, List.set, oTest, isiInt, isiBool, isiStr, isiTup, isiList, oLe, oLt, oGe, oGt, oOrd, oLen, oIx, gotD]⟩⟩
theorem app_ints (ns : List Int) (n : Int) : ns.map PyData.int ++ [.int n] = (ns ++ [n]).map .int := by rw [List.map_append]; rfl
theorem same_push (k : Str) (hk : k = "stack" ∨ k = "queue") (ns : List Int) (n : Int) (hl : ns.length ≤ 1000) : Same (.str k) (.tuple (ns.map .int)) (.tuple [.str "push", .int n]) (.tuple ((ns ++ [n]).map .int)) .none := by
  have h1 : ns.length + 1 ≤ 1000000 := by omega
  have h2 : ns.length ≤ 999999 := by omega
  have e := app_ints ns n
  have row : F_done_in_row [.sh (.str k), .sh (.tuple (ns.map .int)), .sh (.tuple [.str "push", .int n])] = .ok (.sh (.tuple [.tuple (ns.map .int ++ [.int n]), .none])) [.sh (.str k), .sh (.tuple (ns.map .int)), .sh (.tuple [.str "push", .int n])] := by
    simp [F_done_in_row, m_done_in_row, L2.atI, L2.ixN, oAdd, h1, h2, ek_cell_cell, ek_cell_count, ek_cell_bag, ek_cell_stack, ek_count_cell, ek_count_count, ek_count_bag, ek_count_stack, ek_stack_cell, ek_stack_count, ek_stack_bag, ek_stack_stack, ek_queue_cell, ek_queue_count, ek_queue_bag, ek_queue_stack, ek_bag_cell, ek_bag_count, ek_bag_bag, ek_bag_stack, ew_put_put, ew_put_add, ew_put_push, ew_put_pop, ew_put_keep, ew_put_drop, en_put_keep, ei_put, ew_get_put, ew_get_add, ew_get_push, ew_get_pop, ew_get_keep, ew_get_drop, en_get_keep, ei_get, ew_add_put, ew_add_add, ew_add_push, ew_add_pop, ew_add_keep, ew_add_drop, en_add_keep, ei_add, ew_read_put, ew_read_add, ew_read_push, ew_read_pop, ew_read_keep, ew_read_drop, en_read_keep, ei_read, ew_push_put, ew_push_add, ew_push_push, ew_push_pop, ew_push_keep, ew_push_drop, en_push_keep, ei_push, ew_pop_put, ew_pop_add, ew_pop_push, ew_pop_pop, ew_pop_keep, ew_pop_drop, en_pop_keep, ei_pop, ew_keep_put, ew_keep_add, ew_keep_push, ew_keep_pop, ew_keep_keep, ew_keep_drop, en_keep_keep, ei_keep, ew_drop_put, ew_drop_add, ew_drop_push, ew_drop_pop, ew_drop_keep, ew_drop_drop, en_drop_keep, ei_drop, ew_has_put, ew_has_add, ew_has_push, ew_has_pop, ew_has_keep, ew_has_drop, en_has_keep, ei_has, ZD.run, mret, mretN, shV, vand, vor, vnot, fz, op1, op2, op2c, opv2, nm, nv, cst, odD, bnd, ZD.ret, ZD.fail, out, look, tst, mnot, mand, mor, mif, mifS, mseq, mnx, macons, manil, mtup, mlst, asgN, masg, slOf, asgT, tgtup, tgcons, tgnil, tgN, Vl.d, stepC, ZD.wp, wipeable, wipeE, restE, isPlain, mtrue, List.replicate, List.set, oTest, isiInt, isiBool, isiStr, isiTup, isiList, oLe, oLt, oGe, oGt, oOrd, oLen, oIx, gotD]
  rw [← e]
  refine ⟨⟨[.sh (.str k), .sh (.tuple (ns.map .int)), .sh (.tuple [.str "push", .int n])], ?_⟩, ⟨[.sh (.str k), .sh (.tuple (ns.map .int)), .sh (.tuple [.str "push", .int n]), .sh (.str "push"), .no, .no, .no], ?_⟩⟩
  · rcases hk with rfl | rfl <;> simp [F_done, m_done, mcall, row, ek_cell_cell, ek_cell_count, ek_cell_bag, ek_cell_stack, ek_count_cell, ek_count_count, ek_count_bag, ek_count_stack, ek_stack_cell, ek_stack_count, ek_stack_bag, ek_stack_stack, ek_queue_cell, ek_queue_count, ek_queue_bag, ek_queue_stack, ek_bag_cell, ek_bag_count, ek_bag_bag, ek_bag_stack, ew_put_put, ew_put_add, ew_put_push, ew_put_pop, ew_put_keep, ew_put_drop, en_put_keep, ei_put, ew_get_put, ew_get_add, ew_get_push, ew_get_pop, ew_get_keep, ew_get_drop, en_get_keep, ei_get, ew_add_put, ew_add_add, ew_add_push, ew_add_pop, ew_add_keep, ew_add_drop, en_add_keep, ei_add, ew_read_put, ew_read_add, ew_read_push, ew_read_pop, ew_read_keep, ew_read_drop, en_read_keep, ei_read, ew_push_put, ew_push_add, ew_push_push, ew_push_pop, ew_push_keep, ew_push_drop, en_push_keep, ei_push, ew_pop_put, ew_pop_add, ew_pop_push, ew_pop_pop, ew_pop_keep, ew_pop_drop, en_pop_keep, ei_pop, ew_keep_put, ew_keep_add, ew_keep_push, ew_keep_pop, ew_keep_keep, ew_keep_drop, en_keep_keep, ei_keep, ew_drop_put, ew_drop_add, ew_drop_push, ew_drop_pop, ew_drop_keep, ew_drop_drop, en_drop_keep, ei_drop, ew_has_put, ew_has_add, ew_has_push, ew_has_pop, ew_has_keep, ew_has_drop, en_has_keep, ei_has, ZD.run, mret, mretN, shV, vand, vor, vnot, fz, op1, op2, op2c, opv2, nm, nv, cst, odD, bnd, ZD.ret, ZD.fail, out, look, tst, mnot, mand, mor, mif, mifS, mseq, mnx, macons, manil, mtup, mlst, asgN, masg, slOf, asgT, tgtup, tgcons, tgnil, tgN, Vl.d, stepC, ZD.wp, wipeable, wipeE, restE, isPlain, mtrue, List.replicate, List.set, oTest, isiInt, isiBool, isiStr, isiTup, isiList, oLe, oLt, oGe, oGt, oOrd, oLen, oIx, gotD]
  · rcases hk with rfl | rfl <;> simp [F__law_done, m__law_done, L2.atI, L2.ixN, oAdd, h1, h2, ek_cell_cell, ek_cell_count, ek_cell_bag, ek_cell_stack, ek_count_cell, ek_count_count, ek_count_bag, ek_count_stack, ek_stack_cell, ek_stack_count, ek_stack_bag, ek_stack_stack, ek_queue_cell, ek_queue_count, ek_queue_bag, ek_queue_stack, ek_bag_cell, ek_bag_count, ek_bag_bag, ek_bag_stack, ew_put_put, ew_put_add, ew_put_push, ew_put_pop, ew_put_keep, ew_put_drop, en_put_keep, ei_put, ew_get_put, ew_get_add, ew_get_push, ew_get_pop, ew_get_keep, ew_get_drop, en_get_keep, ei_get, ew_add_put, ew_add_add, ew_add_push, ew_add_pop, ew_add_keep, ew_add_drop, en_add_keep, ei_add, ew_read_put, ew_read_add, ew_read_push, ew_read_pop, ew_read_keep, ew_read_drop, en_read_keep, ei_read, ew_push_put, ew_push_add, ew_push_push, ew_push_pop, ew_push_keep, ew_push_drop, en_push_keep, ei_push, ew_pop_put, ew_pop_add, ew_pop_push, ew_pop_pop, ew_pop_keep, ew_pop_drop, en_pop_keep, ei_pop, ew_keep_put, ew_keep_add, ew_keep_push, ew_keep_pop, ew_keep_keep, ew_keep_drop, en_keep_keep, ei_keep, ew_drop_put, ew_drop_add, ew_drop_push, ew_drop_pop, ew_drop_keep, ew_drop_drop, en_drop_keep, ei_drop, ew_has_put, ew_has_add, ew_has_push, ew_has_pop, ew_has_keep, ew_has_drop, en_has_keep, ei_has, ZD.run, mret, mretN, shV, vand, vor, vnot, fz, op1, op2, op2c, opv2, nm, nv, cst, odD, bnd, ZD.ret, ZD.fail, out, look, tst, mnot, mand, mor, mif, mifS, mseq, mnx, macons, manil, mtup, mlst, asgN, masg, slOf, asgT, tgtup, tgcons, tgnil, tgN, Vl.d, stepC, ZD.wp, wipeable, wipeE, restE, isPlain, mtrue, List.replicate, List.set, oTest, isiInt, isiBool, isiStr, isiTup, isiList, oLe, oLt, oGe, oGt, oOrd, oLen, oIx, gotD]
theorem eq0 : oEq (.tuple []) (.tuple []) = .d (.bool true) := eq_nil []
theorem ne0 : oNe (.tuple []) (.tuple []) = .d (.bool false) := ne_nil []
theorem same_pop0 (k : Str) (hk : k = "stack" ∨ k = "queue") : Same (.str k) (.tuple []) (.tuple [.str "pop"]) (.tuple []) .none := by
  rcases hk with rfl | rfl
  · exact ⟨⟨[.sh (.str "stack"), .sh (.tuple []), .sh (.tuple [.str "pop"])], by simp [F_done, m_done, mcall, F_done_in_row, m_done_in_row, L2.atI, L2.ixN, oAdd, eq0, ek_cell_cell, ek_cell_count, ek_cell_bag, ek_cell_stack, ek_count_cell, ek_count_count, ek_count_bag, ek_count_stack, ek_stack_cell, ek_stack_count, ek_stack_bag, ek_stack_stack, ek_queue_cell, ek_queue_count, ek_queue_bag, ek_queue_stack, ek_bag_cell, ek_bag_count, ek_bag_bag, ek_bag_stack, ew_put_put, ew_put_add, ew_put_push, ew_put_pop, ew_put_keep, ew_put_drop, en_put_keep, ei_put, ew_get_put, ew_get_add, ew_get_push, ew_get_pop, ew_get_keep, ew_get_drop, en_get_keep, ei_get, ew_add_put, ew_add_add, ew_add_push, ew_add_pop, ew_add_keep, ew_add_drop, en_add_keep, ei_add, ew_read_put, ew_read_add, ew_read_push, ew_read_pop, ew_read_keep, ew_read_drop, en_read_keep, ei_read, ew_push_put, ew_push_add, ew_push_push, ew_push_pop, ew_push_keep, ew_push_drop, en_push_keep, ei_push, ew_pop_put, ew_pop_add, ew_pop_push, ew_pop_pop, ew_pop_keep, ew_pop_drop, en_pop_keep, ei_pop, ew_keep_put, ew_keep_add, ew_keep_push, ew_keep_pop, ew_keep_keep, ew_keep_drop, en_keep_keep, ei_keep, ew_drop_put, ew_drop_add, ew_drop_push, ew_drop_pop, ew_drop_keep, ew_drop_drop, en_drop_keep, ei_drop, ew_has_put, ew_has_add, ew_has_push, ew_has_pop, ew_has_keep, ew_has_drop, en_has_keep, ei_has, ZD.run, mret, mretN, shV, vand, vor, vnot, fz, op1, op2, op2c, opv2, nm, nv, cst, odD, bnd, ZD.ret, ZD.fail, out, look, tst, mnot, mand, mor, mif, mifS, mseq, mnx, macons, manil, mtup, mlst, asgN, masg, slOf, asgT, tgtup, tgcons, tgnil, tgN, Vl.d, stepC, ZD.wp, wipeable, wipeE, restE, isPlain, mtrue, List.replicate, List.set, oTest, isiInt, isiBool, isiStr, isiTup, isiList, oLe, oLt, oGe, oGt, oOrd, oLen, oIx, gotD]⟩, ⟨[.sh (.str "stack"), .sh (.tuple []), .sh (.tuple [.str "pop"]), .sh (.str "pop"), .sh (.int (-1)), .no, .no], by simp [F__law_done, m__law_done, L2.atI, L2.ixN, oAdd, oSub, oInt, eq0, ne0, ek_cell_cell, ek_cell_count, ek_cell_bag, ek_cell_stack, ek_count_cell, ek_count_count, ek_count_bag, ek_count_stack, ek_stack_cell, ek_stack_count, ek_stack_bag, ek_stack_stack, ek_queue_cell, ek_queue_count, ek_queue_bag, ek_queue_stack, ek_bag_cell, ek_bag_count, ek_bag_bag, ek_bag_stack, ew_put_put, ew_put_add, ew_put_push, ew_put_pop, ew_put_keep, ew_put_drop, en_put_keep, ei_put, ew_get_put, ew_get_add, ew_get_push, ew_get_pop, ew_get_keep, ew_get_drop, en_get_keep, ei_get, ew_add_put, ew_add_add, ew_add_push, ew_add_pop, ew_add_keep, ew_add_drop, en_add_keep, ei_add, ew_read_put, ew_read_add, ew_read_push, ew_read_pop, ew_read_keep, ew_read_drop, en_read_keep, ei_read, ew_push_put, ew_push_add, ew_push_push, ew_push_pop, ew_push_keep, ew_push_drop, en_push_keep, ei_push, ew_pop_put, ew_pop_add, ew_pop_push, ew_pop_pop, ew_pop_keep, ew_pop_drop, en_pop_keep, ei_pop, ew_keep_put, ew_keep_add, ew_keep_push, ew_keep_pop, ew_keep_keep, ew_keep_drop, en_keep_keep, ei_keep, ew_drop_put, ew_drop_add, ew_drop_push, ew_drop_pop, ew_drop_keep, ew_drop_drop, en_drop_keep, ei_drop, ew_has_put, ew_has_add, ew_has_push, ew_has_pop, ew_has_keep, ew_has_drop, en_has_keep, ei_has, ZD.run, mret, mretN, shV, vand, vor, vnot, fz, op1, op2, op2c, opv2, nm, nv, cst, odD, bnd, ZD.ret, ZD.fail, out, look, tst, mnot, mand, mor, mif, mifS, mseq, mnx, macons, manil, mtup, mlst, asgN, masg, slOf, asgT, tgtup, tgcons, tgnil, tgN, Vl.d, stepC, ZD.wp, wipeable, wipeE, restE, isPlain, mtrue, List.replicate, List.set, oTest, isiInt, isiBool, isiStr, isiTup, isiList, oLe, oLt, oGe, oGt, oOrd, oLen, oIx, gotD]⟩⟩
  · exact ⟨⟨[.sh (.str "queue"), .sh (.tuple []), .sh (.tuple [.str "pop"])], by simp [F_done, m_done, mcall, F_done_in_row, m_done_in_row, L2.atI, L2.ixN, oAdd, eq0, ek_cell_cell, ek_cell_count, ek_cell_bag, ek_cell_stack, ek_count_cell, ek_count_count, ek_count_bag, ek_count_stack, ek_stack_cell, ek_stack_count, ek_stack_bag, ek_stack_stack, ek_queue_cell, ek_queue_count, ek_queue_bag, ek_queue_stack, ek_bag_cell, ek_bag_count, ek_bag_bag, ek_bag_stack, ew_put_put, ew_put_add, ew_put_push, ew_put_pop, ew_put_keep, ew_put_drop, en_put_keep, ei_put, ew_get_put, ew_get_add, ew_get_push, ew_get_pop, ew_get_keep, ew_get_drop, en_get_keep, ei_get, ew_add_put, ew_add_add, ew_add_push, ew_add_pop, ew_add_keep, ew_add_drop, en_add_keep, ei_add, ew_read_put, ew_read_add, ew_read_push, ew_read_pop, ew_read_keep, ew_read_drop, en_read_keep, ei_read, ew_push_put, ew_push_add, ew_push_push, ew_push_pop, ew_push_keep, ew_push_drop, en_push_keep, ei_push, ew_pop_put, ew_pop_add, ew_pop_push, ew_pop_pop, ew_pop_keep, ew_pop_drop, en_pop_keep, ei_pop, ew_keep_put, ew_keep_add, ew_keep_push, ew_keep_pop, ew_keep_keep, ew_keep_drop, en_keep_keep, ei_keep, ew_drop_put, ew_drop_add, ew_drop_push, ew_drop_pop, ew_drop_keep, ew_drop_drop, en_drop_keep, ei_drop, ew_has_put, ew_has_add, ew_has_push, ew_has_pop, ew_has_keep, ew_has_drop, en_has_keep, ei_has, ZD.run, mret, mretN, shV, vand, vor, vnot, fz, op1, op2, op2c, opv2, nm, nv, cst, odD, bnd, ZD.ret, ZD.fail, out, look, tst, mnot, mand, mor, mif, mifS, mseq, mnx, macons, manil, mtup, mlst, asgN, masg, slOf, asgT, tgtup, tgcons, tgnil, tgN, Vl.d, stepC, ZD.wp, wipeable, wipeE, restE, isPlain, mtrue, List.replicate, List.set, oTest, isiInt, isiBool, isiStr, isiTup, isiList, oLe, oLt, oGe, oGt, oOrd, oLen, oIx, gotD]⟩, ⟨[.sh (.str "queue"), .sh (.tuple []), .sh (.tuple [.str "pop"]), .sh (.str "pop"), .sh (.int 0), .no, .no], by simp [F__law_done, m__law_done, L2.atI, L2.ixN, oAdd, oSub, oInt, eq0, ne0, ek_cell_cell, ek_cell_count, ek_cell_bag, ek_cell_stack, ek_count_cell, ek_count_count, ek_count_bag, ek_count_stack, ek_stack_cell, ek_stack_count, ek_stack_bag, ek_stack_stack, ek_queue_cell, ek_queue_count, ek_queue_bag, ek_queue_stack, ek_bag_cell, ek_bag_count, ek_bag_bag, ek_bag_stack, ew_put_put, ew_put_add, ew_put_push, ew_put_pop, ew_put_keep, ew_put_drop, en_put_keep, ei_put, ew_get_put, ew_get_add, ew_get_push, ew_get_pop, ew_get_keep, ew_get_drop, en_get_keep, ei_get, ew_add_put, ew_add_add, ew_add_push, ew_add_pop, ew_add_keep, ew_add_drop, en_add_keep, ei_add, ew_read_put, ew_read_add, ew_read_push, ew_read_pop, ew_read_keep, ew_read_drop, en_read_keep, ei_read, ew_push_put, ew_push_add, ew_push_push, ew_push_pop, ew_push_keep, ew_push_drop, en_push_keep, ei_push, ew_pop_put, ew_pop_add, ew_pop_push, ew_pop_pop, ew_pop_keep, ew_pop_drop, en_pop_keep, ei_pop, ew_keep_put, ew_keep_add, ew_keep_push, ew_keep_pop, ew_keep_keep, ew_keep_drop, en_keep_keep, ei_keep, ew_drop_put, ew_drop_add, ew_drop_push, ew_drop_pop, ew_drop_keep, ew_drop_drop, en_drop_keep, ei_drop, ew_has_put, ew_has_add, ew_has_push, ew_has_pop, ew_has_keep, ew_has_drop, en_has_keep, ei_has, ZD.run, mret, mretN, shV, vand, vor, vnot, fz, op1, op2, op2c, opv2, nm, nv, cst, odD, bnd, ZD.ret, ZD.fail, out, look, tst, mnot, mand, mor, mif, mifS, mseq, mnx, macons, manil, mtup, mlst, asgN, masg, slOf, asgT, tgtup, tgcons, tgnil, tgN, Vl.d, stepC, ZD.wp, wipeable, wipeE, restE, isPlain, mtrue, List.replicate, List.set, oTest, isiInt, isiBool, isiStr, isiTup, isiList, oLe, oLt, oGe, oGt, oOrd, oLen, oIx, gotD]⟩⟩
theorem isE (ns : List Int) (h : ns ≠ []) : ns.isEmpty = false := by cases ns with | nil => exact absurd rfl h | cons _ _ => rfl
theorem same_stack (qs : List Int) (x : Int) (hl : qs.length ≤ 1000) : Same (.str "stack") (.tuple ((qs ++ [x]).map .int)) (.tuple [.str "pop"]) (.tuple (qs.map .int)) (.int x) := by
  have e : (qs ++ [x]).map PyData.int = qs.map .int ++ [.int x] := by rw [List.map_append]; rfl
  have hE : oEq (.tuple (qs.map .int ++ [.int x])) (.tuple []) = .d (.bool false) := by rw [← e, eq_nil]; cases qs <;> rfl
  have hN : oNe (.tuple (qs.map .int ++ [.int x])) (.tuple []) = .d (.bool true) := by rw [← e, ne_nil]; cases qs <;> rfl
  have c1 := (cut_lastA (qs.map PyData.int) (.int x))
  have la : L2.atI (qs.map PyData.int ++ [.int x]) (-1) = some (.int x) := L2.atI_last _ _
  have lb : L2.atI (qs.map PyData.int ++ [.int x]) (qs.length : Int) = some (.int x) := atI_of (by simp)
  have l1 : (qs.map PyData.int).length ≤ 1000000 := by rw [List.length_map]; omega
  have l2 : qs.length ≤ 1000000 := by omega
  obtain ⟨c1, c2, c3⟩ := c1
  rw [List.length_map] at c2 c3
  rw [e]
  have ei : ((qs.length : Int) + 1 - 1) = qs.length := by omega
  refine ⟨⟨[.sh (.str "stack"), .sh (.tuple (qs.map .int ++ [.int x])), .sh (.tuple [.str "pop"])], ?_⟩, ⟨[.sh (.str "stack"), .sh (.tuple (qs.map .int ++ [.int x])), .sh (.tuple [.str "pop"]), .sh (.str "pop"), .sh (.int qs.length), .no, .no], ?_⟩⟩
  · have row : F_done_in_row [.sh (.str "stack"), .sh (.tuple (qs.map .int ++ [.int x])), .sh (.tuple [.str "pop"])] = .ok (.sh (.tuple [.tuple (qs.map .int), .int x])) [.sh (.str "stack"), .sh (.tuple (qs.map .int ++ [.int x])), .sh (.tuple [.str "pop"])] := by
      have a0 : L2.atI [PyData.str "pop"] 0 = some (.str "pop") := rfl
      simp [F_done_in_row, m_done_in_row, a0, hE, la, c1, mslice, pno, pso, oSl, oI1, ek_cell_cell, ek_cell_count, ek_cell_bag, ek_cell_stack, ek_count_cell, ek_count_count, ek_count_bag, ek_count_stack, ek_stack_cell, ek_stack_count, ek_stack_bag, ek_stack_stack, ek_queue_cell, ek_queue_count, ek_queue_bag, ek_queue_stack, ek_bag_cell, ek_bag_count, ek_bag_bag, ek_bag_stack, ew_put_put, ew_put_add, ew_put_push, ew_put_pop, ew_put_keep, ew_put_drop, en_put_keep, ei_put, ew_get_put, ew_get_add, ew_get_push, ew_get_pop, ew_get_keep, ew_get_drop, en_get_keep, ei_get, ew_add_put, ew_add_add, ew_add_push, ew_add_pop, ew_add_keep, ew_add_drop, en_add_keep, ei_add, ew_read_put, ew_read_add, ew_read_push, ew_read_pop, ew_read_keep, ew_read_drop, en_read_keep, ei_read, ew_push_put, ew_push_add, ew_push_push, ew_push_pop, ew_push_keep, ew_push_drop, en_push_keep, ei_push, ew_pop_put, ew_pop_add, ew_pop_push, ew_pop_pop, ew_pop_keep, ew_pop_drop, en_pop_keep, ei_pop, ew_keep_put, ew_keep_add, ew_keep_push, ew_keep_pop, ew_keep_keep, ew_keep_drop, en_keep_keep, ei_keep, ew_drop_put, ew_drop_add, ew_drop_push, ew_drop_pop, ew_drop_keep, ew_drop_drop, en_drop_keep, ei_drop, ew_has_put, ew_has_add, ew_has_push, ew_has_pop, ew_has_keep, ew_has_drop, en_has_keep, ei_has, ZD.run, mret, mretN, shV, vand, vor, vnot, fz, op1, op2, op2c, opv2, nm, nv, cst, odD, bnd, ZD.ret, ZD.fail, out, look, tst, mnot, mand, mor, mif, mifS, mseq, mnx, macons, manil, mtup, mlst, asgN, masg, slOf, asgT, tgtup, tgcons, tgnil, tgN, Vl.d, stepC, ZD.wp, wipeable, wipeE, restE, isPlain, mtrue, List.replicate, List.set, oTest, isiInt, isiBool, isiStr, isiTup, isiList, oLe, oLt, oGe, oGt, oOrd, oLen, oIx, gotD]
    simp [F_done, m_done, mcall, row, ek_cell_cell, ek_cell_count, ek_cell_bag, ek_cell_stack, ek_count_cell, ek_count_count, ek_count_bag, ek_count_stack, ek_stack_cell, ek_stack_count, ek_stack_bag, ek_stack_stack, ek_queue_cell, ek_queue_count, ek_queue_bag, ek_queue_stack, ek_bag_cell, ek_bag_count, ek_bag_bag, ek_bag_stack, ew_put_put, ew_put_add, ew_put_push, ew_put_pop, ew_put_keep, ew_put_drop, en_put_keep, ei_put, ew_get_put, ew_get_add, ew_get_push, ew_get_pop, ew_get_keep, ew_get_drop, en_get_keep, ei_get, ew_add_put, ew_add_add, ew_add_push, ew_add_pop, ew_add_keep, ew_add_drop, en_add_keep, ei_add, ew_read_put, ew_read_add, ew_read_push, ew_read_pop, ew_read_keep, ew_read_drop, en_read_keep, ei_read, ew_push_put, ew_push_add, ew_push_push, ew_push_pop, ew_push_keep, ew_push_drop, en_push_keep, ei_push, ew_pop_put, ew_pop_add, ew_pop_push, ew_pop_pop, ew_pop_keep, ew_pop_drop, en_pop_keep, ei_pop, ew_keep_put, ew_keep_add, ew_keep_push, ew_keep_pop, ew_keep_keep, ew_keep_drop, en_keep_keep, ei_keep, ew_drop_put, ew_drop_add, ew_drop_push, ew_drop_pop, ew_drop_keep, ew_drop_drop, en_drop_keep, ei_drop, ew_has_put, ew_has_add, ew_has_push, ew_has_pop, ew_has_keep, ew_has_drop, en_has_keep, ei_has, ZD.run, mret, mretN, shV, vand, vor, vnot, fz, op1, op2, op2c, opv2, nm, nv, cst, odD, bnd, ZD.ret, ZD.fail, out, look, tst, mnot, mand, mor, mif, mifS, mseq, mnx, macons, manil, mtup, mlst, asgN, masg, slOf, asgT, tgtup, tgcons, tgnil, tgN, Vl.d, stepC, ZD.wp, wipeable, wipeE, restE, isPlain, mtrue, List.replicate, List.set, oTest, isiInt, isiBool, isiStr, isiTup, isiList, oLe, oLt, oGe, oGt, oOrd, oLen, oIx, gotD]
  · have a0 : L2.atI [PyData.str "pop"] 0 = some (.str "pop") := rfl
    simp [F__law_done, m__law_done, a0, hN, lb, c2, c3, ei, mslice, pno, pso, oSl, oSub, oInt, oAdd, l1, l2, ek_cell_cell, ek_cell_count, ek_cell_bag, ek_cell_stack, ek_count_cell, ek_count_count, ek_count_bag, ek_count_stack, ek_stack_cell, ek_stack_count, ek_stack_bag, ek_stack_stack, ek_queue_cell, ek_queue_count, ek_queue_bag, ek_queue_stack, ek_bag_cell, ek_bag_count, ek_bag_bag, ek_bag_stack, ew_put_put, ew_put_add, ew_put_push, ew_put_pop, ew_put_keep, ew_put_drop, en_put_keep, ei_put, ew_get_put, ew_get_add, ew_get_push, ew_get_pop, ew_get_keep, ew_get_drop, en_get_keep, ei_get, ew_add_put, ew_add_add, ew_add_push, ew_add_pop, ew_add_keep, ew_add_drop, en_add_keep, ei_add, ew_read_put, ew_read_add, ew_read_push, ew_read_pop, ew_read_keep, ew_read_drop, en_read_keep, ei_read, ew_push_put, ew_push_add, ew_push_push, ew_push_pop, ew_push_keep, ew_push_drop, en_push_keep, ei_push, ew_pop_put, ew_pop_add, ew_pop_push, ew_pop_pop, ew_pop_keep, ew_pop_drop, en_pop_keep, ei_pop, ew_keep_put, ew_keep_add, ew_keep_push, ew_keep_pop, ew_keep_keep, ew_keep_drop, en_keep_keep, ei_keep, ew_drop_put, ew_drop_add, ew_drop_push, ew_drop_pop, ew_drop_keep, ew_drop_drop, en_drop_keep, ei_drop, ew_has_put, ew_has_add, ew_has_push, ew_has_pop, ew_has_keep, ew_has_drop, en_has_keep, ei_has, ZD.run, mret, mretN, shV, vand, vor, vnot, fz, op1, op2, op2c, opv2, nm, nv, cst, odD, bnd, ZD.ret, ZD.fail, out, look, tst, mnot, mand, mor, mif, mifS, mseq, mnx, macons, manil, mtup, mlst, asgN, masg, slOf, asgT, tgtup, tgcons, tgnil, tgN, Vl.d, stepC, ZD.wp, wipeable, wipeE, restE, isPlain, mtrue, List.replicate, List.set, oTest, isiInt, isiBool, isiStr, isiTup, isiList, oLe, oLt, oGe, oGt, oOrd, oLen, oIx, gotD]
theorem same_queue (x : Int) (qs : List Int) (hl : qs.length ≤ 1000) : Same (.str "queue") (.tuple ((x :: qs).map .int)) (.tuple [.str "pop"]) (.tuple (qs.map .int)) (.int x) := by
  have e : (x :: qs).map PyData.int = .int x :: qs.map .int := rfl
  have hE : oEq (.tuple (.int x :: qs.map .int)) (.tuple []) = .d (.bool false) := eq_nil (x :: qs)
  have hN : oNe (.tuple (.int x :: qs.map .int)) (.tuple []) = .d (.bool true) := ne_nil (x :: qs)
  have la : L2.atI (.int x :: qs.map PyData.int) 0 = some (.int x) := atI_of (i := 0) rfl
  obtain ⟨c1, c2⟩ := cut_first (.int x) (qs.map .int)
  have l2 : qs.length ≤ 1000000 := by omega
  rw [e]
  have a0 : L2.atI [PyData.str "pop"] 0 = some (.str "pop") := rfl
  refine ⟨⟨[.sh (.str "queue"), .sh (.tuple (.int x :: qs.map .int)), .sh (.tuple [.str "pop"])], ?_⟩, ⟨[.sh (.str "queue"), .sh (.tuple (.int x :: qs.map .int)), .sh (.tuple [.str "pop"]), .sh (.str "pop"), .sh (.int 0), .no, .no], ?_⟩⟩
  · have row : F_done_in_row [.sh (.str "queue"), .sh (.tuple (.int x :: qs.map .int)), .sh (.tuple [.str "pop"])] = .ok (.sh (.tuple [.tuple (qs.map .int), .int x])) [.sh (.str "queue"), .sh (.tuple (.int x :: qs.map .int)), .sh (.tuple [.str "pop"])] := by
      simp [F_done_in_row, m_done_in_row, a0, hE, la, c1, mslice, pno, pso, oSl, oI1, ek_cell_cell, ek_cell_count, ek_cell_bag, ek_cell_stack, ek_count_cell, ek_count_count, ek_count_bag, ek_count_stack, ek_stack_cell, ek_stack_count, ek_stack_bag, ek_stack_stack, ek_queue_cell, ek_queue_count, ek_queue_bag, ek_queue_stack, ek_bag_cell, ek_bag_count, ek_bag_bag, ek_bag_stack, ew_put_put, ew_put_add, ew_put_push, ew_put_pop, ew_put_keep, ew_put_drop, en_put_keep, ei_put, ew_get_put, ew_get_add, ew_get_push, ew_get_pop, ew_get_keep, ew_get_drop, en_get_keep, ei_get, ew_add_put, ew_add_add, ew_add_push, ew_add_pop, ew_add_keep, ew_add_drop, en_add_keep, ei_add, ew_read_put, ew_read_add, ew_read_push, ew_read_pop, ew_read_keep, ew_read_drop, en_read_keep, ei_read, ew_push_put, ew_push_add, ew_push_push, ew_push_pop, ew_push_keep, ew_push_drop, en_push_keep, ei_push, ew_pop_put, ew_pop_add, ew_pop_push, ew_pop_pop, ew_pop_keep, ew_pop_drop, en_pop_keep, ei_pop, ew_keep_put, ew_keep_add, ew_keep_push, ew_keep_pop, ew_keep_keep, ew_keep_drop, en_keep_keep, ei_keep, ew_drop_put, ew_drop_add, ew_drop_push, ew_drop_pop, ew_drop_keep, ew_drop_drop, en_drop_keep, ei_drop, ew_has_put, ew_has_add, ew_has_push, ew_has_pop, ew_has_keep, ew_has_drop, en_has_keep, ei_has, ZD.run, mret, mretN, shV, vand, vor, vnot, fz, op1, op2, op2c, opv2, nm, nv, cst, odD, bnd, ZD.ret, ZD.fail, out, look, tst, mnot, mand, mor, mif, mifS, mseq, mnx, macons, manil, mtup, mlst, asgN, masg, slOf, asgT, tgtup, tgcons, tgnil, tgN, Vl.d, stepC, ZD.wp, wipeable, wipeE, restE, isPlain, mtrue, List.replicate, List.set, oTest, isiInt, isiBool, isiStr, isiTup, isiList, oLe, oLt, oGe, oGt, oOrd, oLen, oIx, gotD]
    simp [F_done, m_done, mcall, row, ek_cell_cell, ek_cell_count, ek_cell_bag, ek_cell_stack, ek_count_cell, ek_count_count, ek_count_bag, ek_count_stack, ek_stack_cell, ek_stack_count, ek_stack_bag, ek_stack_stack, ek_queue_cell, ek_queue_count, ek_queue_bag, ek_queue_stack, ek_bag_cell, ek_bag_count, ek_bag_bag, ek_bag_stack, ew_put_put, ew_put_add, ew_put_push, ew_put_pop, ew_put_keep, ew_put_drop, en_put_keep, ei_put, ew_get_put, ew_get_add, ew_get_push, ew_get_pop, ew_get_keep, ew_get_drop, en_get_keep, ei_get, ew_add_put, ew_add_add, ew_add_push, ew_add_pop, ew_add_keep, ew_add_drop, en_add_keep, ei_add, ew_read_put, ew_read_add, ew_read_push, ew_read_pop, ew_read_keep, ew_read_drop, en_read_keep, ei_read, ew_push_put, ew_push_add, ew_push_push, ew_push_pop, ew_push_keep, ew_push_drop, en_push_keep, ei_push, ew_pop_put, ew_pop_add, ew_pop_push, ew_pop_pop, ew_pop_keep, ew_pop_drop, en_pop_keep, ei_pop, ew_keep_put, ew_keep_add, ew_keep_push, ew_keep_pop, ew_keep_keep, ew_keep_drop, en_keep_keep, ei_keep, ew_drop_put, ew_drop_add, ew_drop_push, ew_drop_pop, ew_drop_keep, ew_drop_drop, en_drop_keep, ei_drop, ew_has_put, ew_has_add, ew_has_push, ew_has_pop, ew_has_keep, ew_has_drop, en_has_keep, ei_has, ZD.run, mret, mretN, shV, vand, vor, vnot, fz, op1, op2, op2c, opv2, nm, nv, cst, odD, bnd, ZD.ret, ZD.fail, out, look, tst, mnot, mand, mor, mif, mifS, mseq, mnx, macons, manil, mtup, mlst, asgN, masg, slOf, asgT, tgtup, tgcons, tgnil, tgN, Vl.d, stepC, ZD.wp, wipeable, wipeE, restE, isPlain, mtrue, List.replicate, List.set, oTest, isiInt, isiBool, isiStr, isiTup, isiList, oLe, oLt, oGe, oGt, oOrd, oLen, oIx, gotD]
  · simp [F__law_done, m__law_done, a0, hN, la, c1, c2, mslice, pno, pso, oSl, oSub, oInt, oAdd, l2, ek_cell_cell, ek_cell_count, ek_cell_bag, ek_cell_stack, ek_count_cell, ek_count_count, ek_count_bag, ek_count_stack, ek_stack_cell, ek_stack_count, ek_stack_bag, ek_stack_stack, ek_queue_cell, ek_queue_count, ek_queue_bag, ek_queue_stack, ek_bag_cell, ek_bag_count, ek_bag_bag, ek_bag_stack, ew_put_put, ew_put_add, ew_put_push, ew_put_pop, ew_put_keep, ew_put_drop, en_put_keep, ei_put, ew_get_put, ew_get_add, ew_get_push, ew_get_pop, ew_get_keep, ew_get_drop, en_get_keep, ei_get, ew_add_put, ew_add_add, ew_add_push, ew_add_pop, ew_add_keep, ew_add_drop, en_add_keep, ei_add, ew_read_put, ew_read_add, ew_read_push, ew_read_pop, ew_read_keep, ew_read_drop, en_read_keep, ei_read, ew_push_put, ew_push_add, ew_push_push, ew_push_pop, ew_push_keep, ew_push_drop, en_push_keep, ei_push, ew_pop_put, ew_pop_add, ew_pop_push, ew_pop_pop, ew_pop_keep, ew_pop_drop, en_pop_keep, ei_pop, ew_keep_put, ew_keep_add, ew_keep_push, ew_keep_pop, ew_keep_keep, ew_keep_drop, en_keep_keep, ei_keep, ew_drop_put, ew_drop_add, ew_drop_push, ew_drop_pop, ew_drop_keep, ew_drop_drop, en_drop_keep, ei_drop, ew_has_put, ew_has_add, ew_has_push, ew_has_pop, ew_has_keep, ew_has_drop, en_has_keep, ei_has, ZD.run, mret, mretN, shV, vand, vor, vnot, fz, op1, op2, op2c, opv2, nm, nv, cst, odD, bnd, ZD.ret, ZD.fail, out, look, tst, mnot, mand, mor, mif, mifS, mseq, mnx, macons, manil, mtup, mlst, asgN, masg, slOf, asgT, tgtup, tgcons, tgnil, tgN, Vl.d, stepC, ZD.wp, wipeable, wipeE, restE, isPlain, mtrue, List.replicate, List.set, oTest, isiInt, isiBool, isiStr, isiTup, isiList, oLe, oLt, oGe, oGt, oOrd, oLen, oIx, gotD]
end Q49

namespace Q49
open PySem ZD
/-! the bag -/
theorem in_ints (n : Int) (ns : List Int) : oIn false (.int n) (.tuple (ns.map .int)) = .d (.bool (decide (n ∈ ns))) := by
  have h1 : (ns.map PyData.int).all flatD = true := List.all_eq_true.mpr fun x hx => by obtain ⟨i, _, rfl⟩ := List.mem_map.mp hx; rfl
  have h2 : ((ns.map PyData.int).any fun y => PyData.eqv y (.int n)) = decide (n ∈ ns) := by
    clear h1
    induction ns with
    | nil => rfl
    | cons m ns ih =>
      rw [List.map_cons, List.any_cons, ih]
      have : PyData.eqv (.int m) (.int n) = (m == n) := by simp [PyData.eqv]
      rw [this]
      by_cases e : m = n
      · subst e; simp
      · have e2 : ¬ n = m := fun z => e z.symm
        simp [e, e2]
  simp only [oIn, inD, flatD, h1, h2, Bool.true_and, if_true, Bool.false_xor]
theorem ne_int (i n : Int) : oNe (.int i) (.int n) = .d (.bool (!(i == n))) := by
  unfold oNe
  rw [shaped_int, shaped_int]
  simp [PyData.eqv]
theorem fm_ne (n : Int) : ∀ ns : List Int, (ns.map PyData.int).filterMap (fun d => match d with | PyData.int i => (if i = n then none else some (PyData.int i)) | _ => none) = (ns.filter (fun i => !(i == n))).map PyData.int
  | [] => rfl
  | m :: ns => by
    rw [List.map_cons, List.filterMap_cons, fm_ne n ns, List.filter_cons]
    by_cases e : m = n
    · simp [e]
    · simp [e]
def sortI (ns : List Int) : List Int := ns.mergeSort fun a b => decide (a ≤ b)
theorem sort_ints (ns : List Int) : sortD (ns.map .int) = (sortI ns).map .int := by
  unfold sortD sortI
  rw [List.map_mergeSort]
  intro a _ b _
  have e := congrFun (congrFun (PySem.W.dataLe_int fun x : Int => x) a) b
  exact e.symm
theorem sok_ints (ns : List Int) (h : ns.length ≤ 1000000) : sortOk (ns.map .int) = true := by
  unfold sortOk
  simp only [Bool.and_eq_true, Bool.or_eq_true, List.all_eq_true, decide_eq_true_eq]
  refine ⟨⟨⟨fun x hx y hy => ?_, .inr fun x hx => ?_⟩, fun x hx => ?_⟩, by rw [List.length_map]; exact h⟩
  · obtain ⟨i, _, rfl⟩ := List.mem_map.mp hx
    obtain ⟨j, _, rfl⟩ := List.mem_map.mp hy
    simp [PySem.W.alike]
  · obtain ⟨i, _, rfl⟩ := List.mem_map.mp hx
    rfl
  · obtain ⟨i, _, rfl⟩ := List.mem_map.mp hx
    simp [PyData.depth]
theorem sortI_perm (ns : List Int) : (sortI ns).Perm ns := List.mergeSort_perm _ _
theorem sortI_sorted (ns : List Int) : (sortI ns).Pairwise (fun a b => a ≤ b) := by
  have h := List.pairwise_mergeSort (le := fun a b : Int => decide (a ≤ b)) (fun a b c h1 h2 => by simp at h1 h2 ⊢; omega) (fun a b => by simp; omega) ns
  exact h.imp fun h => of_decide_eq_true h
theorem lt_le {ns : List Int} (h : ns.Pairwise (· < ·)) : ns.Pairwise (fun a b => a ≤ b) := h.imp fun h => Int.le_of_lt h
theorem lt_nodup {ns : List Int} (h : ns.Pairwise (· < ·)) : ns.Nodup := h.imp fun h => Int.ne_of_lt h
theorem le_lt : ∀ {ns : List Int}, ns.Pairwise (fun a b => a ≤ b) → ns.Nodup → ns.Pairwise (· < ·)
  | [], _, _ => .nil
  | n :: ns, h, d => by
    rw [List.pairwise_cons] at h
    rw [List.nodup_cons] at d
    exact List.pairwise_cons.mpr ⟨fun b hb => by
      have h1 := h.1 b hb
      have h2 : n ≠ b := fun e => d.1 (e ▸ hb)
      omega, le_lt h.2 d.2⟩
/-- with n put in -/
theorem put_new {ns : List Int} {n : Int} (h : ns.Pairwise (· < ·)) (hn : n ∉ ns) : (sortI (ns ++ [n])).Pairwise (· < ·) := by
  refine le_lt (sortI_sorted _) ((sortI_perm _).nodup_iff.mpr ?_)
  rw [List.nodup_append]
  exact ⟨lt_nodup h, by simp, fun a ha b hb e => by
    have : b = n := by simpa using hb
    exact hn (by rw [← this, ← e]; exact ha)⟩
theorem put_old {ns : List Int} {n : Int} (h : ns.Pairwise (· < ·)) (hn : n ∈ ns) : sortI (ns.filter (fun i => !(i == n)) ++ [n]) = ns := by
  refine List.Perm.eq_of_pairwise (le := fun a b => a ≤ b) (fun a b _ _ h1 h2 => Int.le_antisymm h1 h2) (sortI_sorted _) (lt_le h) ((sortI_perm _).trans ?_)
  have e1 : (ns.filter (fun i => !(i == n)) ++ [n]).Perm (ns.erase n ++ [n]) := by
    rw [(lt_nodup h).erase_eq_filter]
    refine List.Perm.append_right _ ?_
    have : (fun i : Int => !(i == n)) = fun x => x != n := by funext i; rfl
    rw [this]
  exact e1.trans (List.perm_append_comm.trans (List.perm_cons_erase hn).symm)
theorem filt_not {ns : List Int} {n : Int} (hn : n ∉ ns) : ns.filter (fun i => !(i == n)) = ns := List.filter_eq_self.mpr fun a ha => by
  have : a ≠ n := fun e => hn (e ▸ ha)
  simp [this]
section
variable {ns : List Int} {n : Int} {w : Str}
theorem c1b {s_ : PyData} (s4 s5 : Sl) (h : ns.length ≤ 1000) : c1_done_in_bag [.sh (.tuple (ns.map .int)), .sh (.tuple [.str w, .int n]), .sh (.str w), .sh (.int n), .sh s_, .no] = .ok (.ow (.list ((ns.filter (fun i => !(i == n))).map .int))) [.sh (.tuple (ns.map .int)), .sh (.tuple [.str w, .int n]), .sh (.str w), .sh (.int n), .sh s_, .no] :=
  allV_eq (wp_mcomp ⟨ns.map .int, [.sh (.tuple (ns.map .int)), .sh (.tuple [.str w, .int n]), .sh (.str w), .sh (.int n), .sh s_, .no], by simp [seqM, ZD.run, mret, mretN, shV, vand, vor, vnot, fz, op1, op2, op2c, opv2, nm, nv, cst, odD, bnd, ZD.ret, ZD.fail, out, look, tst, mnot, mand, mor, mif, mifS, mseq, mnx, macons, manil, mtup, mlst, asgN, masg, slOf, asgT, tgtup, tgcons, tgnil, tgN, Vl.d, stepC, ZD.wp, wipeable, wipeE, restE, isPlain, mtrue, List.replicate, List.set, oTest, isiInt, isiBool, isiStr, isiTup, isiList, oLe, oLt, oGe, oGt, oOrd, oLen, oIx, gotD], by rw [List.length_map]; omega, by simp [ZD.run, mret, mretN, shV, vand, vor, vnot, fz, op1, op2, op2c, opv2, nm, nv, cst, odD, bnd, ZD.ret, ZD.fail, out, look, tst, mnot, mand, mor, mif, mifS, mseq, mnx, macons, manil, mtup, mlst, asgN, masg, slOf, asgT, tgtup, tgcons, tgnil, tgN, Vl.d, stepC, ZD.wp, wipeable, wipeE, restE, isPlain, mtrue, List.replicate, List.set, oTest, isiInt, isiBool, isiStr, isiTup, isiList, oLe, oLt, oGe, oGt, oOrd, oLen, oIx, gotD], fun d => match d with | PyData.int i => (if i = n then none else some (PyData.int i)) | _ => none, fun d hd => by
    obtain ⟨i, _, rfl⟩ := List.mem_map.mp hd
    by_cases e : i = n <;> simp [e, ne_int, ZD.run, mret, mretN, shV, vand, vor, vnot, fz, op1, op2, op2c, opv2, nm, nv, cst, odD, bnd, ZD.ret, ZD.fail, out, look, tst, mnot, mand, mor, mif, mifS, mseq, mnx, macons, manil, mtup, mlst, asgN, masg, slOf, asgT, tgtup, tgcons, tgnil, tgN, Vl.d, stepC, ZD.wp, wipeable, wipeE, restE, isPlain, mtrue, List.replicate, List.set, oTest, isiInt, isiBool, isiStr, isiTup, isiList, oLe, oLt, oGe, oGt, oOrd, oLen, oIx, gotD], by rw [fm_ne], by simp [ZD.run, mret, mretN, shV, vand, vor, vnot, fz, op1, op2, op2c, opv2, nm, nv, cst, odD, bnd, ZD.ret, ZD.fail, out, look, tst, mnot, mand, mor, mif, mifS, mseq, mnx, macons, manil, mtup, mlst, asgN, masg, slOf, asgT, tgtup, tgcons, tgnil, tgN, Vl.d, stepC, ZD.wp, wipeable, wipeE, restE, isPlain, mtrue, List.replicate, List.set, oTest, isiInt, isiBool, isiStr, isiTup, isiList, oLe, oLt, oGe, oGt, oOrd, oLen, oIx, gotD]⟩)
theorem c1l {s_ : PyData} (s5 : Sl) (h : ns.length ≤ 1000) : c1__law_done [.sh (.str "bag"), .sh (.tuple (ns.map .int)), .sh (.tuple [.str w, .int n]), .sh (.str w), .no, .sh s_, .no] = .ok (.ow (.list ((ns.filter (fun i => !(i == n))).map .int))) [.sh (.str "bag"), .sh (.tuple (ns.map .int)), .sh (.tuple [.str w, .int n]), .sh (.str w), .no, .sh s_, .no] :=
  allV_eq (wp_mcomp ⟨ns.map .int, [.sh (.str "bag"), .sh (.tuple (ns.map .int)), .sh (.tuple [.str w, .int n]), .sh (.str w), .no, .sh s_, .no], by simp [seqM, ZD.run, mret, mretN, shV, vand, vor, vnot, fz, op1, op2, op2c, opv2, nm, nv, cst, odD, bnd, ZD.ret, ZD.fail, out, look, tst, mnot, mand, mor, mif, mifS, mseq, mnx, macons, manil, mtup, mlst, asgN, masg, slOf, asgT, tgtup, tgcons, tgnil, tgN, Vl.d, stepC, ZD.wp, wipeable, wipeE, restE, isPlain, mtrue, List.replicate, List.set, oTest, isiInt, isiBool, isiStr, isiTup, isiList, oLe, oLt, oGe, oGt, oOrd, oLen, oIx, gotD], by rw [List.length_map]; omega, by simp [ZD.run, mret, mretN, shV, vand, vor, vnot, fz, op1, op2, op2c, opv2, nm, nv, cst, odD, bnd, ZD.ret, ZD.fail, out, look, tst, mnot, mand, mor, mif, mifS, mseq, mnx, macons, manil, mtup, mlst, asgN, masg, slOf, asgT, tgtup, tgcons, tgnil, tgN, Vl.d, stepC, ZD.wp, wipeable, wipeE, restE, isPlain, mtrue, List.replicate, List.set, oTest, isiInt, isiBool, isiStr, isiTup, isiList, oLe, oLt, oGe, oGt, oOrd, oLen, oIx, gotD], fun d => match d with | PyData.int i => (if i = n then none else some (PyData.int i)) | _ => none, fun d hd => by
    obtain ⟨i, _, rfl⟩ := List.mem_map.mp hd
    by_cases e : i = n <;> simp [e, ne_int, L2.atI, L2.ixN, ZD.run, mret, mretN, shV, vand, vor, vnot, fz, op1, op2, op2c, opv2, nm, nv, cst, odD, bnd, ZD.ret, ZD.fail, out, look, tst, mnot, mand, mor, mif, mifS, mseq, mnx, macons, manil, mtup, mlst, asgN, masg, slOf, asgT, tgtup, tgcons, tgnil, tgN, Vl.d, stepC, ZD.wp, wipeable, wipeE, restE, isPlain, mtrue, List.replicate, List.set, oTest, isiInt, isiBool, isiStr, isiTup, isiList, oLe, oLt, oGe, oGt, oOrd, oLen, oIx, gotD], by rw [fm_ne], by simp [ZD.run, mret, mretN, shV, vand, vor, vnot, fz, op1, op2, op2c, opv2, nm, nv, cst, odD, bnd, ZD.ret, ZD.fail, out, look, tst, mnot, mand, mor, mif, mifS, mseq, mnx, macons, manil, mtup, mlst, asgN, masg, slOf, asgT, tgtup, tgcons, tgnil, tgN, Vl.d, stepC, ZD.wp, wipeable, wipeE, restE, isPlain, mtrue, List.replicate, List.set, oTest, isiInt, isiBool, isiStr, isiTup, isiList, oLe, oLt, oGe, oGt, oOrd, oLen, oIx, gotD]⟩)
theorem c2l {s_ : PyData} (s5 : Sl) (h : ns.length ≤ 1000) : c2__law_done [.sh (.str "bag"), .sh (.tuple (ns.map .int)), .sh (.tuple [.str w, .int n]), .sh (.str w), .no, .sh s_, .no] = .ok (.ow (.list ((ns.filter (fun i => !(i == n))).map .int))) [.sh (.str "bag"), .sh (.tuple (ns.map .int)), .sh (.tuple [.str w, .int n]), .sh (.str w), .no, .sh s_, .no] := c1l s5 h
end
/-- the bag's results -/
theorem same_bag (ns : List Int) (n : Int) (w : Str) (hw : w = "keep" ∨ w = "drop" ∨ w = "has") (hs : ns.Pairwise (· < ·)) (hl : ns.length ≤ 1000) :
    ∃ (ms : List Int) (b : Bool), Same (.str "bag") (.tuple (ns.map .int)) (.tuple [.str w, .int n]) (.tuple (ms.map .int)) (.bool b) ∧ ms.Pairwise (· < ·) ∧ ms.length ≤ ns.length + 1 := by
  have h1 : ns.length + 1 ≤ 1000000 := by omega
  have h2 : ns.length ≤ 999999 := by omega
  have ap := app_ints ns n
  have so := sok_ints (ns ++ [n]) (by simp; omega)
  rw [← ap] at so
  have sd := sort_ints (ns ++ [n])
  rw [← ap] at sd
  have ap2 := app_ints (ns.filter (fun i => !(i == n))) n
  have fl : (ns.filter (fun i => !(i == n))).length ≤ ns.length := List.length_filter_le _ _
  have so2 := sok_ints (ns.filter (fun i => !(i == n)) ++ [n]) (by simp; omega)
  rw [← ap2] at so2
  have sd2 := sort_ints (ns.filter (fun i => !(i == n)) ++ [n])
  rw [← ap2] at sd2
  have fl1 : (ns.filter (fun i => !(i == n))).length + 1 ≤ 1000000 := by omega
  have fl2 : (ns.filter (fun i => !(i == n))).length ≤ 999999 := by omega
  have a0 : L2.atI [PyData.str w, .int n] 0 = some (.str w) := rfl
  have a1 : L2.atI [PyData.str w, .int n] 1 = some (.int n) := rfl
  have fdone : ∀ x : PyData, F_done_in_bag [.sh (.tuple (ns.map .int)), .sh (.tuple [.str w, .int n])] = .ok (.sh x) [.sh (.tuple (ns.map .int)), .sh (.tuple [.str w, .int n]), .sh (.str w), .sh (.int n), .sh (.bool (decide (n ∈ ns))), .no] → F_done [.sh (.str "bag"), .sh (.tuple (ns.map .int)), .sh (.tuple [.str w, .int n])] = .ok (.sh x) [.sh (.str "bag"), .sh (.tuple (ns.map .int)), .sh (.tuple [.str w, .int n])] := fun x hx => by
    simp [F_done, m_done, mcall, hx, ek_cell_cell, ek_cell_count, ek_cell_bag, ek_cell_stack, ek_count_cell, ek_count_count, ek_count_bag, ek_count_stack, ek_stack_cell, ek_stack_count, ek_stack_bag, ek_stack_stack, ek_queue_cell, ek_queue_count, ek_queue_bag, ek_queue_stack, ek_bag_cell, ek_bag_count, ek_bag_bag, ek_bag_stack, ew_put_put, ew_put_add, ew_put_push, ew_put_pop, ew_put_keep, ew_put_drop, en_put_keep, ei_put, ew_get_put, ew_get_add, ew_get_push, ew_get_pop, ew_get_keep, ew_get_drop, en_get_keep, ei_get, ew_add_put, ew_add_add, ew_add_push, ew_add_pop, ew_add_keep, ew_add_drop, en_add_keep, ei_add, ew_read_put, ew_read_add, ew_read_push, ew_read_pop, ew_read_keep, ew_read_drop, en_read_keep, ei_read, ew_push_put, ew_push_add, ew_push_push, ew_push_pop, ew_push_keep, ew_push_drop, en_push_keep, ei_push, ew_pop_put, ew_pop_add, ew_pop_push, ew_pop_pop, ew_pop_keep, ew_pop_drop, en_pop_keep, ei_pop, ew_keep_put, ew_keep_add, ew_keep_push, ew_keep_pop, ew_keep_keep, ew_keep_drop, en_keep_keep, ei_keep, ew_drop_put, ew_drop_add, ew_drop_push, ew_drop_pop, ew_drop_keep, ew_drop_drop, en_drop_keep, ei_drop, ew_has_put, ew_has_add, ew_has_push, ew_has_pop, ew_has_keep, ew_has_drop, en_has_keep, ei_has, ZD.run, mret, mretN, shV, vand, vor, vnot, fz, op1, op2, op2c, opv2, nm, nv, cst, odD, bnd, ZD.ret, ZD.fail, out, look, tst, mnot, mand, mor, mif, mifS, mseq, mnx, macons, manil, mtup, mlst, asgN, masg, slOf, asgT, tgtup, tgcons, tgnil, tgN, Vl.d, stepC, ZD.wp, wipeable, wipeE, restE, isPlain, mtrue, List.replicate, List.set, oTest, isiInt, isiBool, isiStr, isiTup, isiList, oLe, oLt, oGe, oGt, oOrd, oLen, oIx, gotD]
  by_cases hn : n ∈ ns
  · have it : oIn false (.int n) (.tuple (ns.map .int)) = .d (.bool true) := by rw [in_ints, decide_eq_true hn]
    rw [decide_eq_true hn] at fdone
    have hold := put_old hs hn
    rcases hw with rfl | rfl | rfl
    · refine ⟨ns, false, ⟨⟨_, fdone _ ?_⟩, ⟨[.sh (.str "bag"), .sh (.tuple (ns.map .int)), .sh (.tuple [.str "keep", .int n]), .sh (.str "keep"), .no, .sh (.bool true), .no], ?_⟩⟩, hs, by omega⟩
      · simp [F_done_in_bag, m_done_in_bag, it, ek_cell_cell, ek_cell_count, ek_cell_bag, ek_cell_stack, ek_count_cell, ek_count_count, ek_count_bag, ek_count_stack, ek_stack_cell, ek_stack_count, ek_stack_bag, ek_stack_stack, ek_queue_cell, ek_queue_count, ek_queue_bag, ek_queue_stack, ek_bag_cell, ek_bag_count, ek_bag_bag, ek_bag_stack, ew_put_put, ew_put_add, ew_put_push, ew_put_pop, ew_put_keep, ew_put_drop, en_put_keep, ei_put, ew_get_put, ew_get_add, ew_get_push, ew_get_pop, ew_get_keep, ew_get_drop, en_get_keep, ei_get, ew_add_put, ew_add_add, ew_add_push, ew_add_pop, ew_add_keep, ew_add_drop, en_add_keep, ei_add, ew_read_put, ew_read_add, ew_read_push, ew_read_pop, ew_read_keep, ew_read_drop, en_read_keep, ei_read, ew_push_put, ew_push_add, ew_push_push, ew_push_pop, ew_push_keep, ew_push_drop, en_push_keep, ei_push, ew_pop_put, ew_pop_add, ew_pop_push, ew_pop_pop, ew_pop_keep, ew_pop_drop, en_pop_keep, ei_pop, ew_keep_put, ew_keep_add, ew_keep_push, ew_keep_pop, ew_keep_keep, ew_keep_drop, en_keep_keep, ei_keep, ew_drop_put, ew_drop_add, ew_drop_push, ew_drop_pop, ew_drop_keep, ew_drop_drop, en_drop_keep, ei_drop, ew_has_put, ew_has_add, ew_has_push, ew_has_pop, ew_has_keep, ew_has_drop, en_has_keep, ei_has, ZD.run, mret, mretN, shV, vand, vor, vnot, fz, op1, op2, op2c, opv2, nm, nv, cst, odD, bnd, ZD.ret, ZD.fail, out, look, tst, mnot, mand, mor, mif, mifS, mseq, mnx, macons, manil, mtup, mlst, asgN, masg, slOf, asgT, tgtup, tgcons, tgnil, tgN, Vl.d, stepC, ZD.wp, wipeable, wipeE, restE, isPlain, mtrue, List.replicate, List.set, oTest, isiInt, isiBool, isiStr, isiTup, isiList, oLe, oLt, oGe, oGt, oOrd, oLen, oIx, gotD]
      · have c := c1l (ns := ns) (n := n) (w := "keep") (s_ := .bool true) .no hl
        simp [F__law_done, m__law_done, a0, a1, it, c, oAdd, oSorted, oTuple, fl1, fl2, so2, sd2, hold, ek_cell_cell, ek_cell_count, ek_cell_bag, ek_cell_stack, ek_count_cell, ek_count_count, ek_count_bag, ek_count_stack, ek_stack_cell, ek_stack_count, ek_stack_bag, ek_stack_stack, ek_queue_cell, ek_queue_count, ek_queue_bag, ek_queue_stack, ek_bag_cell, ek_bag_count, ek_bag_bag, ek_bag_stack, ew_put_put, ew_put_add, ew_put_push, ew_put_pop, ew_put_keep, ew_put_drop, en_put_keep, ei_put, ew_get_put, ew_get_add, ew_get_push, ew_get_pop, ew_get_keep, ew_get_drop, en_get_keep, ei_get, ew_add_put, ew_add_add, ew_add_push, ew_add_pop, ew_add_keep, ew_add_drop, en_add_keep, ei_add, ew_read_put, ew_read_add, ew_read_push, ew_read_pop, ew_read_keep, ew_read_drop, en_read_keep, ei_read, ew_push_put, ew_push_add, ew_push_push, ew_push_pop, ew_push_keep, ew_push_drop, en_push_keep, ei_push, ew_pop_put, ew_pop_add, ew_pop_push, ew_pop_pop, ew_pop_keep, ew_pop_drop, en_pop_keep, ei_pop, ew_keep_put, ew_keep_add, ew_keep_push, ew_keep_pop, ew_keep_keep, ew_keep_drop, en_keep_keep, ei_keep, ew_drop_put, ew_drop_add, ew_drop_push, ew_drop_pop, ew_drop_keep, ew_drop_drop, en_drop_keep, ei_drop, ew_has_put, ew_has_add, ew_has_push, ew_has_pop, ew_has_keep, ew_has_drop, en_has_keep, ei_has, ZD.run, mret, mretN, shV, vand, vor, vnot, fz, op1, op2, op2c, opv2, nm, nv, cst, odD, bnd, ZD.ret, ZD.fail, out, look, tst, mnot, mand, mor, mif, mifS, mseq, mnx, macons, manil, mtup, mlst, asgN, masg, slOf, asgT, tgtup, tgcons, tgnil, tgN, Vl.d, stepC, ZD.wp, wipeable, wipeE, restE, isPlain, mtrue, List.replicate, List.set, oTest, isiInt, isiBool, isiStr, isiTup, isiList, oLe, oLt, oGe, oGt, oOrd, oLen, oIx, gotD]
    · refine ⟨ns.filter (fun i => !(i == n)), true, ⟨⟨_, fdone _ ?_⟩, ⟨[.sh (.str "bag"), .sh (.tuple (ns.map .int)), .sh (.tuple [.str "drop", .int n]), .sh (.str "drop"), .no, .sh (.bool true), .no], ?_⟩⟩, hs.filter _, by omega⟩
      · have c := c1b (ns := ns) (n := n) (w := "drop") (s_ := .bool true) .no .no hl
        simp [F_done_in_bag, m_done_in_bag, it, c, oTuple, ek_cell_cell, ek_cell_count, ek_cell_bag, ek_cell_stack, ek_count_cell, ek_count_count, ek_count_bag, ek_count_stack, ek_stack_cell, ek_stack_count, ek_stack_bag, ek_stack_stack, ek_queue_cell, ek_queue_count, ek_queue_bag, ek_queue_stack, ek_bag_cell, ek_bag_count, ek_bag_bag, ek_bag_stack, ew_put_put, ew_put_add, ew_put_push, ew_put_pop, ew_put_keep, ew_put_drop, en_put_keep, ei_put, ew_get_put, ew_get_add, ew_get_push, ew_get_pop, ew_get_keep, ew_get_drop, en_get_keep, ei_get, ew_add_put, ew_add_add, ew_add_push, ew_add_pop, ew_add_keep, ew_add_drop, en_add_keep, ei_add, ew_read_put, ew_read_add, ew_read_push, ew_read_pop, ew_read_keep, ew_read_drop, en_read_keep, ei_read, ew_push_put, ew_push_add, ew_push_push, ew_push_pop, ew_push_keep, ew_push_drop, en_push_keep, ei_push, ew_pop_put, ew_pop_add, ew_pop_push, ew_pop_pop, ew_pop_keep, ew_pop_drop, en_pop_keep, ei_pop, ew_keep_put, ew_keep_add, ew_keep_push, ew_keep_pop, ew_keep_keep, ew_keep_drop, en_keep_keep, ei_keep, ew_drop_put, ew_drop_add, ew_drop_push, ew_drop_pop, ew_drop_keep, ew_drop_drop, en_drop_keep, ei_drop, ew_has_put, ew_has_add, ew_has_push, ew_has_pop, ew_has_keep, ew_has_drop, en_has_keep, ei_has, ZD.run, mret, mretN, shV, vand, vor, vnot, fz, op1, op2, op2c, opv2, nm, nv, cst, odD, bnd, ZD.ret, ZD.fail, out, look, tst, mnot, mand, mor, mif, mifS, mseq, mnx, macons, manil, mtup, mlst, asgN, masg, slOf, asgT, tgtup, tgcons, tgnil, tgN, Vl.d, stepC, ZD.wp, wipeable, wipeE, restE, isPlain, mtrue, List.replicate, List.set, oTest, isiInt, isiBool, isiStr, isiTup, isiList, oLe, oLt, oGe, oGt, oOrd, oLen, oIx, gotD]
      · have c := c2l (ns := ns) (n := n) (w := "drop") (s_ := .bool true) .no hl
        simp [F__law_done, m__law_done, a0, a1, it, c, oTuple, ek_cell_cell, ek_cell_count, ek_cell_bag, ek_cell_stack, ek_count_cell, ek_count_count, ek_count_bag, ek_count_stack, ek_stack_cell, ek_stack_count, ek_stack_bag, ek_stack_stack, ek_queue_cell, ek_queue_count, ek_queue_bag, ek_queue_stack, ek_bag_cell, ek_bag_count, ek_bag_bag, ek_bag_stack, ew_put_put, ew_put_add, ew_put_push, ew_put_pop, ew_put_keep, ew_put_drop, en_put_keep, ei_put, ew_get_put, ew_get_add, ew_get_push, ew_get_pop, ew_get_keep, ew_get_drop, en_get_keep, ei_get, ew_add_put, ew_add_add, ew_add_push, ew_add_pop, ew_add_keep, ew_add_drop, en_add_keep, ei_add, ew_read_put, ew_read_add, ew_read_push, ew_read_pop, ew_read_keep, ew_read_drop, en_read_keep, ei_read, ew_push_put, ew_push_add, ew_push_push, ew_push_pop, ew_push_keep, ew_push_drop, en_push_keep, ei_push, ew_pop_put, ew_pop_add, ew_pop_push, ew_pop_pop, ew_pop_keep, ew_pop_drop, en_pop_keep, ei_pop, ew_keep_put, ew_keep_add, ew_keep_push, ew_keep_pop, ew_keep_keep, ew_keep_drop, en_keep_keep, ei_keep, ew_drop_put, ew_drop_add, ew_drop_push, ew_drop_pop, ew_drop_keep, ew_drop_drop, en_drop_keep, ei_drop, ew_has_put, ew_has_add, ew_has_push, ew_has_pop, ew_has_keep, ew_has_drop, en_has_keep, ei_has, ZD.run, mret, mretN, shV, vand, vor, vnot, fz, op1, op2, op2c, opv2, nm, nv, cst, odD, bnd, ZD.ret, ZD.fail, out, look, tst, mnot, mand, mor, mif, mifS, mseq, mnx, macons, manil, mtup, mlst, asgN, masg, slOf, asgT, tgtup, tgcons, tgnil, tgN, Vl.d, stepC, ZD.wp, wipeable, wipeE, restE, isPlain, mtrue, List.replicate, List.set, oTest, isiInt, isiBool, isiStr, isiTup, isiList, oLe, oLt, oGe, oGt, oOrd, oLen, oIx, gotD]
    · refine ⟨ns, true, ⟨⟨_, fdone _ ?_⟩, ⟨[.sh (.str "bag"), .sh (.tuple (ns.map .int)), .sh (.tuple [.str "has", .int n]), .sh (.str "has"), .no, .sh (.bool true), .no], ?_⟩⟩, hs, by omega⟩
      · simp [F_done_in_bag, m_done_in_bag, it, ek_cell_cell, ek_cell_count, ek_cell_bag, ek_cell_stack, ek_count_cell, ek_count_count, ek_count_bag, ek_count_stack, ek_stack_cell, ek_stack_count, ek_stack_bag, ek_stack_stack, ek_queue_cell, ek_queue_count, ek_queue_bag, ek_queue_stack, ek_bag_cell, ek_bag_count, ek_bag_bag, ek_bag_stack, ew_put_put, ew_put_add, ew_put_push, ew_put_pop, ew_put_keep, ew_put_drop, en_put_keep, ei_put, ew_get_put, ew_get_add, ew_get_push, ew_get_pop, ew_get_keep, ew_get_drop, en_get_keep, ei_get, ew_add_put, ew_add_add, ew_add_push, ew_add_pop, ew_add_keep, ew_add_drop, en_add_keep, ei_add, ew_read_put, ew_read_add, ew_read_push, ew_read_pop, ew_read_keep, ew_read_drop, en_read_keep, ei_read, ew_push_put, ew_push_add, ew_push_push, ew_push_pop, ew_push_keep, ew_push_drop, en_push_keep, ei_push, ew_pop_put, ew_pop_add, ew_pop_push, ew_pop_pop, ew_pop_keep, ew_pop_drop, en_pop_keep, ei_pop, ew_keep_put, ew_keep_add, ew_keep_push, ew_keep_pop, ew_keep_keep, ew_keep_drop, en_keep_keep, ei_keep, ew_drop_put, ew_drop_add, ew_drop_push, ew_drop_pop, ew_drop_keep, ew_drop_drop, en_drop_keep, ei_drop, ew_has_put, ew_has_add, ew_has_push, ew_has_pop, ew_has_keep, ew_has_drop, en_has_keep, ei_has, ZD.run, mret, mretN, shV, vand, vor, vnot, fz, op1, op2, op2c, opv2, nm, nv, cst, odD, bnd, ZD.ret, ZD.fail, out, look, tst, mnot, mand, mor, mif, mifS, mseq, mnx, macons, manil, mtup, mlst, asgN, masg, slOf, asgT, tgtup, tgcons, tgnil, tgN, Vl.d, stepC, ZD.wp, wipeable, wipeE, restE, isPlain, mtrue, List.replicate, List.set, oTest, isiInt, isiBool, isiStr, isiTup, isiList, oLe, oLt, oGe, oGt, oOrd, oLen, oIx, gotD]
      · simp [F__law_done, m__law_done, a0, a1, it, ek_cell_cell, ek_cell_count, ek_cell_bag, ek_cell_stack, ek_count_cell, ek_count_count, ek_count_bag, ek_count_stack, ek_stack_cell, ek_stack_count, ek_stack_bag, ek_stack_stack, ek_queue_cell, ek_queue_count, ek_queue_bag, ek_queue_stack, ek_bag_cell, ek_bag_count, ek_bag_bag, ek_bag_stack, ew_put_put, ew_put_add, ew_put_push, ew_put_pop, ew_put_keep, ew_put_drop, en_put_keep, ei_put, ew_get_put, ew_get_add, ew_get_push, ew_get_pop, ew_get_keep, ew_get_drop, en_get_keep, ei_get, ew_add_put, ew_add_add, ew_add_push, ew_add_pop, ew_add_keep, ew_add_drop, en_add_keep, ei_add, ew_read_put, ew_read_add, ew_read_push, ew_read_pop, ew_read_keep, ew_read_drop, en_read_keep, ei_read, ew_push_put, ew_push_add, ew_push_push, ew_push_pop, ew_push_keep, ew_push_drop, en_push_keep, ei_push, ew_pop_put, ew_pop_add, ew_pop_push, ew_pop_pop, ew_pop_keep, ew_pop_drop, en_pop_keep, ei_pop, ew_keep_put, ew_keep_add, ew_keep_push, ew_keep_pop, ew_keep_keep, ew_keep_drop, en_keep_keep, ei_keep, ew_drop_put, ew_drop_add, ew_drop_push, ew_drop_pop, ew_drop_keep, ew_drop_drop, en_drop_keep, ei_drop, ew_has_put, ew_has_add, ew_has_push, ew_has_pop, ew_has_keep, ew_has_drop, en_has_keep, ei_has, ZD.run, mret, mretN, shV, vand, vor, vnot, fz, op1, op2, op2c, opv2, nm, nv, cst, odD, bnd, ZD.ret, ZD.fail, out, look, tst, mnot, mand, mor, mif, mifS, mseq, mnx, macons, manil, mtup, mlst, asgN, masg, slOf, asgT, tgtup, tgcons, tgnil, tgN, Vl.d, stepC, ZD.wp, wipeable, wipeE, restE, isPlain, mtrue, List.replicate, List.set, oTest, isiInt, isiBool, isiStr, isiTup, isiList, oLe, oLt, oGe, oGt, oOrd, oLen, oIx, gotD]
  · have it : oIn false (.int n) (.tuple (ns.map .int)) = .d (.bool false) := by rw [in_ints, decide_eq_false hn]
    rw [decide_eq_false hn] at fdone
    have fn := filt_not hn
    rcases hw with rfl | rfl | rfl
    · refine ⟨sortI (ns ++ [n]), true, ⟨⟨_, fdone _ ?_⟩, ⟨[.sh (.str "bag"), .sh (.tuple (ns.map .int)), .sh (.tuple [.str "keep", .int n]), .sh (.str "keep"), .no, .sh (.bool false), .no], ?_⟩⟩, put_new hs hn, by rw [(sortI_perm _).length_eq]; simp⟩
      · simp [F_done_in_bag, m_done_in_bag, it, oAdd, oSorted, oTuple, h1, h2, so, sd, ek_cell_cell, ek_cell_count, ek_cell_bag, ek_cell_stack, ek_count_cell, ek_count_count, ek_count_bag, ek_count_stack, ek_stack_cell, ek_stack_count, ek_stack_bag, ek_stack_stack, ek_queue_cell, ek_queue_count, ek_queue_bag, ek_queue_stack, ek_bag_cell, ek_bag_count, ek_bag_bag, ek_bag_stack, ew_put_put, ew_put_add, ew_put_push, ew_put_pop, ew_put_keep, ew_put_drop, en_put_keep, ei_put, ew_get_put, ew_get_add, ew_get_push, ew_get_pop, ew_get_keep, ew_get_drop, en_get_keep, ei_get, ew_add_put, ew_add_add, ew_add_push, ew_add_pop, ew_add_keep, ew_add_drop, en_add_keep, ei_add, ew_read_put, ew_read_add, ew_read_push, ew_read_pop, ew_read_keep, ew_read_drop, en_read_keep, ei_read, ew_push_put, ew_push_add, ew_push_push, ew_push_pop, ew_push_keep, ew_push_drop, en_push_keep, ei_push, ew_pop_put, ew_pop_add, ew_pop_push, ew_pop_pop, ew_pop_keep, ew_pop_drop, en_pop_keep, ei_pop, ew_keep_put, ew_keep_add, ew_keep_push, ew_keep_pop, ew_keep_keep, ew_keep_drop, en_keep_keep, ei_keep, ew_drop_put, ew_drop_add, ew_drop_push, ew_drop_pop, ew_drop_keep, ew_drop_drop, en_drop_keep, ei_drop, ew_has_put, ew_has_add, ew_has_push, ew_has_pop, ew_has_keep, ew_has_drop, en_has_keep, ei_has, ZD.run, mret, mretN, shV, vand, vor, vnot, fz, op1, op2, op2c, opv2, nm, nv, cst, odD, bnd, ZD.ret, ZD.fail, out, look, tst, mnot, mand, mor, mif, mifS, mseq, mnx, macons, manil, mtup, mlst, asgN, masg, slOf, asgT, tgtup, tgcons, tgnil, tgN, Vl.d, stepC, ZD.wp, wipeable, wipeE, restE, isPlain, mtrue, List.replicate, List.set, oTest, isiInt, isiBool, isiStr, isiTup, isiList, oLe, oLt, oGe, oGt, oOrd, oLen, oIx, gotD]
      · have c := c1l (ns := ns) (n := n) (w := "keep") (s_ := .bool false) .no hl
        rw [fn] at c
        simp [F__law_done, m__law_done, a0, a1, it, c, oAdd, oSorted, oTuple, h1, h2, so, sd, ek_cell_cell, ek_cell_count, ek_cell_bag, ek_cell_stack, ek_count_cell, ek_count_count, ek_count_bag, ek_count_stack, ek_stack_cell, ek_stack_count, ek_stack_bag, ek_stack_stack, ek_queue_cell, ek_queue_count, ek_queue_bag, ek_queue_stack, ek_bag_cell, ek_bag_count, ek_bag_bag, ek_bag_stack, ew_put_put, ew_put_add, ew_put_push, ew_put_pop, ew_put_keep, ew_put_drop, en_put_keep, ei_put, ew_get_put, ew_get_add, ew_get_push, ew_get_pop, ew_get_keep, ew_get_drop, en_get_keep, ei_get, ew_add_put, ew_add_add, ew_add_push, ew_add_pop, ew_add_keep, ew_add_drop, en_add_keep, ei_add, ew_read_put, ew_read_add, ew_read_push, ew_read_pop, ew_read_keep, ew_read_drop, en_read_keep, ei_read, ew_push_put, ew_push_add, ew_push_push, ew_push_pop, ew_push_keep, ew_push_drop, en_push_keep, ei_push, ew_pop_put, ew_pop_add, ew_pop_push, ew_pop_pop, ew_pop_keep, ew_pop_drop, en_pop_keep, ei_pop, ew_keep_put, ew_keep_add, ew_keep_push, ew_keep_pop, ew_keep_keep, ew_keep_drop, en_keep_keep, ei_keep, ew_drop_put, ew_drop_add, ew_drop_push, ew_drop_pop, ew_drop_keep, ew_drop_drop, en_drop_keep, ei_drop, ew_has_put, ew_has_add, ew_has_push, ew_has_pop, ew_has_keep, ew_has_drop, en_has_keep, ei_has, ZD.run, mret, mretN, shV, vand, vor, vnot, fz, op1, op2, op2c, opv2, nm, nv, cst, odD, bnd, ZD.ret, ZD.fail, out, look, tst, mnot, mand, mor, mif, mifS, mseq, mnx, macons, manil, mtup, mlst, asgN, masg, slOf, asgT, tgtup, tgcons, tgnil, tgN, Vl.d, stepC, ZD.wp, wipeable, wipeE, restE, isPlain, mtrue, List.replicate, List.set, oTest, isiInt, isiBool, isiStr, isiTup, isiList, oLe, oLt, oGe, oGt, oOrd, oLen, oIx, gotD]
    · refine ⟨ns, false, ⟨⟨_, fdone _ ?_⟩, ⟨[.sh (.str "bag"), .sh (.tuple (ns.map .int)), .sh (.tuple [.str "drop", .int n]), .sh (.str "drop"), .no, .sh (.bool false), .no], ?_⟩⟩, hs, by omega⟩
      · simp [F_done_in_bag, m_done_in_bag, it, ek_cell_cell, ek_cell_count, ek_cell_bag, ek_cell_stack, ek_count_cell, ek_count_count, ek_count_bag, ek_count_stack, ek_stack_cell, ek_stack_count, ek_stack_bag, ek_stack_stack, ek_queue_cell, ek_queue_count, ek_queue_bag, ek_queue_stack, ek_bag_cell, ek_bag_count, ek_bag_bag, ek_bag_stack, ew_put_put, ew_put_add, ew_put_push, ew_put_pop, ew_put_keep, ew_put_drop, en_put_keep, ei_put, ew_get_put, ew_get_add, ew_get_push, ew_get_pop, ew_get_keep, ew_get_drop, en_get_keep, ei_get, ew_add_put, ew_add_add, ew_add_push, ew_add_pop, ew_add_keep, ew_add_drop, en_add_keep, ei_add, ew_read_put, ew_read_add, ew_read_push, ew_read_pop, ew_read_keep, ew_read_drop, en_read_keep, ei_read, ew_push_put, ew_push_add, ew_push_push, ew_push_pop, ew_push_keep, ew_push_drop, en_push_keep, ei_push, ew_pop_put, ew_pop_add, ew_pop_push, ew_pop_pop, ew_pop_keep, ew_pop_drop, en_pop_keep, ei_pop, ew_keep_put, ew_keep_add, ew_keep_push, ew_keep_pop, ew_keep_keep, ew_keep_drop, en_keep_keep, ei_keep, ew_drop_put, ew_drop_add, ew_drop_push, ew_drop_pop, ew_drop_keep, ew_drop_drop, en_drop_keep, ei_drop, ew_has_put, ew_has_add, ew_has_push, ew_has_pop, ew_has_keep, ew_has_drop, en_has_keep, ei_has, ZD.run, mret, mretN, shV, vand, vor, vnot, fz, op1, op2, op2c, opv2, nm, nv, cst, odD, bnd, ZD.ret, ZD.fail, out, look, tst, mnot, mand, mor, mif, mifS, mseq, mnx, macons, manil, mtup, mlst, asgN, masg, slOf, asgT, tgtup, tgcons, tgnil, tgN, Vl.d, stepC, ZD.wp, wipeable, wipeE, restE, isPlain, mtrue, List.replicate, List.set, oTest, isiInt, isiBool, isiStr, isiTup, isiList, oLe, oLt, oGe, oGt, oOrd, oLen, oIx, gotD]
      · have c := c2l (ns := ns) (n := n) (w := "drop") (s_ := .bool false) .no hl
        rw [fn] at c
        simp [F__law_done, m__law_done, a0, a1, it, c, oTuple, ek_cell_cell, ek_cell_count, ek_cell_bag, ek_cell_stack, ek_count_cell, ek_count_count, ek_count_bag, ek_count_stack, ek_stack_cell, ek_stack_count, ek_stack_bag, ek_stack_stack, ek_queue_cell, ek_queue_count, ek_queue_bag, ek_queue_stack, ek_bag_cell, ek_bag_count, ek_bag_bag, ek_bag_stack, ew_put_put, ew_put_add, ew_put_push, ew_put_pop, ew_put_keep, ew_put_drop, en_put_keep, ei_put, ew_get_put, ew_get_add, ew_get_push, ew_get_pop, ew_get_keep, ew_get_drop, en_get_keep, ei_get, ew_add_put, ew_add_add, ew_add_push, ew_add_pop, ew_add_keep, ew_add_drop, en_add_keep, ei_add, ew_read_put, ew_read_add, ew_read_push, ew_read_pop, ew_read_keep, ew_read_drop, en_read_keep, ei_read, ew_push_put, ew_push_add, ew_push_push, ew_push_pop, ew_push_keep, ew_push_drop, en_push_keep, ei_push, ew_pop_put, ew_pop_add, ew_pop_push, ew_pop_pop, ew_pop_keep, ew_pop_drop, en_pop_keep, ei_pop, ew_keep_put, ew_keep_add, ew_keep_push, ew_keep_pop, ew_keep_keep, ew_keep_drop, en_keep_keep, ei_keep, ew_drop_put, ew_drop_add, ew_drop_push, ew_drop_pop, ew_drop_keep, ew_drop_drop, en_drop_keep, ei_drop, ew_has_put, ew_has_add, ew_has_push, ew_has_pop, ew_has_keep, ew_has_drop, en_has_keep, ei_has, ZD.run, mret, mretN, shV, vand, vor, vnot, fz, op1, op2, op2c, opv2, nm, nv, cst, odD, bnd, ZD.ret, ZD.fail, out, look, tst, mnot, mand, mor, mif, mifS, mseq, mnx, macons, manil, mtup, mlst, asgN, masg, slOf, asgT, tgtup, tgcons, tgnil, tgN, Vl.d, stepC, ZD.wp, wipeable, wipeE, restE, isPlain, mtrue, List.replicate, List.set, oTest, isiInt, isiBool, isiStr, isiTup, isiList, oLe, oLt, oGe, oGt, oOrd, oLen, oIx, gotD]
    · refine ⟨ns, false, ⟨⟨_, fdone _ ?_⟩, ⟨[.sh (.str "bag"), .sh (.tuple (ns.map .int)), .sh (.tuple [.str "has", .int n]), .sh (.str "has"), .no, .sh (.bool false), .no], ?_⟩⟩, hs, by omega⟩
      · simp [F_done_in_bag, m_done_in_bag, it, ek_cell_cell, ek_cell_count, ek_cell_bag, ek_cell_stack, ek_count_cell, ek_count_count, ek_count_bag, ek_count_stack, ek_stack_cell, ek_stack_count, ek_stack_bag, ek_stack_stack, ek_queue_cell, ek_queue_count, ek_queue_bag, ek_queue_stack, ek_bag_cell, ek_bag_count, ek_bag_bag, ek_bag_stack, ew_put_put, ew_put_add, ew_put_push, ew_put_pop, ew_put_keep, ew_put_drop, en_put_keep, ei_put, ew_get_put, ew_get_add, ew_get_push, ew_get_pop, ew_get_keep, ew_get_drop, en_get_keep, ei_get, ew_add_put, ew_add_add, ew_add_push, ew_add_pop, ew_add_keep, ew_add_drop, en_add_keep, ei_add, ew_read_put, ew_read_add, ew_read_push, ew_read_pop, ew_read_keep, ew_read_drop, en_read_keep, ei_read, ew_push_put, ew_push_add, ew_push_push, ew_push_pop, ew_push_keep, ew_push_drop, en_push_keep, ei_push, ew_pop_put, ew_pop_add, ew_pop_push, ew_pop_pop, ew_pop_keep, ew_pop_drop, en_pop_keep, ei_pop, ew_keep_put, ew_keep_add, ew_keep_push, ew_keep_pop, ew_keep_keep, ew_keep_drop, en_keep_keep, ei_keep, ew_drop_put, ew_drop_add, ew_drop_push, ew_drop_pop, ew_drop_keep, ew_drop_drop, en_drop_keep, ei_drop, ew_has_put, ew_has_add, ew_has_push, ew_has_pop, ew_has_keep, ew_has_drop, en_has_keep, ei_has, ZD.run, mret, mretN, shV, vand, vor, vnot, fz, op1, op2, op2c, opv2, nm, nv, cst, odD, bnd, ZD.ret, ZD.fail, out, look, tst, mnot, mand, mor, mif, mifS, mseq, mnx, macons, manil, mtup, mlst, asgN, masg, slOf, asgT, tgtup, tgcons, tgnil, tgN, Vl.d, stepC, ZD.wp, wipeable, wipeE, restE, isPlain, mtrue, List.replicate, List.set, oTest, isiInt, isiBool, isiStr, isiTup, isiList, oLe, oLt, oGe, oGt, oOrd, oLen, oIx, gotD]
      · simp [F__law_done, m__law_done, a0, a1, it, ek_cell_cell, ek_cell_count, ek_cell_bag, ek_cell_stack, ek_count_cell, ek_count_count, ek_count_bag, ek_count_stack, ek_stack_cell, ek_stack_count, ek_stack_bag, ek_stack_stack, ek_queue_cell, ek_queue_count, ek_queue_bag, ek_queue_stack, ek_bag_cell, ek_bag_count, ek_bag_bag, ek_bag_stack, ew_put_put, ew_put_add, ew_put_push, ew_put_pop, ew_put_keep, ew_put_drop, en_put_keep, ei_put, ew_get_put, ew_get_add, ew_get_push, ew_get_pop, ew_get_keep, ew_get_drop, en_get_keep, ei_get, ew_add_put, ew_add_add, ew_add_push, ew_add_pop, ew_add_keep, ew_add_drop, en_add_keep, ei_add, ew_read_put, ew_read_add, ew_read_push, ew_read_pop, ew_read_keep, ew_read_drop, en_read_keep, ei_read, ew_push_put, ew_push_add, ew_push_push, ew_push_pop, ew_push_keep, ew_push_drop, en_push_keep, ei_push, ew_pop_put, ew_pop_add, ew_pop_push, ew_pop_pop, ew_pop_keep, ew_pop_drop, en_pop_keep, ei_pop, ew_keep_put, ew_keep_add, ew_keep_push, ew_keep_pop, ew_keep_keep, ew_keep_drop, en_keep_keep, ei_keep, ew_drop_put, ew_drop_add, ew_drop_push, ew_drop_pop, ew_drop_keep, ew_drop_drop, en_drop_keep, ei_drop, ew_has_put, ew_has_add, ew_has_push, ew_has_pop, ew_has_keep, ew_has_drop, en_has_keep, ei_has, ZD.run, mret, mretN, shV, vand, vor, vnot, fz, op1, op2, op2c, opv2, nm, nv, cst, odD, bnd, ZD.ret, ZD.fail, out, look, tst, mnot, mand, mor, mif, mifS, mseq, mnx, macons, manil, mtup, mlst, asgN, masg, slOf, asgT, tgtup, tgcons, tgnil, tgN, Vl.d, stepC, ZD.wp, wipeable, wipeE, restE, isPlain, mtrue, List.replicate, List.set, oTest, isiInt, isiBool, isiStr, isiTup, isiList, oLe, oLt, oGe, oGt, oOrd, oLen, oIx, gotD]
end Q49

namespace Q49
open PySem ZD
theorem cut_map (ns : List Int) (lo hi : Option Int) : ∃ ms : List Int, cutD (ns.map .int) lo hi = ms.map .int ∧ ms.length ≤ ns.length := by
  unfold cutD
  refine ⟨(ns.drop (HT.sIx (ns.map PyData.int).length 0 lo)).take (HT.sIx (ns.map PyData.int).length (ns.map PyData.int).length hi - HT.sIx (ns.map PyData.int).length 0 lo), by rw [List.map_take, List.map_drop], ?_⟩
  rw [List.length_take, List.length_drop]
  omega
theorem fm_int (g : Int → Int) : ∀ ns : List Int, (ns.map PyData.int).filterMap (fun d => match d with | PyData.int i => some (PyData.int (g i)) | _ => none) = (ns.map g).map PyData.int
  | [] => rfl
  | n :: ns => by simp [fm_int g ns]
theorem s_open (ns : List Int) (h : ns.length ≤ 63) : ∃ d en, F__law_open (scr ns) = .ok (.ow d) en ∧ DS 0 d := by
  obtain ⟨ms, h1, h2⟩ := cut_map ns none (some 63)
  have e : c1__law_open [.sh (.list (ns.map .int)), .no, .no] = .ok (.ow (.list ((ms.map absI).map .int))) [.sh (.list (ns.map .int)), .no, .no] :=
    allV_eq (wp_mcomp ⟨ms.map .int, [.sh (.list (ns.map .int)), .no, .no], by simp [seqM, mslice, pno, pso, oSl, h1, ZD.run, mret, mretN, shV, vand, vor, vnot, fz, op1, op2, op2c, opv2, nm, nv, cst, odD, bnd, ZD.ret, ZD.fail, out, look, tst, mnot, mand, mor, mif, mifS, mseq, mnx, macons, manil, mtup, mlst, asgN, masg, slOf, asgT, tgtup, tgcons, tgnil, tgN, Vl.d, stepC, ZD.wp, wipeable, wipeE, restE, isPlain, mtrue, List.replicate, List.set, oTest, isiInt, isiBool, isiStr, isiTup, isiList, oLe, oLt, oGe, oGt, oOrd, oLen, oIx, gotD], by rw [List.length_map]; omega, by simp [ZD.run, mret, mretN, shV, vand, vor, vnot, fz, op1, op2, op2c, opv2, nm, nv, cst, odD, bnd, ZD.ret, ZD.fail, out, look, tst, mnot, mand, mor, mif, mifS, mseq, mnx, macons, manil, mtup, mlst, asgN, masg, slOf, asgT, tgtup, tgcons, tgnil, tgN, Vl.d, stepC, ZD.wp, wipeable, wipeE, restE, isPlain, mtrue, List.replicate, List.set, oTest, isiInt, isiBool, isiStr, isiTup, isiList, oLe, oLt, oGe, oGt, oOrd, oLen, oIx, gotD], fun d => match d with | .int i => some (.int (absI i)) | _ => none, fun d hd => by
      obtain ⟨i, _, rfl⟩ := List.mem_map.mp hd
      simp [oI1, ZD.run, mret, mretN, shV, vand, vor, vnot, fz, op1, op2, op2c, opv2, nm, nv, cst, odD, bnd, ZD.ret, ZD.fail, out, look, tst, mnot, mand, mor, mif, mifS, mseq, mnx, macons, manil, mtup, mlst, asgN, masg, slOf, asgT, tgtup, tgcons, tgnil, tgN, Vl.d, stepC, ZD.wp, wipeable, wipeE, restE, isPlain, mtrue, List.replicate, List.set, oTest, isiInt, isiBool, isiStr, isiTup, isiList, oLe, oLt, oGe, oGt, oOrd, oLen, oIx, gotD], by rw [fm_int], by simp [ZD.run, mret, mretN, shV, vand, vor, vnot, fz, op1, op2, op2c, opv2, nm, nv, cst, odD, bnd, ZD.ret, ZD.fail, out, look, tst, mnot, mand, mor, mif, mifS, mseq, mnx, macons, manil, mtup, mlst, asgN, masg, slOf, asgT, tgtup, tgcons, tgnil, tgN, Vl.d, stepC, ZD.wp, wipeable, wipeE, restE, isPlain, mtrue, List.replicate, List.set, oTest, isiInt, isiBool, isiStr, isiTup, isiList, oLe, oLt, oGe, oGt, oOrd, oLen, oIx, gotD]⟩)
  have hl : (ms.map absI).length + 1 ≤ 1000000 := by rw [List.length_map]; omega
  have hl2 : ms.length + 1 ≤ 1000000 := by omega
  have hl3 : ms.length ≤ 999999 := by omega
  refine ⟨.list [.int 0, .int 0, .list ((ms.map absI ++ [0]).map .int)], [.sh (.list (ns.map .int)), .ow (.list ((ms.map absI).map .int)), .no], ?_, 0, 0, ms.map absI ++ [0], rfl, by simp, Nat.le_refl _⟩
  simp [F__law_open, m__law_open, scr, e, oAdd, hl, hl2, hl3, ZD.run, mret, mretN, shV, vand, vor, vnot, fz, op1, op2, op2c, opv2, nm, nv, cst, odD, bnd, ZD.ret, ZD.fail, out, look, tst, mnot, mand, mor, mif, mifS, mseq, mnx, macons, manil, mtup, mlst, asgN, masg, slOf, asgT, tgtup, tgcons, tgnil, tgN, Vl.d, stepC, ZD.wp, wipeable, wipeE, restE, isPlain, mtrue, List.replicate, List.set, oTest, isiInt, isiBool, isiStr, isiTup, isiList, oLe, oLt, oGe, oGt, oOrd, oLen, oIx, gotD]
end Q49

namespace Q49
open PySem ZD
def names6 : List PyData := [.str "a", .str "box", .str "c", .str "d", .str "e", .str "f"]
def GoodPs (m : Nat) (ps : List PyData) : Prop := ps.map fstD = names6.take m ∧ ∀ p ∈ ps, ∃ a k, p = .tuple [a, k] ∧ k ∈ kinds
theorem kinds_at {r : Int} (h0 : 0 ≤ r) (h1 : r < 5) : ∃ k, L2.atI kinds r = some k ∧ k ∈ kinds := by
  have : r = 0 ∨ r = 1 ∨ r = 2 ∨ r = 3 ∨ r = 4 := by omega
  rcases this with rfl | rfl | rfl | rfl | rfl
  · exact ⟨_, rfl, by simp [kinds]⟩
  · exact ⟨_, rfl, by simp [kinds]⟩
  · exact ⟨_, rfl, by simp [kinds]⟩
  · exact ⟨_, rfl, by simp [kinds]⟩
  · exact ⟨_, rfl, by simp [kinds]⟩
theorem log_small {x : Int} (h0 : 0 < x) (h : x < 2 ^ 100) : x.natAbs.log2 < 9000 := Nat.lt_trans (log_lt (k := 101) (by decide) (by omega)) (by decide)
theorem names_cut {r : Int} (h0 : 0 ≤ r) (h1 : r < 6) : ∃ m, 1 ≤ m ∧ m ≤ 6 ∧ cutD names6 none (some (1 + r)) = names6.take m := by
  have : r = 0 ∨ r = 1 ∨ r = 2 ∨ r = 3 ∨ r = 4 ∨ r = 5 := by omega
  rcases this with rfl | rfl | rfl | rfl | rfl | rfl
  · exact ⟨1, by decide, by decide, rfl⟩
  · exact ⟨2, by decide, by decide, rfl⟩
  · exact ⟨3, by decide, by decide, rfl⟩
  · exact ⟨4, by decide, by decide, rfl⟩
  · exact ⟨5, by decide, by decide, rfl⟩
  · exact ⟨6, by decide, by decide, rfl⟩
theorem s_things {n : Nat} {d : PyData} (hd : DS n d) (hn : n < 1000) : ∃ (m : Nat) (ps : List PyData) (d' : PyData) (en : En), F__law_things [.io d, .sh (.int 6)] = .ok (.sh (.tuple ps)) (.io d' :: en) ∧ 1 ≤ m ∧ m ≤ 6 ∧ GoodPs m ps ∧ DS (n + 7) d' := by
  obtain ⟨r, d1, en1, hr, hr0, hr1, hd1⟩ := s_draw hd (by omega) 6 (by decide) (log_small (by decide) (by decide))
  obtain ⟨m, m1, m2, hcut⟩ := names_cut hr0 hr1
  have hlen : (names6.take m).length = m := by rw [List.length_take]; show min m 6 = m; omega
  have comp : WP c1__law_things [.io d1, .sh (.int 6), .ow (.list (names6.take m)), .no] fun x e => ∃ ps d2, x = .ow (.list ps) ∧ e = [.io d2, .sh (.int 6), .sh (.list (names6.take m)), .no] ∧ GoodPs m ps ∧ DS (n + 1 + m) d2 := by
    refine wp_mcompI (wp_eq (a := names6.take m) (en1 := [.io d1, .sh (.int 6), .sh (.list (names6.take m)), .no]) (by simp [seqM, ZD.run, mret, mretN, shV, vand, vor, vnot, fz, op1, op2, op2c, opv2, nm, nv, cst, odD, bnd, ZD.ret, ZD.fail, out, look, tst, mnot, mand, mor, mif, mifS, mseq, mnx, macons, manil, mtup, mlst, asgN, masg, slOf, asgT, tgtup, tgcons, tgnil, tgN, Vl.d, stepC, ZD.wp, wipeable, wipeE, restE, isPlain, mtrue, List.replicate, List.set, oTest, isiInt, isiBool, isiStr, isiTup, isiList, oLe, oLt, oGe, oGt, oOrd, oLen, oIx, gotD]) ⟨by rw [hlen]; omega, by simp [ZD.run, mret, mretN, shV, vand, vor, vnot, fz, op1, op2, op2c, opv2, nm, nv, cst, odD, bnd, ZD.ret, ZD.fail, out, look, tst, mnot, mand, mor, mif, mifS, mseq, mnx, macons, manil, mtup, mlst, asgN, masg, slOf, asgT, tgtup, tgcons, tgnil, tgN, Vl.d, stepC, ZD.wp, wipeable, wipeE, restE, isPlain, mtrue, List.replicate, List.set, oTest, isiInt, isiBool, isiStr, isiTup, isiList, oLe, oLt, oGe, oGt, oOrd, oLen, oIx, gotD], fun i ys e => ∃ d2, DS (n + 1 + i) d2 ∧ e = [.io d2, .sh (.int 6), .sh (.list (names6.take m)), .no] ∧ ys.map fstD = (names6.take m).take i ∧ ∀ p ∈ ys, ∃ a k, p = .tuple [a, k] ∧ k ∈ kinds, ⟨d1, hd1, by simp [ZD.run, mret, mretN, shV, vand, vor, vnot, fz, op1, op2, op2c, opv2, nm, nv, cst, odD, bnd, ZD.ret, ZD.fail, out, look, tst, mnot, mand, mor, mif, mifS, mseq, mnx, macons, manil, mtup, mlst, asgN, masg, slOf, asgT, tgtup, tgcons, tgnil, tgN, Vl.d, stepC, ZD.wp, wipeable, wipeE, restE, isPlain, mtrue, List.replicate, List.set, oTest, isiInt, isiBool, isiStr, isiTup, isiList, oLe, oLt, oGe, oGt, oOrd, oLen, oIx, gotD], rfl, by simp⟩, fun ys e ⟨d2, q1, q2, q3, q4⟩ => ⟨ys, d2, rfl, by rw [q2]; simp [ZD.run, mret, mretN, shV, vand, vor, vnot, fz, op1, op2, op2c, opv2, nm, nv, cst, odD, bnd, ZD.ret, ZD.fail, out, look, tst, mnot, mand, mor, mif, mifS, mseq, mnx, macons, manil, mtup, mlst, asgN, masg, slOf, asgT, tgtup, tgcons, tgnil, tgN, Vl.d, stepC, ZD.wp, wipeable, wipeE, restE, isPlain, mtrue, List.replicate, List.set, oTest, isiInt, isiBool, isiStr, isiTup, isiList, oLe, oLt, oGe, oGt, oOrd, oLen, oIx, gotD], ⟨by rw [q3, hlen, List.take_take, Nat.min_self], q4⟩, by rw [hlen] at q1; exact q1⟩, fun i x ys e hi ⟨d2, q1, q2, q3, q4⟩ => ?_⟩)
    have hi2 : i < m := by have := (List.getElem?_eq_some_iff.mp hi).1; rw [hlen] at this; exact this
    obtain ⟨r2, d3, en3, hr2, hr20, hr21, hd3⟩ := s_draw q1 (by omega) 5 (by decide) (log_small (by decide) (by decide))
    obtain ⟨k, hk1, hk2⟩ := kinds_at hr20 hr21
    have hk1 : L2.atI [PyData.str "cell", .str "count", .str "stack", .str "queue", .str "bag"] r2 = some k := hk1
    subst q2
    refine wp_eq (a := some (.tuple [x, k])) (en1 := [.io d3, .sh (.int 6), .sh (.list (names6.take m)), .no]) (by simp [mcallI, isOwn, hr2, hk1, ZD.run, mret, mretN, shV, vand, vor, vnot, fz, op1, op2, op2c, opv2, nm, nv, cst, odD, bnd, ZD.ret, ZD.fail, out, look, tst, mnot, mand, mor, mif, mifS, mseq, mnx, macons, manil, mtup, mlst, asgN, masg, slOf, asgT, tgtup, tgcons, tgnil, tgN, Vl.d, stepC, ZD.wp, wipeable, wipeE, restE, isPlain, mtrue, List.replicate, List.set, oTest, isiInt, isiBool, isiStr, isiTup, isiList, oLe, oLt, oGe, oGt, oOrd, oLen, oIx, gotD]) ⟨d3, by rw [Nat.add_assoc] at hd3; exact hd3, rfl, ?_, fun p hp => ?_⟩
    · rw [List.map_append, q3, List.take_add_one, hi]
      rfl
    · rcases List.mem_append.mp hp with h | h
      · exact q4 p h
      · have e : p = .tuple [x, k] := by simpa using h
        exact ⟨x, k, e, hk2⟩
  obtain ⟨x, e, h1, ps, d2, rfl, rfl, h2, h3⟩ := comp
  have hcut' : cutD [PyData.str "a", .str "box", .str "c", .str "d", .str "e", .str "f"] none (some (1 + r)) = names6.take m := hcut
  refine ⟨m, ps, d2, [.sh (.int 6), .sh (.list (names6.take m)), .no], ?_, m1, m2, h2, h3.up (by omega)⟩
  simp [F__law_things, m__law_things, mcallI, isOwn, hr, mslice, pno, pso, oSl, oAdd, hcut', h1, oTuple, ZD.run, mret, mretN, shV, vand, vor, vnot, fz, op1, op2, op2c, opv2, nm, nv, cst, odD, bnd, ZD.ret, ZD.fail, out, look, tst, mnot, mand, mor, mif, mifS, mseq, mnx, macons, manil, mtup, mlst, asgN, masg, slOf, asgT, tgtup, tgcons, tgnil, tgN, Vl.d, stepC, ZD.wp, wipeable, wipeE, restE, isPlain, mtrue, List.replicate, List.set, oTest, isiInt, isiBool, isiStr, isiTup, isiList, oLe, oLt, oGe, oGt, oOrd, oLen, oIx, gotD]
end Q49

namespace Q49
open PySem ZD
def OkD (k : Str) (d : PyData) : Prop :=
  (k = "cell" ∧ ((∃ n, d = .tuple [.str "put", .int n]) ∨ d = .tuple [.str "get"])) ∨ (k = "count" ∧ ((∃ n, d = .tuple [.str "add", .int n]) ∨ d = .tuple [.str "read"])) ∨
  ((k = "stack" ∨ k = "queue") ∧ ((∃ n, d = .tuple [.str "push", .int n]) ∨ d = .tuple [.str "pop"])) ∨ (k = "bag" ∧ ∃ (w : Str) (n : Int), (w = "keep" ∨ w = "drop" ∨ w = "has") ∧ d = .tuple [.str w, .int n])
def OkS (k : Str) (m : Nat) (s : PyData) : Prop := ((k = "cell" ∨ k = "count") ∧ ∃ i, s = .int i) ∨ ((k = "stack" ∨ k = "queue") ∧ ∃ ns : List Int, s = .tuple (ns.map .int) ∧ ns.length ≤ m) ∨ (k = "bag" ∧ ∃ ns : List Int, s = .tuple (ns.map .int) ∧ ns.length ≤ m ∧ ns.Pairwise (· < ·))
def Flat (r : PyData) : Prop := r = .none ∨ (∃ i, r = .int i) ∨ ∃ b, r = .bool b
theorem step {k : Str} {m : Nat} {s d : PyData} (hs : OkS k m s) (hd : OkD k d) (hm : m ≤ 900) : ∃ s2 r, Same (.str k) s d s2 r ∧ OkS k (m + 1) s2 ∧ Flat r := by
  rcases hd with ⟨rfl, hd⟩ | ⟨rfl, hd⟩ | ⟨hk, hd⟩ | ⟨rfl, w, n, hw, rfl⟩
  · have hs' : ∃ i, s = .int i := by
      rcases hs with ⟨_, h⟩ | ⟨h, _⟩ | ⟨h, _⟩
      · exact h
      · rcases h with h | h <;> exact absurd h (by decide)
      · exact absurd h (by decide)
    obtain ⟨i, rfl⟩ := hs'
    rcases hd with ⟨n, rfl⟩ | rfl
    · exact ⟨_, _, same_put i n, .inl ⟨.inl rfl, _, rfl⟩, .inl rfl⟩
    · exact ⟨_, _, same_get i, .inl ⟨.inl rfl, _, rfl⟩, .inr (.inl ⟨_, rfl⟩)⟩
  · have hs' : ∃ i, s = .int i := by
      rcases hs with ⟨_, h⟩ | ⟨h, _⟩ | ⟨h, _⟩
      · exact h
      · rcases h with h | h <;> exact absurd h (by decide)
      · exact absurd h (by decide)
    obtain ⟨i, rfl⟩ := hs'
    rcases hd with ⟨n, rfl⟩ | rfl
    · exact ⟨_, _, same_add i n, .inl ⟨.inr rfl, _, rfl⟩, .inl rfl⟩
    · exact ⟨_, _, same_read i, .inl ⟨.inr rfl, _, rfl⟩, .inr (.inl ⟨_, rfl⟩)⟩
  · have hs' : ∃ ns : List Int, s = .tuple (ns.map .int) ∧ ns.length ≤ m := by
      rcases hs with ⟨h, _⟩ | ⟨_, h⟩ | ⟨h, _⟩
      · rcases hk with rfl | rfl <;> (rcases h with h | h <;> exact absurd h (by decide))
      · exact h
      · rcases hk with rfl | rfl <;> exact absurd h (by decide)
    obtain ⟨ns, rfl, hl⟩ := hs'
    rcases hd with ⟨n, rfl⟩ | rfl
    · exact ⟨_, _, same_push k hk ns n (by omega), .inr (.inl ⟨hk, _, rfl, by simp; omega⟩), .inl rfl⟩
    · by_cases he : ns = []
      · subst he
        exact ⟨_, _, same_pop0 k hk, .inr (.inl ⟨hk, [], rfl, by simp⟩), .inl rfl⟩
      · rcases hk with rfl | rfl
        · have h := List.dropLast_concat_getLast he
          rw [← h] at hl ⊢
          refine ⟨_, _, same_stack _ _ (by simp at hl; simp; omega), .inr (.inl ⟨.inl rfl, _, rfl, by simp at hl; simp; omega⟩), .inr (.inl ⟨_, rfl⟩)⟩
        · cases ns with
          | nil => exact absurd rfl he
          | cons x qs => exact ⟨_, _, same_queue x qs (by simp at hl; omega), .inr (.inl ⟨.inr rfl, _, rfl, by simp at hl; omega⟩), .inr (.inl ⟨_, rfl⟩)⟩
  · have hs' : ∃ ns : List Int, s = .tuple (ns.map .int) ∧ ns.length ≤ m ∧ ns.Pairwise (· < ·) := by
      rcases hs with ⟨h, _⟩ | ⟨h, _⟩ | ⟨_, h⟩
      · rcases h with h | h <;> exact absurd h (by decide)
      · rcases h with h | h <;> exact absurd h (by decide)
      · exact h
    obtain ⟨ns, rfl, hl, hp⟩ := hs'
    obtain ⟨ms, b, h1, h2, h3⟩ := same_bag ns n w hw hp (by omega)
    exact ⟨_, _, h1, .inr (.inr ⟨rfl, ms, rfl, by omega, h2⟩), .inr (.inr ⟨b, rfl⟩)⟩
/-! the deeds that are drawn -/
def KD : List (PyData × PyData) := [(.str "cell", .list [.str "put", .str "get"]), (.str "count", .list [.str "add", .str "read"]), (.str "stack", .list [.str "push", .str "pop"]), (.str "queue", .list [.str "push", .str "pop"]), (.str "bag", .list [.str "keep", .str "drop", .str "has", .str "keep"])]
theorem kd_all (en : En) : d1__law_deed en = .ok (.ow (.dict KD)) en := by kernel_rfl
theorem kv_cell : oDix (.dict KD) (.str "cell") = .d (.list [.str "put", .str "get"]) := by kernel_rfl
theorem kv_count : oDix (.dict KD) (.str "count") = .d (.list [.str "add", .str "read"]) := by kernel_rfl
theorem kv_stack : oDix (.dict KD) (.str "stack") = .d (.list [.str "push", .str "pop"]) := by kernel_rfl
theorem kv_queue : oDix (.dict KD) (.str "queue") = .d (.list [.str "push", .str "pop"]) := by kernel_rfl
theorem kv_bag : oDix (.dict KD) (.str "bag") = .d (.list [.str "keep", .str "drop", .str "has", .str "keep"]) := by kernel_rfl
theorem eg_put : oIn false (.str "put") (.tuple [.str "get", .str "read", .str "pop"]) = .d (.bool false) := by kernel_rfl
theorem eg_get : oIn false (.str "get") (.tuple [.str "get", .str "read", .str "pop"]) = .d (.bool true) := by kernel_rfl
theorem eg_add : oIn false (.str "add") (.tuple [.str "get", .str "read", .str "pop"]) = .d (.bool false) := by kernel_rfl
theorem eg_read : oIn false (.str "read") (.tuple [.str "get", .str "read", .str "pop"]) = .d (.bool true) := by kernel_rfl
theorem eg_push : oIn false (.str "push") (.tuple [.str "get", .str "read", .str "pop"]) = .d (.bool false) := by kernel_rfl
theorem eg_pop : oIn false (.str "pop") (.tuple [.str "get", .str "read", .str "pop"]) = .d (.bool true) := by kernel_rfl
theorem eg_keep : oIn false (.str "keep") (.tuple [.str "get", .str "read", .str "pop"]) = .d (.bool false) := by kernel_rfl
theorem eg_drop : oIn false (.str "drop") (.tuple [.str "get", .str "read", .str "pop"]) = .d (.bool false) := by kernel_rfl
theorem eg_has : oIn false (.str "has") (.tuple [.str "get", .str "read", .str "pop"]) = .d (.bool false) := by kernel_rfl
theorem dd_cell_0_0 {d d1 d2 d3 : PyData} {e1 e2 e3 : En} {n : Int} (h1 : F__law_draw [.io d, .sh (.int 2)] = .ok (.sh (.int 0)) (.io d1 :: e1)) (h2 : F__law_draw [.io d1, .sh (.int 2)] = .ok (.sh (.int 0)) (.io d2 :: e2)) (h3 : F__law_draw [.io d2, .sh (.int 3)] = .ok (.sh (.int n)) (.io d3 :: e3)) : F__law_deed [.io d, .sh (.str "cell")] = .ok (.sh (.tuple [.str "put", .int (n - 1)])) [.io d3, .sh (.str "cell"), .sh (.str "put")] := by
  simp [F__law_deed, m__law_deed, kd_all, kv_cell, mcallI, isOwn, h1, h2, h3, L2.atI, L2.ixN, oSub, oInt, eg_put, eg_get, eg_add, eg_read, eg_push, eg_pop, eg_keep, eg_drop, eg_has, ZD.run, mret, mretN, shV, vand, vor, vnot, fz, op1, op2, op2c, opv2, nm, nv, cst, odD, bnd, ZD.ret, ZD.fail, out, look, tst, mnot, mand, mor, mif, mifS, mseq, mnx, macons, manil, mtup, mlst, asgN, masg, slOf, asgT, tgtup, tgcons, tgnil, tgN, Vl.d, stepC, ZD.wp, wipeable, wipeE, restE, isPlain, mtrue, List.replicate, List.set, oTest, isiInt, isiBool, isiStr, isiTup, isiList, oLe, oLt, oGe, oGt, oOrd, oLen, oIx, gotD]
theorem dd_cell_0_1 {d d1 d2 d3 : PyData} {e1 e2 e3 : En} {n : Int} (h1 : F__law_draw [.io d, .sh (.int 2)] = .ok (.sh (.int 0)) (.io d1 :: e1)) (h2 : F__law_draw [.io d1, .sh (.int 2)] = .ok (.sh (.int 1)) (.io d2 :: e2)) (h3 : F__law_draw [.io d2, .sh (.int 9)] = .ok (.sh (.int n)) (.io d3 :: e3)) : F__law_deed [.io d, .sh (.str "cell")] = .ok (.sh (.tuple [.str "put", .int (n - 1)])) [.io d3, .sh (.str "cell"), .sh (.str "put")] := by
  simp [F__law_deed, m__law_deed, kd_all, kv_cell, mcallI, isOwn, h1, h2, h3, L2.atI, L2.ixN, oSub, oInt, eg_put, eg_get, eg_add, eg_read, eg_push, eg_pop, eg_keep, eg_drop, eg_has, ZD.run, mret, mretN, shV, vand, vor, vnot, fz, op1, op2, op2c, opv2, nm, nv, cst, odD, bnd, ZD.ret, ZD.fail, out, look, tst, mnot, mand, mor, mif, mifS, mseq, mnx, macons, manil, mtup, mlst, asgN, masg, slOf, asgT, tgtup, tgcons, tgnil, tgN, Vl.d, stepC, ZD.wp, wipeable, wipeE, restE, isPlain, mtrue, List.replicate, List.set, oTest, isiInt, isiBool, isiStr, isiTup, isiList, oLe, oLt, oGe, oGt, oOrd, oLen, oIx, gotD]
theorem dd_cell_1 {d d1 : PyData} {e1 : En} (h1 : F__law_draw [.io d, .sh (.int 2)] = .ok (.sh (.int 1)) (.io d1 :: e1)) : F__law_deed [.io d, .sh (.str "cell")] = .ok (.sh (.tuple [.str "get"])) [.io d1, .sh (.str "cell"), .sh (.str "get")] := by
  simp [F__law_deed, m__law_deed, kd_all, kv_cell, mcallI, isOwn, h1, L2.atI, L2.ixN, eg_put, eg_get, eg_add, eg_read, eg_push, eg_pop, eg_keep, eg_drop, eg_has, ZD.run, mret, mretN, shV, vand, vor, vnot, fz, op1, op2, op2c, opv2, nm, nv, cst, odD, bnd, ZD.ret, ZD.fail, out, look, tst, mnot, mand, mor, mif, mifS, mseq, mnx, macons, manil, mtup, mlst, asgN, masg, slOf, asgT, tgtup, tgcons, tgnil, tgN, Vl.d, stepC, ZD.wp, wipeable, wipeE, restE, isPlain, mtrue, List.replicate, List.set, oTest, isiInt, isiBool, isiStr, isiTup, isiList, oLe, oLt, oGe, oGt, oOrd, oLen, oIx, gotD]
theorem dd_count_0_0 {d d1 d2 d3 : PyData} {e1 e2 e3 : En} {n : Int} (h1 : F__law_draw [.io d, .sh (.int 2)] = .ok (.sh (.int 0)) (.io d1 :: e1)) (h2 : F__law_draw [.io d1, .sh (.int 2)] = .ok (.sh (.int 0)) (.io d2 :: e2)) (h3 : F__law_draw [.io d2, .sh (.int 3)] = .ok (.sh (.int n)) (.io d3 :: e3)) : F__law_deed [.io d, .sh (.str "count")] = .ok (.sh (.tuple [.str "add", .int (n - 1)])) [.io d3, .sh (.str "count"), .sh (.str "add")] := by
  simp [F__law_deed, m__law_deed, kd_all, kv_count, mcallI, isOwn, h1, h2, h3, L2.atI, L2.ixN, oSub, oInt, eg_put, eg_get, eg_add, eg_read, eg_push, eg_pop, eg_keep, eg_drop, eg_has, ZD.run, mret, mretN, shV, vand, vor, vnot, fz, op1, op2, op2c, opv2, nm, nv, cst, odD, bnd, ZD.ret, ZD.fail, out, look, tst, mnot, mand, mor, mif, mifS, mseq, mnx, macons, manil, mtup, mlst, asgN, masg, slOf, asgT, tgtup, tgcons, tgnil, tgN, Vl.d, stepC, ZD.wp, wipeable, wipeE, restE, isPlain, mtrue, List.replicate, List.set, oTest, isiInt, isiBool, isiStr, isiTup, isiList, oLe, oLt, oGe, oGt, oOrd, oLen, oIx, gotD]
theorem dd_count_0_1 {d d1 d2 d3 : PyData} {e1 e2 e3 : En} {n : Int} (h1 : F__law_draw [.io d, .sh (.int 2)] = .ok (.sh (.int 0)) (.io d1 :: e1)) (h2 : F__law_draw [.io d1, .sh (.int 2)] = .ok (.sh (.int 1)) (.io d2 :: e2)) (h3 : F__law_draw [.io d2, .sh (.int 9)] = .ok (.sh (.int n)) (.io d3 :: e3)) : F__law_deed [.io d, .sh (.str "count")] = .ok (.sh (.tuple [.str "add", .int (n - 1)])) [.io d3, .sh (.str "count"), .sh (.str "add")] := by
  simp [F__law_deed, m__law_deed, kd_all, kv_count, mcallI, isOwn, h1, h2, h3, L2.atI, L2.ixN, oSub, oInt, eg_put, eg_get, eg_add, eg_read, eg_push, eg_pop, eg_keep, eg_drop, eg_has, ZD.run, mret, mretN, shV, vand, vor, vnot, fz, op1, op2, op2c, opv2, nm, nv, cst, odD, bnd, ZD.ret, ZD.fail, out, look, tst, mnot, mand, mor, mif, mifS, mseq, mnx, macons, manil, mtup, mlst, asgN, masg, slOf, asgT, tgtup, tgcons, tgnil, tgN, Vl.d, stepC, ZD.wp, wipeable, wipeE, restE, isPlain, mtrue, List.replicate, List.set, oTest, isiInt, isiBool, isiStr, isiTup, isiList, oLe, oLt, oGe, oGt, oOrd, oLen, oIx, gotD]
theorem dd_count_1 {d d1 : PyData} {e1 : En} (h1 : F__law_draw [.io d, .sh (.int 2)] = .ok (.sh (.int 1)) (.io d1 :: e1)) : F__law_deed [.io d, .sh (.str "count")] = .ok (.sh (.tuple [.str "read"])) [.io d1, .sh (.str "count"), .sh (.str "read")] := by
  simp [F__law_deed, m__law_deed, kd_all, kv_count, mcallI, isOwn, h1, L2.atI, L2.ixN, eg_put, eg_get, eg_add, eg_read, eg_push, eg_pop, eg_keep, eg_drop, eg_has, ZD.run, mret, mretN, shV, vand, vor, vnot, fz, op1, op2, op2c, opv2, nm, nv, cst, odD, bnd, ZD.ret, ZD.fail, out, look, tst, mnot, mand, mor, mif, mifS, mseq, mnx, macons, manil, mtup, mlst, asgN, masg, slOf, asgT, tgtup, tgcons, tgnil, tgN, Vl.d, stepC, ZD.wp, wipeable, wipeE, restE, isPlain, mtrue, List.replicate, List.set, oTest, isiInt, isiBool, isiStr, isiTup, isiList, oLe, oLt, oGe, oGt, oOrd, oLen, oIx, gotD]
theorem dd_stack_0_0 {d d1 d2 d3 : PyData} {e1 e2 e3 : En} {n : Int} (h1 : F__law_draw [.io d, .sh (.int 2)] = .ok (.sh (.int 0)) (.io d1 :: e1)) (h2 : F__law_draw [.io d1, .sh (.int 2)] = .ok (.sh (.int 0)) (.io d2 :: e2)) (h3 : F__law_draw [.io d2, .sh (.int 3)] = .ok (.sh (.int n)) (.io d3 :: e3)) : F__law_deed [.io d, .sh (.str "stack")] = .ok (.sh (.tuple [.str "push", .int (n - 1)])) [.io d3, .sh (.str "stack"), .sh (.str "push")] := by
  simp [F__law_deed, m__law_deed, kd_all, kv_stack, mcallI, isOwn, h1, h2, h3, L2.atI, L2.ixN, oSub, oInt, eg_put, eg_get, eg_add, eg_read, eg_push, eg_pop, eg_keep, eg_drop, eg_has, ZD.run, mret, mretN, shV, vand, vor, vnot, fz, op1, op2, op2c, opv2, nm, nv, cst, odD, bnd, ZD.ret, ZD.fail, out, look, tst, mnot, mand, mor, mif, mifS, mseq, mnx, macons, manil, mtup, mlst, asgN, masg, slOf, asgT, tgtup, tgcons, tgnil, tgN, Vl.d, stepC, ZD.wp, wipeable, wipeE, restE, isPlain, mtrue, List.replicate, List.set, oTest, isiInt, isiBool, isiStr, isiTup, isiList, oLe, oLt, oGe, oGt, oOrd, oLen, oIx, gotD]
theorem dd_stack_0_1 {d d1 d2 d3 : PyData} {e1 e2 e3 : En} {n : Int} (h1 : F__law_draw [.io d, .sh (.int 2)] = .ok (.sh (.int 0)) (.io d1 :: e1)) (h2 : F__law_draw [.io d1, .sh (.int 2)] = .ok (.sh (.int 1)) (.io d2 :: e2)) (h3 : F__law_draw [.io d2, .sh (.int 9)] = .ok (.sh (.int n)) (.io d3 :: e3)) : F__law_deed [.io d, .sh (.str "stack")] = .ok (.sh (.tuple [.str "push", .int (n - 1)])) [.io d3, .sh (.str "stack"), .sh (.str "push")] := by
  simp [F__law_deed, m__law_deed, kd_all, kv_stack, mcallI, isOwn, h1, h2, h3, L2.atI, L2.ixN, oSub, oInt, eg_put, eg_get, eg_add, eg_read, eg_push, eg_pop, eg_keep, eg_drop, eg_has, ZD.run, mret, mretN, shV, vand, vor, vnot, fz, op1, op2, op2c, opv2, nm, nv, cst, odD, bnd, ZD.ret, ZD.fail, out, look, tst, mnot, mand, mor, mif, mifS, mseq, mnx, macons, manil, mtup, mlst, asgN, masg, slOf, asgT, tgtup, tgcons, tgnil, tgN, Vl.d, stepC, ZD.wp, wipeable, wipeE, restE, isPlain, mtrue, List.replicate, List.set, oTest, isiInt, isiBool, isiStr, isiTup, isiList, oLe, oLt, oGe, oGt, oOrd, oLen, oIx, gotD]
theorem dd_stack_1 {d d1 : PyData} {e1 : En} (h1 : F__law_draw [.io d, .sh (.int 2)] = .ok (.sh (.int 1)) (.io d1 :: e1)) : F__law_deed [.io d, .sh (.str "stack")] = .ok (.sh (.tuple [.str "pop"])) [.io d1, .sh (.str "stack"), .sh (.str "pop")] := by
  simp [F__law_deed, m__law_deed, kd_all, kv_stack, mcallI, isOwn, h1, L2.atI, L2.ixN, eg_put, eg_get, eg_add, eg_read, eg_push, eg_pop, eg_keep, eg_drop, eg_has, ZD.run, mret, mretN, shV, vand, vor, vnot, fz, op1, op2, op2c, opv2, nm, nv, cst, odD, bnd, ZD.ret, ZD.fail, out, look, tst, mnot, mand, mor, mif, mifS, mseq, mnx, macons, manil, mtup, mlst, asgN, masg, slOf, asgT, tgtup, tgcons, tgnil, tgN, Vl.d, stepC, ZD.wp, wipeable, wipeE, restE, isPlain, mtrue, List.replicate, List.set, oTest, isiInt, isiBool, isiStr, isiTup, isiList, oLe, oLt, oGe, oGt, oOrd, oLen, oIx, gotD]
theorem dd_queue_0_0 {d d1 d2 d3 : PyData} {e1 e2 e3 : En} {n : Int} (h1 : F__law_draw [.io d, .sh (.int 2)] = .ok (.sh (.int 0)) (.io d1 :: e1)) (h2 : F__law_draw [.io d1, .sh (.int 2)] = .ok (.sh (.int 0)) (.io d2 :: e2)) (h3 : F__law_draw [.io d2, .sh (.int 3)] = .ok (.sh (.int n)) (.io d3 :: e3)) : F__law_deed [.io d, .sh (.str "queue")] = .ok (.sh (.tuple [.str "push", .int (n - 1)])) [.io d3, .sh (.str "queue"), .sh (.str "push")] := by
  simp [F__law_deed, m__law_deed, kd_all, kv_queue, mcallI, isOwn, h1, h2, h3, L2.atI, L2.ixN, oSub, oInt, eg_put, eg_get, eg_add, eg_read, eg_push, eg_pop, eg_keep, eg_drop, eg_has, ZD.run, mret, mretN, shV, vand, vor, vnot, fz, op1, op2, op2c, opv2, nm, nv, cst, odD, bnd, ZD.ret, ZD.fail, out, look, tst, mnot, mand, mor, mif, mifS, mseq, mnx, macons, manil, mtup, mlst, asgN, masg, slOf, asgT, tgtup, tgcons, tgnil, tgN, Vl.d, stepC, ZD.wp, wipeable, wipeE, restE, isPlain, mtrue, List.replicate, List.set, oTest, isiInt, isiBool, isiStr, isiTup, isiList, oLe, oLt, oGe, oGt, oOrd, oLen, oIx, gotD]
theorem dd_queue_0_1 {d d1 d2 d3 : PyData} {e1 e2 e3 : En} {n : Int} (h1 : F__law_draw [.io d, .sh (.int 2)] = .ok (.sh (.int 0)) (.io d1 :: e1)) (h2 : F__law_draw [.io d1, .sh (.int 2)] = .ok (.sh (.int 1)) (.io d2 :: e2)) (h3 : F__law_draw [.io d2, .sh (.int 9)] = .ok (.sh (.int n)) (.io d3 :: e3)) : F__law_deed [.io d, .sh (.str "queue")] = .ok (.sh (.tuple [.str "push", .int (n - 1)])) [.io d3, .sh (.str "queue"), .sh (.str "push")] := by
  simp [F__law_deed, m__law_deed, kd_all, kv_queue, mcallI, isOwn, h1, h2, h3, L2.atI, L2.ixN, oSub, oInt, eg_put, eg_get, eg_add, eg_read, eg_push, eg_pop, eg_keep, eg_drop, eg_has, ZD.run, mret, mretN, shV, vand, vor, vnot, fz, op1, op2, op2c, opv2, nm, nv, cst, odD, bnd, ZD.ret, ZD.fail, out, look, tst, mnot, mand, mor, mif, mifS, mseq, mnx, macons, manil, mtup, mlst, asgN, masg, slOf, asgT, tgtup, tgcons, tgnil, tgN, Vl.d, stepC, ZD.wp, wipeable, wipeE, restE, isPlain, mtrue, List.replicate, List.set, oTest, isiInt, isiBool, isiStr, isiTup, isiList, oLe, oLt, oGe, oGt, oOrd, oLen, oIx, gotD]
theorem dd_queue_1 {d d1 : PyData} {e1 : En} (h1 : F__law_draw [.io d, .sh (.int 2)] = .ok (.sh (.int 1)) (.io d1 :: e1)) : F__law_deed [.io d, .sh (.str "queue")] = .ok (.sh (.tuple [.str "pop"])) [.io d1, .sh (.str "queue"), .sh (.str "pop")] := by
  simp [F__law_deed, m__law_deed, kd_all, kv_queue, mcallI, isOwn, h1, L2.atI, L2.ixN, eg_put, eg_get, eg_add, eg_read, eg_push, eg_pop, eg_keep, eg_drop, eg_has, ZD.run, mret, mretN, shV, vand, vor, vnot, fz, op1, op2, op2c, opv2, nm, nv, cst, odD, bnd, ZD.ret, ZD.fail, out, look, tst, mnot, mand, mor, mif, mifS, mseq, mnx, macons, manil, mtup, mlst, asgN, masg, slOf, asgT, tgtup, tgcons, tgnil, tgN, Vl.d, stepC, ZD.wp, wipeable, wipeE, restE, isPlain, mtrue, List.replicate, List.set, oTest, isiInt, isiBool, isiStr, isiTup, isiList, oLe, oLt, oGe, oGt, oOrd, oLen, oIx, gotD]
theorem dd_bag_0_0 {d d1 d2 d3 : PyData} {e1 e2 e3 : En} {n : Int} (h1 : F__law_draw [.io d, .sh (.int 4)] = .ok (.sh (.int 0)) (.io d1 :: e1)) (h2 : F__law_draw [.io d1, .sh (.int 2)] = .ok (.sh (.int 0)) (.io d2 :: e2)) (h3 : F__law_draw [.io d2, .sh (.int 3)] = .ok (.sh (.int n)) (.io d3 :: e3)) : F__law_deed [.io d, .sh (.str "bag")] = .ok (.sh (.tuple [.str "keep", .int (n - 1)])) [.io d3, .sh (.str "bag"), .sh (.str "keep")] := by
  simp [F__law_deed, m__law_deed, kd_all, kv_bag, mcallI, isOwn, h1, h2, h3, L2.atI, L2.ixN, oSub, oInt, eg_put, eg_get, eg_add, eg_read, eg_push, eg_pop, eg_keep, eg_drop, eg_has, ZD.run, mret, mretN, shV, vand, vor, vnot, fz, op1, op2, op2c, opv2, nm, nv, cst, odD, bnd, ZD.ret, ZD.fail, out, look, tst, mnot, mand, mor, mif, mifS, mseq, mnx, macons, manil, mtup, mlst, asgN, masg, slOf, asgT, tgtup, tgcons, tgnil, tgN, Vl.d, stepC, ZD.wp, wipeable, wipeE, restE, isPlain, mtrue, List.replicate, List.set, oTest, isiInt, isiBool, isiStr, isiTup, isiList, oLe, oLt, oGe, oGt, oOrd, oLen, oIx, gotD]
theorem dd_bag_0_1 {d d1 d2 d3 : PyData} {e1 e2 e3 : En} {n : Int} (h1 : F__law_draw [.io d, .sh (.int 4)] = .ok (.sh (.int 0)) (.io d1 :: e1)) (h2 : F__law_draw [.io d1, .sh (.int 2)] = .ok (.sh (.int 1)) (.io d2 :: e2)) (h3 : F__law_draw [.io d2, .sh (.int 9)] = .ok (.sh (.int n)) (.io d3 :: e3)) : F__law_deed [.io d, .sh (.str "bag")] = .ok (.sh (.tuple [.str "keep", .int (n - 1)])) [.io d3, .sh (.str "bag"), .sh (.str "keep")] := by
  simp [F__law_deed, m__law_deed, kd_all, kv_bag, mcallI, isOwn, h1, h2, h3, L2.atI, L2.ixN, oSub, oInt, eg_put, eg_get, eg_add, eg_read, eg_push, eg_pop, eg_keep, eg_drop, eg_has, ZD.run, mret, mretN, shV, vand, vor, vnot, fz, op1, op2, op2c, opv2, nm, nv, cst, odD, bnd, ZD.ret, ZD.fail, out, look, tst, mnot, mand, mor, mif, mifS, mseq, mnx, macons, manil, mtup, mlst, asgN, masg, slOf, asgT, tgtup, tgcons, tgnil, tgN, Vl.d, stepC, ZD.wp, wipeable, wipeE, restE, isPlain, mtrue, List.replicate, List.set, oTest, isiInt, isiBool, isiStr, isiTup, isiList, oLe, oLt, oGe, oGt, oOrd, oLen, oIx, gotD]
theorem dd_bag_1_0 {d d1 d2 d3 : PyData} {e1 e2 e3 : En} {n : Int} (h1 : F__law_draw [.io d, .sh (.int 4)] = .ok (.sh (.int 1)) (.io d1 :: e1)) (h2 : F__law_draw [.io d1, .sh (.int 2)] = .ok (.sh (.int 0)) (.io d2 :: e2)) (h3 : F__law_draw [.io d2, .sh (.int 3)] = .ok (.sh (.int n)) (.io d3 :: e3)) : F__law_deed [.io d, .sh (.str "bag")] = .ok (.sh (.tuple [.str "drop", .int (n - 1)])) [.io d3, .sh (.str "bag"), .sh (.str "drop")] := by
  simp [F__law_deed, m__law_deed, kd_all, kv_bag, mcallI, isOwn, h1, h2, h3, L2.atI, L2.ixN, oSub, oInt, eg_put, eg_get, eg_add, eg_read, eg_push, eg_pop, eg_keep, eg_drop, eg_has, ZD.run, mret, mretN, shV, vand, vor, vnot, fz, op1, op2, op2c, opv2, nm, nv, cst, odD, bnd, ZD.ret, ZD.fail, out, look, tst, mnot, mand, mor, mif, mifS, mseq, mnx, macons, manil, mtup, mlst, asgN, masg, slOf, asgT, tgtup, tgcons, tgnil, tgN, Vl.d, stepC, ZD.wp, wipeable, wipeE, restE, isPlain, mtrue, List.replicate, List.set, oTest, isiInt, isiBool, isiStr, isiTup, isiList, oLe, oLt, oGe, oGt, oOrd, oLen, oIx, gotD]
theorem dd_bag_1_1 {d d1 d2 d3 : PyData} {e1 e2 e3 : En} {n : Int} (h1 : F__law_draw [.io d, .sh (.int 4)] = .ok (.sh (.int 1)) (.io d1 :: e1)) (h2 : F__law_draw [.io d1, .sh (.int 2)] = .ok (.sh (.int 1)) (.io d2 :: e2)) (h3 : F__law_draw [.io d2, .sh (.int 9)] = .ok (.sh (.int n)) (.io d3 :: e3)) : F__law_deed [.io d, .sh (.str "bag")] = .ok (.sh (.tuple [.str "drop", .int (n - 1)])) [.io d3, .sh (.str "bag"), .sh (.str "drop")] := by
  simp [F__law_deed, m__law_deed, kd_all, kv_bag, mcallI, isOwn, h1, h2, h3, L2.atI, L2.ixN, oSub, oInt, eg_put, eg_get, eg_add, eg_read, eg_push, eg_pop, eg_keep, eg_drop, eg_has, ZD.run, mret, mretN, shV, vand, vor, vnot, fz, op1, op2, op2c, opv2, nm, nv, cst, odD, bnd, ZD.ret, ZD.fail, out, look, tst, mnot, mand, mor, mif, mifS, mseq, mnx, macons, manil, mtup, mlst, asgN, masg, slOf, asgT, tgtup, tgcons, tgnil, tgN, Vl.d, stepC, ZD.wp, wipeable, wipeE, restE, isPlain, mtrue, List.replicate, List.set, oTest, isiInt, isiBool, isiStr, isiTup, isiList, oLe, oLt, oGe, oGt, oOrd, oLen, oIx, gotD]
theorem dd_bag_2_0 {d d1 d2 d3 : PyData} {e1 e2 e3 : En} {n : Int} (h1 : F__law_draw [.io d, .sh (.int 4)] = .ok (.sh (.int 2)) (.io d1 :: e1)) (h2 : F__law_draw [.io d1, .sh (.int 2)] = .ok (.sh (.int 0)) (.io d2 :: e2)) (h3 : F__law_draw [.io d2, .sh (.int 3)] = .ok (.sh (.int n)) (.io d3 :: e3)) : F__law_deed [.io d, .sh (.str "bag")] = .ok (.sh (.tuple [.str "has", .int (n - 1)])) [.io d3, .sh (.str "bag"), .sh (.str "has")] := by
  simp [F__law_deed, m__law_deed, kd_all, kv_bag, mcallI, isOwn, h1, h2, h3, L2.atI, L2.ixN, oSub, oInt, eg_put, eg_get, eg_add, eg_read, eg_push, eg_pop, eg_keep, eg_drop, eg_has, ZD.run, mret, mretN, shV, vand, vor, vnot, fz, op1, op2, op2c, opv2, nm, nv, cst, odD, bnd, ZD.ret, ZD.fail, out, look, tst, mnot, mand, mor, mif, mifS, mseq, mnx, macons, manil, mtup, mlst, asgN, masg, slOf, asgT, tgtup, tgcons, tgnil, tgN, Vl.d, stepC, ZD.wp, wipeable, wipeE, restE, isPlain, mtrue, List.replicate, List.set, oTest, isiInt, isiBool, isiStr, isiTup, isiList, oLe, oLt, oGe, oGt, oOrd, oLen, oIx, gotD]
theorem dd_bag_2_1 {d d1 d2 d3 : PyData} {e1 e2 e3 : En} {n : Int} (h1 : F__law_draw [.io d, .sh (.int 4)] = .ok (.sh (.int 2)) (.io d1 :: e1)) (h2 : F__law_draw [.io d1, .sh (.int 2)] = .ok (.sh (.int 1)) (.io d2 :: e2)) (h3 : F__law_draw [.io d2, .sh (.int 9)] = .ok (.sh (.int n)) (.io d3 :: e3)) : F__law_deed [.io d, .sh (.str "bag")] = .ok (.sh (.tuple [.str "has", .int (n - 1)])) [.io d3, .sh (.str "bag"), .sh (.str "has")] := by
  simp [F__law_deed, m__law_deed, kd_all, kv_bag, mcallI, isOwn, h1, h2, h3, L2.atI, L2.ixN, oSub, oInt, eg_put, eg_get, eg_add, eg_read, eg_push, eg_pop, eg_keep, eg_drop, eg_has, ZD.run, mret, mretN, shV, vand, vor, vnot, fz, op1, op2, op2c, opv2, nm, nv, cst, odD, bnd, ZD.ret, ZD.fail, out, look, tst, mnot, mand, mor, mif, mifS, mseq, mnx, macons, manil, mtup, mlst, asgN, masg, slOf, asgT, tgtup, tgcons, tgnil, tgN, Vl.d, stepC, ZD.wp, wipeable, wipeE, restE, isPlain, mtrue, List.replicate, List.set, oTest, isiInt, isiBool, isiStr, isiTup, isiList, oLe, oLt, oGe, oGt, oOrd, oLen, oIx, gotD]
theorem dd_bag_3_0 {d d1 d2 d3 : PyData} {e1 e2 e3 : En} {n : Int} (h1 : F__law_draw [.io d, .sh (.int 4)] = .ok (.sh (.int 3)) (.io d1 :: e1)) (h2 : F__law_draw [.io d1, .sh (.int 2)] = .ok (.sh (.int 0)) (.io d2 :: e2)) (h3 : F__law_draw [.io d2, .sh (.int 3)] = .ok (.sh (.int n)) (.io d3 :: e3)) : F__law_deed [.io d, .sh (.str "bag")] = .ok (.sh (.tuple [.str "keep", .int (n - 1)])) [.io d3, .sh (.str "bag"), .sh (.str "keep")] := by
  simp [F__law_deed, m__law_deed, kd_all, kv_bag, mcallI, isOwn, h1, h2, h3, L2.atI, L2.ixN, oSub, oInt, eg_put, eg_get, eg_add, eg_read, eg_push, eg_pop, eg_keep, eg_drop, eg_has, ZD.run, mret, mretN, shV, vand, vor, vnot, fz, op1, op2, op2c, opv2, nm, nv, cst, odD, bnd, ZD.ret, ZD.fail, out, look, tst, mnot, mand, mor, mif, mifS, mseq, mnx, macons, manil, mtup, mlst, asgN, masg, slOf, asgT, tgtup, tgcons, tgnil, tgN, Vl.d, stepC, ZD.wp, wipeable, wipeE, restE, isPlain, mtrue, List.replicate, List.set, oTest, isiInt, isiBool, isiStr, isiTup, isiList, oLe, oLt, oGe, oGt, oOrd, oLen, oIx, gotD]
theorem dd_bag_3_1 {d d1 d2 d3 : PyData} {e1 e2 e3 : En} {n : Int} (h1 : F__law_draw [.io d, .sh (.int 4)] = .ok (.sh (.int 3)) (.io d1 :: e1)) (h2 : F__law_draw [.io d1, .sh (.int 2)] = .ok (.sh (.int 1)) (.io d2 :: e2)) (h3 : F__law_draw [.io d2, .sh (.int 9)] = .ok (.sh (.int n)) (.io d3 :: e3)) : F__law_deed [.io d, .sh (.str "bag")] = .ok (.sh (.tuple [.str "keep", .int (n - 1)])) [.io d3, .sh (.str "bag"), .sh (.str "keep")] := by
  simp [F__law_deed, m__law_deed, kd_all, kv_bag, mcallI, isOwn, h1, h2, h3, L2.atI, L2.ixN, oSub, oInt, eg_put, eg_get, eg_add, eg_read, eg_push, eg_pop, eg_keep, eg_drop, eg_has, ZD.run, mret, mretN, shV, vand, vor, vnot, fz, op1, op2, op2c, opv2, nm, nv, cst, odD, bnd, ZD.ret, ZD.fail, out, look, tst, mnot, mand, mor, mif, mifS, mseq, mnx, macons, manil, mtup, mlst, asgN, masg, slOf, asgT, tgtup, tgcons, tgnil, tgN, Vl.d, stepC, ZD.wp, wipeable, wipeE, restE, isPlain, mtrue, List.replicate, List.set, oTest, isiInt, isiBool, isiStr, isiTup, isiList, oLe, oLt, oGe, oGt, oOrd, oLen, oIx, gotD]
theorem two {r : Int} (h0 : 0 ≤ r) (h1 : r < 2) : r = 0 ∨ r = 1 := by omega
theorem four {r : Int} (h0 : 0 ≤ r) (h1 : r < 4) : r = 0 ∨ r = 1 ∨ r = 2 ∨ r = 3 := by omega
theorem s_deed_cell {n : Nat} {d : PyData} (hd : DS n d) (hn : n < 100000) : ∃ deed d2 en, F__law_deed [.io d, .sh (.str "cell")] = .ok (.sh deed) (.io d2 :: en) ∧ OkD "cell" deed ∧ DS (n + 3) d2 := by
  obtain ⟨r, d1, e1, h1, q0, q1, hd1⟩ := s_draw hd (by omega) 2 (by decide) (log_small (by decide) (by decide))
  rcases two q0 q1 with rfl | rfl
  · obtain ⟨r2, d2, e2, h2, p0, p1, hd2⟩ := s_draw hd1 (by omega) 2 (by decide) (log_small (by decide) (by decide))
    rcases two p0 p1 with rfl | rfl
    · obtain ⟨r3, d3, e3, h3, _, _, hd3⟩ := s_draw hd2 (by omega) 3 (by decide) (log_small (by decide) (by decide))
      exact ⟨_, _, _, dd_cell_0_0 h1 h2 h3, .inl ⟨rfl, .inl ⟨_, rfl⟩⟩, hd3.up (by omega)⟩
    · obtain ⟨r3, d3, e3, h3, _, _, hd3⟩ := s_draw hd2 (by omega) 9 (by decide) (log_small (by decide) (by decide))
      exact ⟨_, _, _, dd_cell_0_1 h1 h2 h3, .inl ⟨rfl, .inl ⟨_, rfl⟩⟩, hd3.up (by omega)⟩
  · exact ⟨_, _, _, dd_cell_1 h1, .inl ⟨rfl, .inr rfl⟩, hd1.up (by omega)⟩

theorem s_deed_count {n : Nat} {d : PyData} (hd : DS n d) (hn : n < 100000) : ∃ deed d2 en, F__law_deed [.io d, .sh (.str "count")] = .ok (.sh deed) (.io d2 :: en) ∧ OkD "count" deed ∧ DS (n + 3) d2 := by
  obtain ⟨r, d1, e1, h1, q0, q1, hd1⟩ := s_draw hd (by omega) 2 (by decide) (log_small (by decide) (by decide))
  rcases two q0 q1 with rfl | rfl
  · obtain ⟨r2, d2, e2, h2, p0, p1, hd2⟩ := s_draw hd1 (by omega) 2 (by decide) (log_small (by decide) (by decide))
    rcases two p0 p1 with rfl | rfl
    · obtain ⟨r3, d3, e3, h3, _, _, hd3⟩ := s_draw hd2 (by omega) 3 (by decide) (log_small (by decide) (by decide))
      exact ⟨_, _, _, dd_count_0_0 h1 h2 h3, .inr (.inl ⟨rfl, .inl ⟨_, rfl⟩⟩), hd3.up (by omega)⟩
    · obtain ⟨r3, d3, e3, h3, _, _, hd3⟩ := s_draw hd2 (by omega) 9 (by decide) (log_small (by decide) (by decide))
      exact ⟨_, _, _, dd_count_0_1 h1 h2 h3, .inr (.inl ⟨rfl, .inl ⟨_, rfl⟩⟩), hd3.up (by omega)⟩
  · exact ⟨_, _, _, dd_count_1 h1, .inr (.inl ⟨rfl, .inr rfl⟩), hd1.up (by omega)⟩

theorem s_deed_stack {n : Nat} {d : PyData} (hd : DS n d) (hn : n < 100000) : ∃ deed d2 en, F__law_deed [.io d, .sh (.str "stack")] = .ok (.sh deed) (.io d2 :: en) ∧ OkD "stack" deed ∧ DS (n + 3) d2 := by
  obtain ⟨r, d1, e1, h1, q0, q1, hd1⟩ := s_draw hd (by omega) 2 (by decide) (log_small (by decide) (by decide))
  rcases two q0 q1 with rfl | rfl
  · obtain ⟨r2, d2, e2, h2, p0, p1, hd2⟩ := s_draw hd1 (by omega) 2 (by decide) (log_small (by decide) (by decide))
    rcases two p0 p1 with rfl | rfl
    · obtain ⟨r3, d3, e3, h3, _, _, hd3⟩ := s_draw hd2 (by omega) 3 (by decide) (log_small (by decide) (by decide))
      exact ⟨_, _, _, dd_stack_0_0 h1 h2 h3, .inr (.inr (.inl ⟨.inl rfl, .inl ⟨_, rfl⟩⟩)), hd3.up (by omega)⟩
    · obtain ⟨r3, d3, e3, h3, _, _, hd3⟩ := s_draw hd2 (by omega) 9 (by decide) (log_small (by decide) (by decide))
      exact ⟨_, _, _, dd_stack_0_1 h1 h2 h3, .inr (.inr (.inl ⟨.inl rfl, .inl ⟨_, rfl⟩⟩)), hd3.up (by omega)⟩
  · exact ⟨_, _, _, dd_stack_1 h1, .inr (.inr (.inl ⟨.inl rfl, .inr rfl⟩)), hd1.up (by omega)⟩

theorem s_deed_queue {n : Nat} {d : PyData} (hd : DS n d) (hn : n < 100000) : ∃ deed d2 en, F__law_deed [.io d, .sh (.str "queue")] = .ok (.sh deed) (.io d2 :: en) ∧ OkD "queue" deed ∧ DS (n + 3) d2 := by
  obtain ⟨r, d1, e1, h1, q0, q1, hd1⟩ := s_draw hd (by omega) 2 (by decide) (log_small (by decide) (by decide))
  rcases two q0 q1 with rfl | rfl
  · obtain ⟨r2, d2, e2, h2, p0, p1, hd2⟩ := s_draw hd1 (by omega) 2 (by decide) (log_small (by decide) (by decide))
    rcases two p0 p1 with rfl | rfl
    · obtain ⟨r3, d3, e3, h3, _, _, hd3⟩ := s_draw hd2 (by omega) 3 (by decide) (log_small (by decide) (by decide))
      exact ⟨_, _, _, dd_queue_0_0 h1 h2 h3, .inr (.inr (.inl ⟨.inr rfl, .inl ⟨_, rfl⟩⟩)), hd3.up (by omega)⟩
    · obtain ⟨r3, d3, e3, h3, _, _, hd3⟩ := s_draw hd2 (by omega) 9 (by decide) (log_small (by decide) (by decide))
      exact ⟨_, _, _, dd_queue_0_1 h1 h2 h3, .inr (.inr (.inl ⟨.inr rfl, .inl ⟨_, rfl⟩⟩)), hd3.up (by omega)⟩
  · exact ⟨_, _, _, dd_queue_1 h1, .inr (.inr (.inl ⟨.inr rfl, .inr rfl⟩)), hd1.up (by omega)⟩

theorem s_deed_bag {n : Nat} {d : PyData} (hd : DS n d) (hn : n < 100000) : ∃ deed d2 en, F__law_deed [.io d, .sh (.str "bag")] = .ok (.sh deed) (.io d2 :: en) ∧ OkD "bag" deed ∧ DS (n + 3) d2 := by
  obtain ⟨r, d1, e1, h1, q0, q1, hd1⟩ := s_draw hd (by omega) 4 (by decide) (log_small (by decide) (by decide))
  rcases four q0 q1 with rfl | rfl | rfl | rfl
  · obtain ⟨r2, d2, e2, h2, p0, p1, hd2⟩ := s_draw hd1 (by omega) 2 (by decide) (log_small (by decide) (by decide))
    rcases two p0 p1 with rfl | rfl
    · obtain ⟨r3, d3, e3, h3, _, _, hd3⟩ := s_draw hd2 (by omega) 3 (by decide) (log_small (by decide) (by decide))
      exact ⟨_, _, _, dd_bag_0_0 h1 h2 h3, .inr (.inr (.inr ⟨rfl, _, _, .inl rfl, rfl⟩)), hd3.up (by omega)⟩
    · obtain ⟨r3, d3, e3, h3, _, _, hd3⟩ := s_draw hd2 (by omega) 9 (by decide) (log_small (by decide) (by decide))
      exact ⟨_, _, _, dd_bag_0_1 h1 h2 h3, .inr (.inr (.inr ⟨rfl, _, _, .inl rfl, rfl⟩)), hd3.up (by omega)⟩
  · obtain ⟨r2, d2, e2, h2, p0, p1, hd2⟩ := s_draw hd1 (by omega) 2 (by decide) (log_small (by decide) (by decide))
    rcases two p0 p1 with rfl | rfl
    · obtain ⟨r3, d3, e3, h3, _, _, hd3⟩ := s_draw hd2 (by omega) 3 (by decide) (log_small (by decide) (by decide))
      exact ⟨_, _, _, dd_bag_1_0 h1 h2 h3, .inr (.inr (.inr ⟨rfl, _, _, .inr (.inl rfl), rfl⟩)), hd3.up (by omega)⟩
    · obtain ⟨r3, d3, e3, h3, _, _, hd3⟩ := s_draw hd2 (by omega) 9 (by decide) (log_small (by decide) (by decide))
      exact ⟨_, _, _, dd_bag_1_1 h1 h2 h3, .inr (.inr (.inr ⟨rfl, _, _, .inr (.inl rfl), rfl⟩)), hd3.up (by omega)⟩
  · obtain ⟨r2, d2, e2, h2, p0, p1, hd2⟩ := s_draw hd1 (by omega) 2 (by decide) (log_small (by decide) (by decide))
    rcases two p0 p1 with rfl | rfl
    · obtain ⟨r3, d3, e3, h3, _, _, hd3⟩ := s_draw hd2 (by omega) 3 (by decide) (log_small (by decide) (by decide))
      exact ⟨_, _, _, dd_bag_2_0 h1 h2 h3, .inr (.inr (.inr ⟨rfl, _, _, .inr (.inr rfl), rfl⟩)), hd3.up (by omega)⟩
    · obtain ⟨r3, d3, e3, h3, _, _, hd3⟩ := s_draw hd2 (by omega) 9 (by decide) (log_small (by decide) (by decide))
      exact ⟨_, _, _, dd_bag_2_1 h1 h2 h3, .inr (.inr (.inr ⟨rfl, _, _, .inr (.inr rfl), rfl⟩)), hd3.up (by omega)⟩
  · obtain ⟨r2, d2, e2, h2, p0, p1, hd2⟩ := s_draw hd1 (by omega) 2 (by decide) (log_small (by decide) (by decide))
    rcases two p0 p1 with rfl | rfl
    · obtain ⟨r3, d3, e3, h3, _, _, hd3⟩ := s_draw hd2 (by omega) 3 (by decide) (log_small (by decide) (by decide))
      exact ⟨_, _, _, dd_bag_3_0 h1 h2 h3, .inr (.inr (.inr ⟨rfl, _, _, .inl rfl, rfl⟩)), hd3.up (by omega)⟩
    · obtain ⟨r3, d3, e3, h3, _, _, hd3⟩ := s_draw hd2 (by omega) 9 (by decide) (log_small (by decide) (by decide))
      exact ⟨_, _, _, dd_bag_3_1 h1 h2 h3, .inr (.inr (.inr ⟨rfl, _, _, .inl rfl, rfl⟩)), hd3.up (by omega)⟩

end Q49
namespace Q49
open PySem ZD
theorem kindOk_of {a k : PyData} (h : k ∈ kinds) : kindOk (.tuple [a, k]) = true := by
  simp only [kinds, List.mem_cons, List.not_mem_nil, or_false] at h
  rcases h with rfl | rfl | rfl | rfl | rfl <;> rfl
theorem names_ok {m : Nat} (h1 : 1 ≤ m) (h2 : m ≤ 6) : namesOk (names6.take m) 1 6 = true := by
  have : m = 1 ∨ m = 2 ∨ m = 3 ∨ m = 4 ∨ m = 5 ∨ m = 6 := by omega
  rcases this with rfl | rfl | rfl | rfl | rfl | rfl <;> rfl
/-- a good row: its front, its last pair -/
theorem good_split {m : Nat} {ps : List PyData} (h1 : 1 ≤ m) (h2 : m ≤ 6) (h : GoodPs m ps) : ∃ qs a k, ps = qs ++ [.tuple [a, k]] ∧ k ∈ kinds ∧ a ∈ names6 ∧ qs.map fstD = (names6.take m).dropLast ∧ (names6.take m).getLast? = some a ∧ (∀ p ∈ qs, ∃ a k, p = .tuple [a, k] ∧ k ∈ kinds) ∧ qs.length ≤ 5 := by
  obtain ⟨g1, g2⟩ := h
  have hl : ps.length = m := by
    have e := congrArg List.length g1
    rw [List.length_map, List.length_take] at e
    rw [e]; show min m 6 = m; omega
  have hne : ps ≠ [] := fun e => by rw [e] at hl; simp at hl; omega
  have hps := List.dropLast_concat_getLast hne
  obtain ⟨a, k, e1, e2⟩ := g2 _ (List.getLast_mem hne)
  rw [e1] at hps
  have e3 : ps.map fstD = ps.dropLast.map fstD ++ [a] := by
    conv => lhs; rw [← hps]
    rw [List.map_append]; rfl
  rw [g1] at e3
  refine ⟨ps.dropLast, a, k, hps.symm, e2, ?_, ?_, ?_, fun p hp => g2 p (List.dropLast_subset _ hp), ?_⟩
  · have : a ∈ names6.take m := by rw [e3]; simp
    exact List.take_subset _ _ this
  · rw [e3]; simp
  · rw [e3]; simp
  · rw [List.length_dropLast]; omega
theorem small_name {a : PyData} (h : a ∈ names6) : small a := by
  simp only [names6, List.mem_cons, List.not_mem_nil, or_false] at h
  rcases h with rfl | rfl | rfl | rfl | rfl | rfl <;> (show Str.length _ ≤ 1000000; decide)
theorem name_of {a : PyData} (h : a ∈ names6) : nameOk a = true ∧ ∃ z, a = .str z := by
  simp only [names6, List.mem_cons, List.not_mem_nil, or_false] at h
  rcases h with rfl | rfl | rfl | rfl | rfl | rfl <;> exact ⟨rfl, _, rfl⟩
theorem pairs_ok {qs : List PyData} (h : ∀ p ∈ qs, ∃ a k, p = .tuple [a, k] ∧ k ∈ kinds) : qs.all pairOk = true := List.all_eq_true.mpr fun p hp => by
  obtain ⟨a, k, rfl, _⟩ := h p hp
  rfl
theorem kinds_ok {qs : List PyData} (h : ∀ p ∈ qs, ∃ a k, p = .tuple [a, k] ∧ k ∈ kinds) : qs.all kindOk = true := List.all_eq_true.mpr fun p hp => by
  obtain ⟨a, k, rfl, hk⟩ := h p hp
  exact kindOk_of hk
theorem good_ok {m : Nat} {ps : List PyData} (h1 : 1 ≤ m) (h2 : m ≤ 6) (h : GoodPs m ps) : thingsOk (.tuple ps) = true := by
  obtain ⟨g1, g2⟩ := h
  have e := names_ok h1 h2
  simp only [thingsOk, pairs_ok g2, kinds_ok g2, g1, e, Bool.and_true]
theorem good_small {m : Nat} {ps : List PyData} (h : GoodPs m ps) : ∀ p ∈ ps, smallP p := fun p hp => by
  obtain ⟨a, k, rfl, _⟩ := h.2 p hp
  have : a ∈ ps.map fstD := List.mem_map.mpr ⟨_, hp, rfl⟩
  rw [h.1] at this
  exact small_name (List.take_subset _ _ this)
/-- the wrong values -/
def wrongs (qs : List PyData) (a k : PyData) : List PyData :=
  [.none, .tuple [], .list (qs ++ [.tuple [a, k]]), .tuple (qs ++ [.tuple [a, k], .tuple [a, k]]), .tuple (qs ++ [.tuple [a, .str "pile"]]), .tuple (qs ++ [.tuple [a, .none]]), .tuple (qs ++ [.tuple [a]]), .tuple (qs ++ [.list [a, k]]), .tuple (qs ++ [.tuple [.str "B1", k]]),
    .tuple (qs ++ [.tuple [a, k, .int 0]]), .tuple (qs ++ [.tuple [.none, k]]), .tuple [.tuple [.str "b", .str "cell"], .tuple [.str "a", .str "cell"]],
    .tuple [.tuple [.str "na", .str "cell"], .tuple [.str "nb", .str "cell"], .tuple [.str "nc", .str "cell"], .tuple [.str "nd", .str "cell"], .tuple [.str "ne", .str "cell"], .tuple [.str "nf", .str "cell"], .tuple [.str "ng", .str "cell"]], .int 5, .str "cell", .tuple [a, k]]
theorem no_tup {v : PyData} (h : ∀ ps, v ≠ .tuple ps) : F_is_things [.sh v] = .ok (.sh (.bool false)) [.sh v, .no] := by
  have e : thingsOk v = false := by
    cases v with
    | tuple ps => exact absurd rfl (h ps)
    | _ => rfl
  have := s_is_things_no v h
  rw [e] at this
  exact this
theorem no_of {ps : List PyData} (hs : ∀ p ∈ ps, smallP p) (hl : ps.length ≤ 100) (h : thingsOk (.tuple ps) = false) : F_is_things [.sh (.tuple ps)] = .ok (.sh (.bool false)) [.sh (.tuple ps), .no] := by
  have := s_is_things ps hs (by omega)
  rw [h] at this
  exact this
theorem wrong_all {m : Nat} {qs : List PyData} {a k : PyData} (h1 : 1 ≤ m) (h2 : m ≤ 6) (hk : k ∈ kinds) (ha : a ∈ names6) (hq : qs.map fstD = (names6.take m).dropLast) (hg : (names6.take m).getLast? = some a) (hp : ∀ p ∈ qs, ∃ a k, p = .tuple [a, k] ∧ k ∈ kinds) (hl : qs.length ≤ 5) :
    ∀ v ∈ wrongs qs a k, ∃ en, F_is_things [.sh v] = .ok (.sh (.bool false)) en := by
  have sq : ∀ p ∈ qs, smallP p := fun p h => by
    obtain ⟨b, c, rfl, _⟩ := hp p h
    have : b ∈ qs.map fstD := List.mem_map.mpr ⟨_, h, rfl⟩
    rw [hq] at this
    exact small_name (List.take_subset _ _ (List.dropLast_subset _ this))
  have sap : ∀ (x : PyData), smallP x → ∀ p ∈ qs ++ [x], smallP p := fun x hx p h => by
    rcases List.mem_append.mp h with h | h
    · exact sq p h
    · have e : p = x := by simpa using h
      rw [e]; exact hx
  have po := pairs_ok hp
  have ko := kinds_ok hp
  obtain ⟨na, z, rfl⟩ := name_of ha
  have sa := small_name ha
  intro v hv
  simp only [wrongs, List.mem_cons, List.not_mem_nil, or_false] at hv
  rcases hv with rfl | rfl | rfl | rfl | rfl | rfl | rfl | rfl | rfl | rfl | rfl | rfl | rfl | rfl | rfl | rfl
  · exact ⟨_, no_tup fun ps e => by cases e⟩
  · exact ⟨_, no_of (by simp) (by simp) rfl⟩
  · exact ⟨_, no_tup fun ps e => by cases e⟩
  · refine ⟨_, no_of (fun p h => ?_) (by simp; omega) ?_⟩
    · rcases List.mem_append.mp h with h | h
      · exact sq p h
      · have e : p = .tuple [.str z, k] := by simpa using h
        rw [e]; exact sa
    · have e : (qs ++ [PyData.tuple [.str z, k], .tuple [.str z, k]]).map fstD = (names6.take m).dropLast ++ [.str z, .str z] := by rw [List.map_append, hq]; rfl
      have e2 : namesOk ((names6.take m).dropLast ++ [.str z, .str z]) 1 6 = false := by
        have : m = 1 ∨ m = 2 ∨ m = 3 ∨ m = 4 ∨ m = 5 ∨ m = 6 := by omega
        rcases this with rfl | rfl | rfl | rfl | rfl | rfl <;> (cases hg; rfl)
      simp only [thingsOk, e, e2, Bool.and_false, Bool.false_and]
  · refine ⟨_, no_of (sap _ sa) (by simp; omega) ?_⟩
    have : kindOk (.tuple [.str z, .str "pile"]) = false := rfl
    simp [thingsOk, this]
  · refine ⟨_, no_of (sap _ sa) (by simp; omega) ?_⟩
    have : kindOk (.tuple [.str z, .none]) = false := rfl
    simp [thingsOk, this]
  · refine ⟨_, no_of (sap _ sa) (by simp; omega) ?_⟩
    have : pairOk (.tuple [.str z]) = false := rfl
    simp [thingsOk, this]
  · refine ⟨_, no_of (sap _ trivial) (by simp; omega) ?_⟩
    have : pairOk (.list [.str z, k]) = false := rfl
    simp [thingsOk, this]
  · refine ⟨_, no_of (sap _ (show small (.str "B1") from by show Str.length _ ≤ 1000000; decide)) (by simp; omega) ?_⟩
    have e : (qs ++ [PyData.tuple [.str "B1", k]]).map fstD = qs.map fstD ++ [.str "B1"] := by rw [List.map_append]; rfl
    have : nameOk (.str "B1") = false := rfl
    have e2 : namesOk (qs.map fstD ++ [.str "B1"]) 1 6 = false := by simp [namesOk, this]
    simp only [thingsOk, e, e2, Bool.and_false, Bool.false_and]
  · refine ⟨_, no_of (sap _ sa) (by simp; omega) ?_⟩
    have : pairOk (.tuple [.str z, k, .int 0]) = false := rfl
    simp [thingsOk, this]
  · refine ⟨_, no_of (sap _ trivial) (by simp; omega) ?_⟩
    have e : (qs ++ [PyData.tuple [.none, k]]).map fstD = qs.map fstD ++ [.none] := by rw [List.map_append]; rfl
    have : nameOk .none = false := rfl
    have e2 : namesOk (qs.map fstD ++ [.none]) 1 6 = false := by simp [namesOk, this]
    simp only [thingsOk, e, e2, Bool.and_false, Bool.false_and]
  · exact ⟨_, no_of (by simp [smallP, small]; decide) (by simp) rfl⟩
  · exact ⟨_, no_of (by simp [smallP, small]; decide) (by simp) rfl⟩
  · exact ⟨_, no_tup fun ps e => by cases e⟩
  · exact ⟨_, no_tup fun ps e => by cases e⟩
  · refine ⟨_, no_of (ps := [.str z, k]) (fun p h => ?_) (by simp) rfl⟩
    simp only [kinds, List.mem_cons, List.not_mem_nil, or_false] at hk h
    rcases h with rfl | rfl
    · trivial
    · rcases hk with rfl | rfl | rfl | rfl | rfl <;> trivial

theorem cut_last (qs : List PyData) (x : PyData) : cutD (qs ++ [x]) none (some (-1)) = qs ∧ cutD (qs ++ [x]) (some (-1)) none = [x] := by
  have hl : (qs ++ [x]).length = qs.length + 1 := by simp
  have e1 : HT.sIx (qs.length + 1) (qs.length + 1) (some (-1)) = qs.length := by simp [HT.sIx]; omega
  have e2 : HT.sIx (qs.length + 1) 0 (some (-1)) = qs.length := by simp [HT.sIx]; omega
  have e3 : HT.sIx (qs.length + 1) 0 none = 0 := rfl
  have e4 : HT.sIx (qs.length + 1) (qs.length + 1) none = qs.length + 1 := rfl
  unfold cutD
  rw [hl]
  rw [e1, e2, e3, e4]
  simp
theorem shaped_nil : SeqAt.shaped (.list []) = true := rfl
theorem s_wrong {m : Nat} {ps : List PyData} (h1 : 1 ≤ m) (h2 : m ≤ 6) (h : GoodPs m ps) : ∃ en, F__law_wrong [.sh (.tuple ps)] = .ok (.sh (.bool true)) en := by
  obtain ⟨qs, a, k, rfl, hk, ha, hq, hg, hp, hl⟩ := good_split h1 h2 h
  have hw := wrong_all h1 h2 hk ha hq hg hp hl
  have g0 := s_is_things _ (good_small h) (by simp; omega)
  rw [good_ok h1 h2 h] at g0
  obtain ⟨c1, c2⟩ := cut_last qs (.tuple [a, k])
  have la : L2.atI (qs ++ [PyData.tuple [a, k]]) (-1) = some (.tuple [a, k]) := L2.atI_last qs _
  have e1 : c1__law_wrong [.sh (.tuple (qs ++ [.tuple [a, k]])), .sh a, .sh k, .sh (.tuple qs), .no, .no, .no] = .ok (.ow (.list [.tuple [.str "na", .str "cell"], .tuple [.str "nb", .str "cell"], .tuple [.str "nc", .str "cell"], .tuple [.str "nd", .str "cell"], .tuple [.str "ne", .str "cell"], .tuple [.str "nf", .str "cell"], .tuple [.str "ng", .str "cell"]])) [.sh (.tuple (qs ++ [.tuple [a, k]])), .sh a, .sh k, .sh (.tuple qs), .no, .no, .no] := rfl
  have e2 : ∀ (x : Sl), c2__law_wrong [.sh (.tuple (qs ++ [.tuple [a, k]])), .sh a, .sh k, .sh (.tuple qs), .ow (.list (wrongs qs a k)), .no, .no] = .ok (.ow (.list [])) [.sh (.tuple (qs ++ [.tuple [a, k]])), .sh a, .sh k, .sh (.tuple qs), .sh (.list (wrongs qs a k)), .no, .no] := fun x =>
    allV_eq (wp_mcomp (wp_eq (a := wrongs qs a k) (en1 := [.sh (.tuple (qs ++ [.tuple [a, k]])), .sh a, .sh k, .sh (.tuple qs), .sh (.list (wrongs qs a k)), .no, .no]) (by simp [seqM, ZD.run, mret, mretN, shV, vand, vor, vnot, fz, op1, op2, op2c, opv2, nm, nv, cst, odD, bnd, ZD.ret, ZD.fail, out, look, tst, mnot, mand, mor, mif, mifS, mseq, mnx, macons, manil, mtup, mlst, asgN, masg, slOf, asgT, tgtup, tgcons, tgnil, tgN, Vl.d, stepC, ZD.wp, wipeable, wipeE, restE, isPlain, mtrue, List.replicate, List.set, oTest, isiInt, isiBool, isiStr, isiTup, isiList, oLe, oLt, oGe, oGt, oOrd, oLen, oIx, gotD]) ⟨by simp [wrongs], by simp [ZD.run, mret, mretN, shV, vand, vor, vnot, fz, op1, op2, op2c, opv2, nm, nv, cst, odD, bnd, ZD.ret, ZD.fail, out, look, tst, mnot, mand, mor, mif, mifS, mseq, mnx, macons, manil, mtup, mlst, asgN, masg, slOf, asgT, tgtup, tgcons, tgnil, tgN, Vl.d, stepC, ZD.wp, wipeable, wipeE, restE, isPlain, mtrue, List.replicate, List.set, oTest, isiInt, isiBool, isiStr, isiTup, isiList, oLe, oLt, oGe, oGt, oOrd, oLen, oIx, gotD], fun _ => none, fun v hv => by
      obtain ⟨en, he⟩ := hw v hv
      simp [mcall, he, oIs, ZD.run, mret, mretN, shV, vand, vor, vnot, fz, op1, op2, op2c, opv2, nm, nv, cst, odD, bnd, ZD.ret, ZD.fail, out, look, tst, mnot, mand, mor, mif, mifS, mseq, mnx, macons, manil, mtup, mlst, asgN, masg, slOf, asgT, tgtup, tgcons, tgnil, tgN, Vl.d, stepC, ZD.wp, wipeable, wipeE, restE, isPlain, mtrue, List.replicate, List.set, oTest, isiInt, isiBool, isiStr, isiTup, isiList, oLe, oLt, oGe, oGt, oOrd, oLen, oIx, gotD], by
      have e : ∀ l : List PyData, l.filterMap (fun _ => (none : Option PyData)) = [] := fun l => by induction l with | nil => rfl | cons x l ih => rw [List.filterMap_cons]; exact ih
      rw [e], by simp [ZD.run, mret, mretN, shV, vand, vor, vnot, fz, op1, op2, op2c, opv2, nm, nv, cst, odD, bnd, ZD.ret, ZD.fail, out, look, tst, mnot, mand, mor, mif, mifS, mseq, mnx, macons, manil, mtup, mlst, asgN, masg, slOf, asgT, tgtup, tgcons, tgnil, tgN, Vl.d, stepC, ZD.wp, wipeable, wipeE, restE, isPlain, mtrue, List.replicate, List.set, oTest, isiInt, isiBool, isiStr, isiTup, isiList, oLe, oLt, oGe, oGt, oOrd, oLen, oIx, gotD]⟩))
  have hl1 : qs.length + 1 ≤ 1000000 := by omega
  have hl2 : qs.length + 1 + 1 ≤ 1000000 := by omega
  have hl3 : qs.length ≤ 999999 := by omega
  have hl4 : qs.length ≤ 999998 := by omega
  have e2 := e2 .no
  unfold wrongs at e2
  refine ⟨[.sh (.tuple (qs ++ [.tuple [a, k]])), .sh a, .sh k, .sh (.tuple qs), .sh (.list (wrongs qs a k)), .no, .no], ?_⟩
  simp [F__law_wrong, m__law_wrong, la, c1, c2, e1, e2, g0, mcall, oI1, mslice, pno, pso, oSl, oAdd, oList, oTuple, hl1, hl2, hl3, hl4, oIs, oEq, shaped_nil, PyData.eqv, PyData.eqvAll, wrongs, ZD.run, mret, mretN, shV, vand, vor, vnot, fz, op1, op2, op2c, opv2, nm, nv, cst, odD, bnd, ZD.ret, ZD.fail, out, look, tst, mnot, mand, mor, mif, mifS, mseq, mnx, macons, manil, mtup, mlst, asgN, masg, slOf, asgT, tgtup, tgcons, tgnil, tgN, Vl.d, stepC, ZD.wp, wipeable, wipeE, restE, isPlain, mtrue, List.replicate, List.set, oTest, isiInt, isiBool, isiStr, isiTup, isiList, oLe, oLt, oGe, oGt, oOrd, oLen, oIx, gotD]
end Q49

namespace Q49
open PySem ZD
/-! right and wrong deeds, one kind after another -/
def isD (k : Str) (b : Bool) (d : PyData) : Bool := match F_is_deed [.sh (.str k), .sh d] with
  | .ok (.sh (.bool c)) _ => c == b
  | _ => false
theorem isD_ok {k : Str} {b : Bool} {d : PyData} (h : isD k b d = true) : ∃ en, F_is_deed [.sh (.str k), .sh d] = .ok (.sh (.bool b)) en := by
  unfold isD at h
  split at h
  · rename_i c en e
    have : c = b := eq_of_beq h
    subst this
    exact ⟨en, e⟩
  · cases h
def okDB (k : Str) (d : PyData) : Bool := match d with
  | .tuple [.str w, .int _] => (k == "cell" && w == "put") || ((k == "count" && w == "add") || (((k == "stack" || k == "queue") && w == "push") || (k == "bag" && (w == "keep" || (w == "drop" || w == "has")))))
  | .tuple [.str w] => (k == "cell" && w == "get") || ((k == "count" && w == "read") || ((k == "stack" || k == "queue") && w == "pop"))
  | _ => false
theorem okDB_ok {k : Str} {d : PyData} (h : okDB k d = true) : OkD k d := by
  unfold okDB at h
  split at h
  · simp only [Bool.or_eq_true, Bool.and_eq_true, beq_iff_eq] at h
    rcases h with ⟨h1, rfl⟩ | ⟨h1, rfl⟩ | ⟨h1, rfl⟩ | ⟨h1, h2⟩
    · exact .inl ⟨h1, .inl ⟨_, rfl⟩⟩
    · exact .inr (.inl ⟨h1, .inl ⟨_, rfl⟩⟩)
    · exact .inr (.inr (.inl ⟨h1, .inl ⟨_, rfl⟩⟩))
    · exact .inr (.inr (.inr ⟨h1, _, _, h2, rfl⟩))
  · simp only [Bool.or_eq_true, Bool.and_eq_true, beq_iff_eq] at h
    rcases h with ⟨h1, rfl⟩ | ⟨h1, rfl⟩ | ⟨h1, rfl⟩
    · exact .inl ⟨h1, .inr rfl⟩
    · exact .inr (.inl ⟨h1, .inr rfl⟩)
    · exact .inr (.inr (.inl ⟨h1, .inr rfl⟩))
  · cases h
def chkK (k : Str) : Bool := match F__law_deeds [.sh (.str k)] with
  | .ok (.sh (.tuple [.list r, .list w])) _ => r.all (okDB k) && (r.all (isD k true) && (w.all (isD k false) && (decide (0 < r.length) && (decide (r.length ≤ 1000) && decide (w.length ≤ 1000)))))
  | _ => false
def fives : List Str := ["cell", "count", "stack", "queue", "bag"]
theorem chk_all : fives.all chkK = true := by kernel_rfl
theorem deeds_of {k : Str} (hk : k ∈ fives) : ∃ r w en, F__law_deeds [.sh (.str k)] = .ok (.sh (.tuple [.list r, .list w])) en ∧ (∀ d ∈ r, OkD k d) ∧ (∀ d ∈ r, ∃ en, F_is_deed [.sh (.str k), .sh d] = .ok (.sh (.bool true)) en) ∧ (∀ d ∈ w, ∃ en, F_is_deed [.sh (.str k), .sh d] = .ok (.sh (.bool false)) en) ∧ 0 < r.length ∧ r.length ≤ 1000 ∧ w.length ≤ 1000 := by
  have h := List.all_eq_true.mp chk_all k hk
  unfold chkK at h
  split at h
  · rename_i r w en e
    simp only [Bool.and_eq_true, List.all_eq_true, decide_eq_true_eq] at h
    obtain ⟨h1, h2, h3, h4, h5, h6⟩ := h
    exact ⟨r, w, en, e, fun d hd => okDB_ok (h1 d hd), fun d hd => isD_ok (h2 d hd), fun d hd => isD_ok (h3 d hd), h4, h5, h6⟩
  · cases h
def st0 (k : Str) : PyData := if k = "cell" ∨ k = "count" then .int 0 else .tuple []
theorem start_of {k : Str} (hk : k ∈ fives) : F_start [.sh (.str k)] = .ok (.sh (st0 k)) [.sh (.str k)] ∧ F__law_start [.sh (.str k)] = .ok (.sh (st0 k)) [.sh (.str k)] ∧ oNe (st0 k) (st0 k) = .d (.bool false) ∧ isiBool (st0 k) = false ∧ OkS k 0 (st0 k) := by
  simp only [fives, List.mem_cons, List.not_mem_nil, or_false] at hk
  rcases hk with rfl | rfl | rfl | rfl | rfl
  · exact ⟨by kernel_rfl, by kernel_rfl, by kernel_rfl, by kernel_rfl, .inl ⟨.inl rfl, 0, rfl⟩⟩
  · exact ⟨by kernel_rfl, by kernel_rfl, by kernel_rfl, by kernel_rfl, .inl ⟨.inr rfl, 0, rfl⟩⟩
  · exact ⟨by kernel_rfl, by kernel_rfl, by kernel_rfl, by kernel_rfl, .inr (.inl ⟨.inl rfl, [], rfl, by simp⟩)⟩
  · exact ⟨by kernel_rfl, by kernel_rfl, by kernel_rfl, by kernel_rfl, .inr (.inl ⟨.inr rfl, [], rfl, by simp⟩)⟩
  · exact ⟨by kernel_rfl, by kernel_rfl, by kernel_rfl, by kernel_rfl, .inr (.inr ⟨rfl, [], rfl, by simp, .nil⟩)⟩
theorem s_deed {k : Str} (hk : k ∈ fives) {n : Nat} {d : PyData} (hd : DS n d) (hn : n < 100000) : ∃ deed d2 en, F__law_deed [.io d, .sh (.str k)] = .ok (.sh deed) (.io d2 :: en) ∧ OkD k deed ∧ DS (n + 3) d2 := by
  simp only [fives, List.mem_cons, List.not_mem_nil, or_false] at hk
  rcases hk with rfl | rfl | rfl | rfl | rfl
  · exact s_deed_cell hd hn
  · exact s_deed_count hd hn
  · exact s_deed_stack hd hn
  · exact s_deed_queue hd hn
  · exact s_deed_bag hd hn
theorem atI_in {ds : List PyData} {r : Int} (h0 : 0 ≤ r) (h1 : r < ds.length) : ∃ d, L2.atI ds r = some d ∧ d ∈ ds := by
  obtain ⟨n, rfl⟩ : ∃ n : Nat, r = n := ⟨r.toNat, by omega⟩
  have hlt : n < ds.length := by omega
  exact ⟨ds[n], atI_of (List.getElem?_eq_getElem hlt), List.getElem_mem hlt⟩
theorem s_alike (r : PyData) (h : Flat r) : F__law_alike [.sh r, .sh r] = .ok (.sh (.bool true)) [.sh r, .sh r] := by
  have sb : ∀ b : Bool, SeqAt.shaped (.bool b) = true := fun b => by simp [SeqAt.shaped, PyData.canLay0, PyData.depth]
  rcases h with rfl | ⟨i, rfl⟩ | ⟨b, rfl⟩
  · kernel_rfl
  · simp [F__law_alike, m__law_alike, oIs, oEq, sb, shaped_int, PyData.eqv, ZD.run, mret, mretN, shV, vand, vor, vnot, fz, op1, op2, op2c, opv2, nm, nv, cst, odD, bnd, ZD.ret, ZD.fail, out, look, tst, mnot, mand, mor, mif, mifS, mseq, mnx, macons, manil, mtup, mlst, asgN, masg, slOf, asgT, tgtup, tgcons, tgnil, tgN, Vl.d, stepC, ZD.wp, wipeable, wipeE, restE, isPlain, mtrue, List.replicate, List.set, oTest, isiInt, isiBool, isiStr, isiTup, isiList, oLe, oLt, oGe, oGt, oOrd, oLen, oIx, gotD]
  · cases b <;> simp [F__law_alike, m__law_alike, oIs, oEq, sb, PyData.eqv, ZD.run, mret, mretN, shV, vand, vor, vnot, fz, op1, op2, op2c, opv2, nm, nv, cst, odD, bnd, ZD.ret, ZD.fail, out, look, tst, mnot, mand, mor, mif, mifS, mseq, mnx, macons, manil, mtup, mlst, asgN, masg, slOf, asgT, tgtup, tgcons, tgnil, tgN, Vl.d, stepC, ZD.wp, wipeable, wipeE, restE, isPlain, mtrue, List.replicate, List.set, oTest, isiInt, isiBool, isiStr, isiTup, isiList, oLe, oLt, oGe, oGt, oOrd, oLen, oIx, gotD]
theorem ok_self {k : Str} {m : Nat} {s : PyData} (h : OkS k m s) : oNe s s = .d (.bool false) ∧ isiBool s = false := by
  have tup : ∀ ns : List Int, oNe (.tuple (ns.map .int)) (.tuple (ns.map .int)) = .d (.bool false) := fun ns => by
    have e : PyData.eqv (.tuple (ns.map .int)) (.tuple (ns.map .int)) = true := by
      rw [PyData.eqv]
      induction ns with
      | nil => rfl
      | cons n ns ih => simp only [List.map_cons, PyData.eqvAll, PyData.eqv, beq_self_eq_true, Bool.true_and]; exact ih
    unfold oNe
    rw [shaped_ints, e]
    rfl
  rcases h with ⟨_, i, rfl⟩ | ⟨_, ns, rfl, _⟩ | ⟨_, ns, rfl, _⟩
  · exact ⟨by rw [ne_int]; simp, rfl⟩
  · exact ⟨tup ns, rfl⟩
  · exact ⟨tup ns, rfl⟩
theorem tup_eq {k : Str} {m : Nat} {s : PyData} (h : OkS k m s) : ∃ b, isiTup s = b ∧ oNe (.bool b) (.bool b) = .d (.bool false) := ⟨_, rfl, by cases isiTup s <;> kernel_rfl⟩
/-- plain: nothing, or a tree that stays -/
def Pl (x : Sl) : Prop := x = .no ∨ ∃ d, x = .sh d
theorem Pl.io {x : Sl} (h : Pl x) : ∀ d, x ≠ .io d := fun d e => by subst e; rcases h with h | ⟨_, h⟩ <;> cases h
theorem Pl.plain {x : Sl} (h : Pl x) : isPlain (some x) = true := by rcases h with rfl | ⟨_, rfl⟩ <;> rfl
theorem pl_sh (d : PyData) : Pl (.sh d) := .inr ⟨d, rfl⟩
theorem pl_no : Pl .no := .inl rfl
end Q49

namespace Q49
open PySem ZD
theorem masg_pl {i : Nat} {x : Vl} {e : En} {s : Sl} (h : e[i]? = some s) (hp : Pl s) : masg i x e = .ok .nx (e.set i (slOf x)) := by
  unfold masg
  rw [h]
  rcases hp with rfl | ⟨_, rfl⟩ <;> rfl
theorem wp_no {t : M Bool} {m n : M Fl} {en en1 : En} {Q : Fl → En → Prop} (h : t en = .ok false en1) (q : WP n en1 Q) : WP (mifS t m n) en Q := wp_mifS (wp_eq h (by rw [if_neg Bool.false_ne_true]; exact q))
theorem wp_nx {en : En} {Q : Fl → En → Prop} (q : Q .nx en) : WP mnx en Q := wp_ret q
theorem ne_bb (b : Bool) : oNe (.bool b) (.bool b) = .d (.bool false) := by cases b <;> kernel_rfl
theorem it1 (l : List PyData) : isiTup (.tuple l) = true := rfl
theorem ne_nilL : oNe (.list []) (.list []) = .d (.bool false) := by kernel_rfl
theorem fm_none : ∀ l : List PyData, l.filterMap (fun _ => (none : Option PyData)) = []
  | [] => rfl
  | x :: l => by rw [List.filterMap_cons]; exact fm_none l
def E0 (sc d k R W : PyData) (x5 x6 x7 x8 x9 : Sl) : En := [.sh sc, .ow d, .sh k, .sh R, .sh W, x5, x6, x7, x8, x9]
section
variable {sc d : PyData} {k : Str} {R W : List PyData} {x5 x6 x7 x8 x9 : Sl}
theorem c1_ok (h : ∀ v ∈ R, ∃ en, F_is_deed [.sh (.str k), .sh v] = .ok (.sh (.bool true)) en) (hl : R.length ≤ 1000) (h5 : Pl x5) : c1_law (E0 sc d (.str k) (.list R) (.list W) x5 x6 x7 x8 x9) = .ok (.ow (.list [])) (E0 sc d (.str k) (.list R) (.list W) x5 x6 x7 x8 x9) :=
  allV_eq (wp_mcomp (wp_eq (a := R) (en1 := E0 sc d (.str k) (.list R) (.list W) x5 x6 x7 x8 x9) (by simp [seqM, E0, ZD.run, mret, mretN, shV, vand, vor, vnot, fz, op1, op2, op2c, opv2, nm, nv, cst, odD, bnd, ZD.ret, ZD.fail, out, look, tst, mnot, mand, mor, mif, mifS, mseq, mnx, macons, manil, mtup, mlst, asgN, masg, slOf, asgT, tgtup, tgcons, tgnil, tgN, Vl.d, stepC, ZD.wp, wipeable, wipeE, restE, isPlain, mtrue, List.replicate, List.set, oTest, isiInt, isiBool, isiStr, isiTup, isiList, oLe, oLt, oGe, oGt, oOrd, oLen, oIx, gotD]) ⟨by omega, by simp [wipeable, E0, h5.plain], fun _ => none, fun v hv => by
    obtain ⟨en, he⟩ := h v hv
    simp [mcall, he, oIs, E0, ZD.run, mret, mretN, shV, vand, vor, vnot, fz, op1, op2, op2c, opv2, nm, nv, cst, odD, bnd, ZD.ret, ZD.fail, out, look, tst, mnot, mand, mor, mif, mifS, mseq, mnx, macons, manil, mtup, mlst, asgN, masg, slOf, asgT, tgtup, tgcons, tgnil, tgN, Vl.d, stepC, ZD.wp, wipeable, wipeE, restE, isPlain, mtrue, List.replicate, List.set, oTest, isiInt, isiBool, isiStr, isiTup, isiList, oLe, oLt, oGe, oGt, oOrd, oLen, oIx, gotD], by rw [fm_none], rfl⟩))
theorem c2_ok (h : ∀ v ∈ W, ∃ en, F_is_deed [.sh (.str k), .sh v] = .ok (.sh (.bool false)) en) (hl : W.length ≤ 1000) (h5 : Pl x5) : c2_law (E0 sc d (.str k) (.list R) (.list W) x5 x6 x7 x8 x9) = .ok (.ow (.list [])) (E0 sc d (.str k) (.list R) (.list W) x5 x6 x7 x8 x9) :=
  allV_eq (wp_mcomp (wp_eq (a := W) (en1 := E0 sc d (.str k) (.list R) (.list W) x5 x6 x7 x8 x9) (by simp [seqM, E0, ZD.run, mret, mretN, shV, vand, vor, vnot, fz, op1, op2, op2c, opv2, nm, nv, cst, odD, bnd, ZD.ret, ZD.fail, out, look, tst, mnot, mand, mor, mif, mifS, mseq, mnx, macons, manil, mtup, mlst, asgN, masg, slOf, asgT, tgtup, tgcons, tgnil, tgN, Vl.d, stepC, ZD.wp, wipeable, wipeE, restE, isPlain, mtrue, List.replicate, List.set, oTest, isiInt, isiBool, isiStr, isiTup, isiList, oLe, oLt, oGe, oGt, oOrd, oLen, oIx, gotD]) ⟨by omega, by simp [wipeable, E0, h5.plain], fun _ => none, fun v hv => by
    obtain ⟨en, he⟩ := h v hv
    simp [mcall, he, oIs, E0, ZD.run, mret, mretN, shV, vand, vor, vnot, fz, op1, op2, op2c, opv2, nm, nv, cst, odD, bnd, ZD.ret, ZD.fail, out, look, tst, mnot, mand, mor, mif, mifS, mseq, mnx, macons, manil, mtup, mlst, asgN, masg, slOf, asgT, tgtup, tgcons, tgnil, tgN, Vl.d, stepC, ZD.wp, wipeable, wipeE, restE, isPlain, mtrue, List.replicate, List.set, oTest, isiInt, isiBool, isiStr, isiTup, isiList, oLe, oLt, oGe, oGt, oOrd, oLen, oIx, gotD], by rw [fm_none], rfl⟩))
theorem loop3 (hk : k ∈ fives) (hR : ∀ v ∈ R, OkD k v) (hn0 : 0 < R.length) (hn1 : R.length ≤ 1000) {n : Nat} (hd : DS n d) (hn : n < 5000) {s : PyData} (hs : OkS k 0 s) (h5 : Pl x5) (h7 : Pl x7) (h8 : Pl x8) (h9 : Pl x9) :
    WP l3_law (E0 sc d (.str k) (.list R) (.list W) x5 (.sh s) x7 x8 x9) fun fl e => fl = .nx ∧ ∃ d' s' y5 y7 y8 y9, e = E0 sc d' (.str k) (.list R) (.list W) y5 (.sh s') y7 y8 y9 ∧ DS (n + 150) d' ∧ Pl y5 ∧ Pl y7 ∧ Pl y8 ∧ Pl y9 := by
  obtain ⟨r, d1, e1, hr, r0, r1, hd1⟩ := s_draw hd (by omega) 20 (by decide) (log_small (by decide) (by decide))
  unfold l3_law
  refine wp_mfor (wp_rngM1 (wp_eq (a := .int (6 + r)) (en1 := E0 sc d1 (.str k) (.list R) (.list W) x5 (.sh s) x7 x8 x9) (by simp [mcallI, isOwn, hr, oAdd, E0, ZD.run, mret, mretN, shV, vand, vor, vnot, fz, op1, op2, op2c, opv2, nm, nv, cst, odD, bnd, ZD.ret, ZD.fail, out, look, tst, mnot, mand, mor, mif, mifS, mseq, mnx, macons, manil, mtup, mlst, asgN, masg, slOf, asgT, tgtup, tgcons, tgnil, tgN, Vl.d, stepC, ZD.wp, wipeable, wipeE, restE, isPlain, mtrue, List.replicate, List.set, oTest, isiInt, isiBool, isiStr, isiTup, isiList, oLe, oLt, oGe, oGt, oOrd, oLen, oIx, gotD]) ⟨6 + r, rfl, by omega, by omega,
    fun i e => ∃ d' s' y5 y7 y8 y9, e = E0 sc d' (.str k) (.list R) (.list W) y5 (.sh s') y7 y8 y9 ∧ DS (n + 1 + 5 * i) d' ∧ OkS k i s' ∧ Pl y5 ∧ Pl y7 ∧ Pl y8 ∧ Pl y9, ⟨d1, s, x5, x7, x8, x9, rfl, hd1, hs, h5, h7, h8, h9⟩, ?_, ?_⟩))
  · rintro e ⟨d', s', y5, y7, y8, y9, rfl, q1, q2, q3, q4, q5, q6⟩
    have : (rngL 0 (6 + r).toNat).length ≤ 25 := by simp [rngL]; omega
    exact ⟨rfl, d', s', y5, y7, y8, y9, rfl, q1.up (by omega), q3, q4, q5, q6⟩
  · rintro i x e hi ⟨d', s', y5, y7, y8, y9, rfl, q1, q2, q3, q4, q5, q6⟩
    have hlen : i < (rngL 0 (6 + r).toNat).length := (List.getElem?_eq_some_iff.mp hi).1
    have hi2 : i < 25 := by
      have : (rngL 0 (6 + r).toNat).length ≤ 25 := by simp [rngL]; omega
      omega
    refine wp_eq (show tgN 7 x (E0 sc d' (.str k) (.list R) (.list W) y5 (.sh s') y7 y8 y9) = .ok .nx (E0 sc d' (.str k) (.list R) (.list W) y5 (.sh s') (.sh x) y8 y9) from masg_pl rfl q4) ⟨rfl, ?_⟩
    -- the deed
    have deed : WP (mif (tst (fz (op2 oEq (odD (fz (mcallI 2 F__law_draw 1 (macons (cst (.int 6)) manil)))) (odD (cst (.int 0)))))) (op2 oIx (nm 3) (odD (fz (mcallI 2 F__law_draw 1 (macons (fz (op1 oLen (nm 3))) manil))))) (mcallI 2 F__law_deed 1 (macons (nv 2) manil))) (E0 sc d' (.str k) (.list R) (.list W) y5 (.sh s') (.sh x) y8 y9)
        fun v e => ∃ dd d2, v = .sh dd ∧ e = E0 sc d2 (.str k) (.list R) (.list W) y5 (.sh s') (.sh x) y8 y9 ∧ OkD k dd ∧ DS (n + 1 + 5 * (i + 1)) d2 := by
      obtain ⟨r2, d2, e2, hr2, r20, r21, hd2⟩ := s_draw q1 (by omega) 6 (by decide) (log_small (by decide) (by decide))
      by_cases hz : r2 = 0
      · subst hz
        obtain ⟨r3, d3, e3, hr3, r30, r31, hd3⟩ := s_draw hd2 (by omega) (R.length : Int) (by omega) (log_small (by omega) (by omega))
        obtain ⟨dd, g1, g2⟩ := atI_in r30 r31
        exact wp_eq (a := .sh dd) (en1 := E0 sc d3 (.str k) (.list R) (.list W) y5 (.sh s') (.sh x) y8 y9) (by simp [mcallI, isOwn, hr2, hr3, g1, oEq, shaped_int, PyData.eqv, E0, ZD.run, mret, mretN, shV, vand, vor, vnot, fz, op1, op2, op2c, opv2, nm, nv, cst, odD, bnd, ZD.ret, ZD.fail, out, look, tst, mnot, mand, mor, mif, mifS, mseq, mnx, macons, manil, mtup, mlst, asgN, masg, slOf, asgT, tgtup, tgcons, tgnil, tgN, Vl.d, stepC, ZD.wp, wipeable, wipeE, restE, isPlain, mtrue, List.replicate, List.set, oTest, isiInt, isiBool, isiStr, isiTup, isiList, oLe, oLt, oGe, oGt, oOrd, oLen, oIx, gotD]) ⟨dd, d3, rfl, rfl, hR dd g2, hd3.up (by omega)⟩
      · obtain ⟨dd, d3, e3, h1, h2, h3⟩ := s_deed hk hd2 (by omega)
        exact wp_eq (a := .sh dd) (en1 := E0 sc d3 (.str k) (.list R) (.list W) y5 (.sh s') (.sh x) y8 y9) (by simp [mcallI, isOwn, hr2, hz, h1, oEq, shaped_int, PyData.eqv, E0, ZD.run, mret, mretN, shV, vand, vor, vnot, fz, op1, op2, op2c, opv2, nm, nv, cst, odD, bnd, ZD.ret, ZD.fail, out, look, tst, mnot, mand, mor, mif, mifS, mseq, mnx, macons, manil, mtup, mlst, asgN, masg, slOf, asgT, tgtup, tgcons, tgnil, tgN, Vl.d, stepC, ZD.wp, wipeable, wipeE, restE, isPlain, mtrue, List.replicate, List.set, oTest, isiInt, isiBool, isiStr, isiTup, isiList, oLe, oLt, oGe, oGt, oOrd, oLen, oIx, gotD]) ⟨dd, d3, rfl, rfl, h2, h3.up (by omega)⟩
    refine wp_mseq (wp_asgN (wp_mono deed ?_))
    rintro v e ⟨dd, d2, rfl, rfl, hok, hds⟩
    refine ⟨y5, rfl, q3.io, ?_⟩
    obtain ⟨s2, rr, ⟨⟨ea, ha⟩, ⟨eb, hb⟩⟩, hs2, hfl⟩ := step q2 hok (by omega)
    obtain ⟨k1, k2⟩ := ok_self hs2
    have hal := s_alike rr hfl
    refine wp_mseq (wp_asgN (wp_eq (a := .sh (.tuple [s2, rr])) (en1 := E0 sc d2 (.str k) (.list R) (.list W) (.sh dd) (.sh s') (.sh x) y8 y9) (by simp [mcall, hb, slOf, E0, ZD.run, mret, mretN, shV, vand, vor, vnot, fz, op1, op2, op2c, opv2, nm, nv, cst, odD, bnd, ZD.ret, ZD.fail, out, look, tst, mnot, mand, mor, mif, mifS, mseq, mnx, macons, manil, mtup, mlst, asgN, masg, slOf, asgT, tgtup, tgcons, tgnil, tgN, Vl.d, stepC, ZD.wp, wipeable, wipeE, restE, isPlain, mtrue, List.replicate, List.set, oTest, isiInt, isiBool, isiStr, isiTup, isiList, oLe, oLt, oGe, oGt, oOrd, oLen, oIx, gotD]) ⟨y8, rfl, q5.io, ?_⟩))
    refine wp_mseq (wp_asgN (wp_eq (a := .sh (.tuple [s2, rr])) (en1 := E0 sc d2 (.str k) (.list R) (.list W) (.sh dd) (.sh s') (.sh x) (.sh (.tuple [s2, rr])) y9) (by simp [mcall, ha, slOf, E0, ZD.run, mret, mretN, shV, vand, vor, vnot, fz, op1, op2, op2c, opv2, nm, nv, cst, odD, bnd, ZD.ret, ZD.fail, out, look, tst, mnot, mand, mor, mif, mifS, mseq, mnx, macons, manil, mtup, mlst, asgN, masg, slOf, asgT, tgtup, tgcons, tgnil, tgN, Vl.d, stepC, ZD.wp, wipeable, wipeE, restE, isPlain, mtrue, List.replicate, List.set, oTest, isiInt, isiBool, isiStr, isiTup, isiList, oLe, oLt, oGe, oGt, oOrd, oLen, oIx, gotD]) ⟨y9, rfl, q6.io, ?_⟩))
    refine wp_mseq (wp_no (en1 := E0 sc d2 (.str k) (.list R) (.list W) (.sh dd) (.sh s') (.sh x) (.sh (.tuple [s2, rr])) (.sh (.tuple [s2, rr]))) (by simp [L2.atI, L2.ixN, it1, ne_int, ne_bb, k1, k2, E0, ZD.run, mret, mretN, shV, vand, vor, vnot, fz, op1, op2, op2c, opv2, nm, nv, cst, odD, bnd, ZD.ret, ZD.fail, out, look, tst, mnot, mand, mor, mif, mifS, mseq, mnx, macons, manil, mtup, mlst, asgN, masg, slOf, asgT, tgtup, tgcons, tgnil, tgN, Vl.d, stepC, ZD.wp, wipeable, wipeE, restE, isPlain, mtrue, List.replicate, List.set, oTest, oLe, oLt, oGe, oGt, oOrd, oLen, oIx, gotD]) (wp_nx ?_))
    refine wp_mseq (wp_no (en1 := E0 sc d2 (.str k) (.list R) (.list W) (.sh dd) (.sh s') (.sh x) (.sh (.tuple [s2, rr])) (.sh (.tuple [s2, rr]))) (by simp [mcall, hal, L2.atI, L2.ixN, E0, ZD.run, mret, mretN, shV, vand, vor, vnot, fz, op1, op2, op2c, opv2, nm, nv, cst, odD, bnd, ZD.ret, ZD.fail, out, look, tst, mnot, mand, mor, mif, mifS, mseq, mnx, macons, manil, mtup, mlst, asgN, masg, slOf, asgT, tgtup, tgcons, tgnil, tgN, Vl.d, stepC, ZD.wp, wipeable, wipeE, restE, isPlain, mtrue, List.replicate, List.set, oTest, oLe, oLt, oGe, oGt, oOrd, oLen, oIx, gotD]) (wp_nx ?_))
    refine wp_asgN (wp_eq (a := .sh s2) (en1 := E0 sc d2 (.str k) (.list R) (.list W) (.sh dd) (.sh s') (.sh x) (.sh (.tuple [s2, rr])) (.sh (.tuple [s2, rr]))) (by simp [L2.atI, L2.ixN, E0, ZD.run, mret, mretN, shV, vand, vor, vnot, fz, op1, op2, op2c, opv2, nm, nv, cst, odD, bnd, ZD.ret, ZD.fail, out, look, tst, mnot, mand, mor, mif, mifS, mseq, mnx, macons, manil, mtup, mlst, asgN, masg, slOf, asgT, tgtup, tgcons, tgnil, tgN, Vl.d, stepC, ZD.wp, wipeable, wipeE, restE, isPlain, mtrue, List.replicate, List.set, oTest, oLe, oLt, oGe, oGt, oOrd, oLen, oIx, gotD]) ⟨.sh s', rfl, (pl_sh s').io, ?_⟩)
    exact ⟨d2, s2, _, _, _, _, rfl, hds, hs2, pl_sh _, pl_sh _, pl_sh _, pl_sh _⟩
end
end Q49

namespace Q49
open PySem ZD
def E1 (sc d : PyData) (x2 x3 x4 x5 x6 x7 x8 x9 : Sl) : En := [.sh sc, .ow d, x2, x3, x4, x5, x6, x7, x8, x9]
theorem loop4 {sc d : PyData} {n : Nat} (hd : DS n d) (hn : n < 100) {x2 x3 x4 x5 x6 x7 x8 x9 : Sl} (h2 : Pl x2) (h3 : Pl x3) (h4 : Pl x4) (h5 : Pl x5) (h6 : Pl x6) (h7 : Pl x7) (h8 : Pl x8) (h9 : Pl x9) :
    WP l4_law (E1 sc d x2 x3 x4 x5 x6 x7 x8 x9) fun fl e => fl = .nx := by
  unfold l4_law
  refine wp_mfor (wp_eq (a := [.str "cell", .str "count", .str "stack", .str "queue", .str "bag"]) (en1 := E1 sc d x2 x3 x4 x5 x6 x7 x8 x9) (by simp [seqM, E1, ZD.run, mret, mretN, shV, vand, vor, vnot, fz, op1, op2, op2c, opv2, nm, nv, cst, odD, bnd, ZD.ret, ZD.fail, out, look, tst, mnot, mand, mor, mif, mifS, mseq, mnx, macons, manil, mtup, mlst, asgN, masg, slOf, asgT, tgtup, tgcons, tgnil, tgN, Vl.d, stepC, ZD.wp, wipeable, wipeE, restE, isPlain, mtrue, List.replicate, List.set, oTest, isiInt, isiBool, isiStr, isiTup, isiList, oLe, oLt, oGe, oGt, oOrd, oLen, oIx, gotD])
    ⟨fun i e => ∃ d' y2 y3 y4 y5 y6 y7 y8 y9, e = E1 sc d' y2 y3 y4 y5 y6 y7 y8 y9 ∧ DS (n + 150 * i) d' ∧ Pl y2 ∧ Pl y3 ∧ Pl y4 ∧ Pl y5 ∧ Pl y6 ∧ Pl y7 ∧ Pl y8 ∧ Pl y9, ⟨d, _, _, _, _, _, _, _, _, rfl, hd, h2, h3, h4, h5, h6, h7, h8, h9⟩, fun e _ => rfl, ?_⟩)
  rintro i x e hi ⟨d', y2, y3, y4, y5, y6, y7, y8, y9, rfl, q1, g2, g3, g4, g5, g6, g7, g8, g9⟩
  have hi5 : i < 5 := (List.getElem?_eq_some_iff.mp hi).1
  obtain ⟨k, hk, rfl⟩ : ∃ k ∈ fives, x = .str k := by
    have : i = 0 ∨ i = 1 ∨ i = 2 ∨ i = 3 ∨ i = 4 := by omega
    rcases this with rfl | rfl | rfl | rfl | rfl <;> cases hi <;> exact ⟨_, by simp [fives], rfl⟩
  refine wp_eq (show tgN 2 (.str k) (E1 sc d' y2 y3 y4 y5 y6 y7 y8 y9) = .ok .nx (E1 sc d' (.sh (.str k)) y3 y4 y5 y6 y7 y8 y9) from masg_pl rfl g2) ⟨rfl, ?_⟩
  obtain ⟨R, W, en, hde, hR, hr, hw, hn0, hn1, hn2⟩ := deeds_of hk
  obtain ⟨hs1, hs2, hs3, hs4, hs5⟩ := start_of hk
  have m3 : masg 3 (.sh (.list R)) (E1 sc d' (.sh (.str k)) y3 y4 y5 y6 y7 y8 y9) = .ok .nx (E1 sc d' (.sh (.str k)) (.sh (.list R)) y4 y5 y6 y7 y8 y9) := masg_pl rfl g3
  have m4 : masg 4 (.sh (.list W)) (E1 sc d' (.sh (.str k)) (.sh (.list R)) y4 y5 y6 y7 y8 y9) = .ok .nx (E0 sc d' (.str k) (.list R) (.list W) y5 y6 y7 y8 y9) := masg_pl rfl g4
  have call : (odD (fz (mcall 1 F__law_deeds (macons (nv 2) manil)))) (E1 sc d' (.sh (.str k)) y3 y4 y5 y6 y7 y8 y9) = .ok (.d (.tuple [.list R, .list W])) (E1 sc d' (.sh (.str k)) y3 y4 y5 y6 y7 y8 y9) := by simp [mcall, hde, E1, ZD.run, mret, mretN, shV, vand, vor, vnot, fz, op1, op2, op2c, opv2, nm, nv, cst, odD, bnd, ZD.ret, ZD.fail, out, look, tst, mnot, mand, mor, mif, mifS, mseq, mnx, macons, manil, mtup, mlst, asgN, masg, slOf, asgT, tgtup, tgcons, tgnil, tgN, Vl.d, stepC, ZD.wp, wipeable, wipeE, restE, isPlain, mtrue, List.replicate, List.set, oTest, isiInt, isiBool, isiStr, isiTup, isiList, oLe, oLt, oGe, oGt, oOrd, oLen, oIx, gotD]
  have asg : asgT (tgtup 2 (tgcons (tgN 3) (tgcons (tgN 4) tgnil))) (odD (fz (mcall 1 F__law_deeds (macons (nv 2) manil)))) (E1 sc d' (.sh (.str k)) y3 y4 y5 y6 y7 y8 y9) = .ok .nx (E0 sc d' (.str k) (.list R) (.list W) y5 y6 y7 y8 y9) := by
    unfold asgT
    rw [bnd_ok call]
    simp only [look, tgtup, tgcons, tgN, tgnil, List.length_cons, List.length_nil, if_true, Nat.reduceAdd]
    have e4 : bnd (masg 4 (.sh (.list W))) (fun fl => match fl with | .nx => mnx | _ => ZD.fail) (E1 sc d' (.sh (.str k)) (.sh (.list R)) y4 y5 y6 y7 y8 y9) = .ok .nx (E0 sc d' (.str k) (.list R) (.list W) y5 y6 y7 y8 y9) := by rw [bnd_ok m4]; rfl
    refine (bnd_ok (a := Fl.nx) (en1 := E0 sc d' (.str k) (.list R) (.list W) y5 y6 y7 y8 y9) ?_).trans rfl
    refine (bnd_ok m3).trans ?_
    exact e4
  refine wp_mseq (wp_eq asg ?_)
  have c1 := c1_ok (sc := sc) (d := d') (W := W) (x6 := y6) (x7 := y7) (x8 := y8) (x9 := y9) hr hn1 g5
  have c2 := c2_ok (sc := sc) (d := d') (R := R) (x6 := y6) (x7 := y7) (x8 := y8) (x9 := y9) hw hn2 g5
  show WP (mseq _ _) _ _
  refine wp_mseq (wp_no (en1 := E0 sc d' (.str k) (.list R) (.list W) y5 y6 y7 y8 y9) (by
    have e : ∀ en : En, (fz (mlst manil)) en = .ok (.list []) en := fun en => rfl
    simp [c1, c2, ne_nilL, ZD.run, mret, mretN, shV, vand, vor, vnot, fz, op1, op2, op2c, opv2, nm, nv, cst, odD, bnd, ZD.ret, ZD.fail, out, look, tst, mnot, mand, mor, mif, mifS, mseq, mnx, macons, manil, mtup, mlst, asgN, masg, slOf, asgT, tgtup, tgcons, tgnil, tgN, Vl.d, stepC, ZD.wp, wipeable, wipeE, restE, isPlain, mtrue, List.replicate, List.set, oTest, oLe, oLt, oGe, oGt, oOrd, oLen, oIx, gotD]) (wp_nx ?_))
  show WP (mseq _ _) _ _
  refine wp_mseq (wp_asgN (wp_eq (a := .sh (st0 k)) (en1 := E0 sc d' (.str k) (.list R) (.list W) y5 y6 y7 y8 y9) (by simp [mcall, hs1, E0, ZD.run, mret, mretN, shV, vand, vor, vnot, fz, op1, op2, op2c, opv2, nm, nv, cst, odD, bnd, ZD.ret, ZD.fail, out, look, tst, mnot, mand, mor, mif, mifS, mseq, mnx, macons, manil, mtup, mlst, asgN, masg, slOf, asgT, tgtup, tgcons, tgnil, tgN, Vl.d, stepC, ZD.wp, wipeable, wipeE, restE, isPlain, mtrue, List.replicate, List.set, oTest, isiInt, isiBool, isiStr, isiTup, isiList, oLe, oLt, oGe, oGt, oOrd, oLen, oIx, gotD]) ⟨y6, rfl, g6.io, ?_⟩))
  show WP (mseq _ _) (E0 sc d' (.str k) (.list R) (.list W) y5 (.sh (st0 k)) y7 y8 y9) _
  refine wp_mseq (wp_no (en1 := E0 sc d' (.str k) (.list R) (.list W) y5 (.sh (st0 k)) y7 y8 y9) (by simp [mcall, hs2, hs3, hs4, E0, ZD.run, mret, mretN, shV, vand, vor, vnot, fz, op1, op2, op2c, opv2, nm, nv, cst, odD, bnd, ZD.ret, ZD.fail, out, look, tst, mnot, mand, mor, mif, mifS, mseq, mnx, macons, manil, mtup, mlst, asgN, masg, slOf, asgT, tgtup, tgcons, tgnil, tgN, Vl.d, stepC, ZD.wp, wipeable, wipeE, restE, isPlain, mtrue, List.replicate, List.set, oTest, oLe, oLt, oGe, oGt, oOrd, oLen, oIx, gotD]) (wp_nx ?_))
  refine wp_mono (loop3 hk hR hn0 hn1 q1 (by omega) hs5 g5 g7 g8 g9) ?_
  rintro fl e ⟨rfl, d2, s2, z5, z7, z8, z9, rfl, p1, p5, p7, p8, p9⟩
  exact ⟨d2, _, _, _, _, _, _, _, _, rfl, p1.up (by omega), pl_sh _, pl_sh _, pl_sh _, p5, pl_sh _, p7, p8, p9⟩
/-- THE LAW, in plain words: it gives true at each script -/
theorem law_true (ns : List Int) (h : ns.length ≤ 63) : ∃ en', F_law (scr ns) = .ok (.sh (.bool true)) en' := by
  obtain ⟨d, e0, hop, hd⟩ := s_open ns h
  obtain ⟨m, ps, d2, e2, hth, m1, m2, hg, hd2⟩ := s_things hd (by omega)
  obtain ⟨e3, hwr⟩ := s_wrong m1 m2 hg
  have main : ∃ x e, ZD.run 10 m_law (scr ns) = .ok x e ∧ x = .sh (.bool true) := by
    refine run_wp ?_
    show WP m_law [.sh (.list (ns.map .int)), .no, .no, .no, .no, .no, .no, .no, .no, .no] _
    unfold m_law
    refine wp_mseq (wp_asgN (wp_eq (a := .ow d) (en1 := [.sh (.list (ns.map .int)), .no, .no, .no, .no, .no, .no, .no, .no, .no]) (by simp [mcall, show F__law_open [Sl.sh (PyData.list (ns.map PyData.int))] = _ from hop, ZD.run, mret, mretN, shV, vand, vor, vnot, fz, op1, op2, op2c, opv2, nm, nv, cst, odD, bnd, ZD.ret, ZD.fail, out, look, tst, mnot, mand, mor, mif, mifS, mseq, mnx, macons, manil, mtup, mlst, asgN, masg, slOf, asgT, tgtup, tgcons, tgnil, tgN, Vl.d, stepC, ZD.wp, wipeable, wipeE, restE, isPlain, mtrue, List.replicate, List.set, oTest, isiInt, isiBool, isiStr, isiTup, isiList, oLe, oLt, oGe, oGt, oOrd, oLen, oIx, gotD]) ⟨.no, rfl, pl_no.io, ?_⟩))
    show WP (mseq _ _) (E1 (.list (ns.map .int)) d .no .no .no .no .no .no .no .no) _
    refine wp_mseq (wp_no (en1 := E1 (.list (ns.map .int)) d2 .no .no .no .no .no .no .no .no) (by simp [mcall, mcallI, isOwn, hth, hwr, E1, ZD.run, mret, mretN, shV, vand, vor, vnot, fz, op1, op2, op2c, opv2, nm, nv, cst, odD, bnd, ZD.ret, ZD.fail, out, look, tst, mnot, mand, mor, mif, mifS, mseq, mnx, macons, manil, mtup, mlst, asgN, masg, slOf, asgT, tgtup, tgcons, tgnil, tgN, Vl.d, stepC, ZD.wp, wipeable, wipeE, restE, isPlain, mtrue, List.replicate, List.set, oTest, isiInt, isiBool, isiStr, isiTup, isiList, oLe, oLt, oGe, oGt, oOrd, oLen, oIx, gotD]) (wp_nx ?_))
    show WP (mseq _ _) (E1 (.list (ns.map .int)) d2 .no .no .no .no .no .no .no .no) _
    refine wp_mseq (wp_mono (loop4 hd2 (by omega) pl_no pl_no pl_no pl_no pl_no pl_no pl_no pl_no) ?_)
    rintro fl e rfl
    exact wp_mret (wp_shV (wp_cst rfl))
  obtain ⟨x, e, h1, rfl⟩ := main
  exact ⟨e, h1⟩
end Q49
theorem PySem.Challenge.cw_happenedfirst_k49_things_and_deeds_holds : PySem.Challenge.rw_happenedfirst_k49_things_and_deeds.Holds := by
  exact Q49.the_end fun ns h _ => Q49.law_true ns h
