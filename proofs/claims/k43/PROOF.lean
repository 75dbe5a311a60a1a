import PyProof.Rows.All
import Wide.All
import OpenK.AllK
import Wide.FinOn
import HandS.ForMost
import HandS.AnyAll
import HandS.GenOver
import HandS.Conv
import HandS.Deep
import HandS.IsInst
import HandS.NoneIn
import HandS.TupAny
import HandS.Zip
import HandS.Rev
import HandS.Style
import HandS.Flow
import HandS.Wide
import KE.SortData
import PyProof.TupleOfSeq
import HandS.HeadWalk
import HandS.HeadHook4
import HandS.Head2
import HandS.Defaults
import HandS.Small
import HandS.RevRange
import HandS.TupMul
import PyProof.ListRange
import KE.GoesEnum
import PyProof.FactsAll.range_iterator_1
import HandS.WideBits
import PyProof.StrOps2
import HandS.SetBool
import HandS.SetKeys
import PySem.Challenge.RW_happenedfirst_k43_programs_and_gaps
set_option Elab.async false
set_option linter.all false
set_option maxRecDepth 100000
set_option maxHeartbeats 0
/-! generator expressions over anything that PI serves -/
namespace ZG
open PySem PySem.Spec PyProof.Rows L2 GxR

/-- the same state but for the table of generators, tokens and draws -/
theorem inv_like {X : Cx} {pins : List (Addr × Obj)} {sg : L2.St} {H : Hp} {s t : Shared} (I : Inv X pins sg H s)
    (eh : t.heap = s.heap) (eo : t.os = s.os) (eb : AllBare t.gens) : Inv X pins sg H t := by
  obtain ⟨a1, a2, a3, a4, a5, a6, a7, a8, a9, b1, b2⟩ := I
  refine ⟨a1, eo.trans a2, eb, ?_, ?_, ?_, a7, a8, ?_, ?_, b2⟩
  · rw [eh]; exact a4
  · rw [eh]; exact a5
  · rw [eh]; exact a6
  · rw [eh]; exact a9
  · rw [eh]; exact b1

/-- the context in which a generator expression's frame runs -/
abbrev gcx (X : Cx) (A : Around) (s : Shared) (H : Hp) (scope : Scope) (env : Env) (fp : List Addr) : Cx :=
  { X with A := A, s_0 := s, H_0 := H, env := env, outer := X.stack, stack := env :: X.stack, ex := fp, fn := fun x => scope.names.lookup x == some .cell, pn := [], xe := fun _ _ => False }

/-- what its consumer wants of each thing that is handed out: the thing, the heap, what must hold to go on -/
abbrev CW := V → Hp → (Hp → Prop) → Prop

section
variable {Y : Cx} {A : Around} {ps : List (Addr × Obj)} {sw : L2.St} {S : Hp → Prop} {C : CW}
variable {elt tg iter : Expr} {ifs : List Expr} {scope : Scope} {pos : Pos} {it : Addr} {fp : List Addr} {tn : Nat → Heap → Prop} {J : It}
variable {g : TG} {tt : TT} {te : TE} {vs : List Nat}

def gProto (Y : Cx) (ps : List (Addr × Obj)) (C : CW) : Protocol := fun _ _ v s kap =>
  ∃ (y : V) (sg : L2.St) (H : Hp) (Nx : Hp → Prop), RelV y v ∧ Inv Y ps sg H s ∧ C y H Nx ∧
    (Nx H → ∀ t : Shared, t.heap = s.heap → t.os = s.os → AllBare t.gens → kap (.send .none) t)
def gOver (Y : Cx) (ps : List (Addr × Obj)) (S : Hp → Prop) : Nat → Shared → Shared → Prop := fun _ _ s => ∃ sg H, Inv Y ps sg H s ∧ S H

theorem loop_seg (hA : A.over (.compLoop (.GeneratorExp elt [⟨tg, iter, ifs, 0⟩] scope pos) 0 (.ref it) .none Y.env) [] = Y.A)
    (hx : Y.xe = fun _ _ => False) (hc : Y.calm = true) (T : Turn Y.prog Y.w Y.K tg J fp it tn)
    (hg : PG Y tg g) (ht : PTs Y ifs tt) (he : PE Y elt te)
    (hco : Y.env.scope.isCoroutine = false)
    (hfp : ∀ b ∈ fp, ∀ (sg : L2.St) (H : Hp) (s : Shared), Inv Y ps sg H s → H b = none → FpOk Y ps H b)
    (W : Nat → Nat → Hp → Prop)
    (turn : ∀ i m H, W i m H → (J.stop i H ∧ S H) ∨ (J.go i H ∧ ∃ Nx : Hp → Prop, (∀ H', Nx H' → ∃ m', m' < m ∧ W (i + 1) m' H') ∧
      ∀ x H', J.yld i H x H' → g x sw H' fun σ2 H2 => (wipe σ2 vs = sw) ∧ tt σ2 H2 fun b H3 => if b = true then te σ2 H3 fun y H4 => C y H4 Nx else Nx H3)) :
    ∀ (m n i : Nat) (z s : Shared) (H : Hp), m < n → W i m H → Inv Y ps sw H s → tn i s.heap → (∀ b ∈ fp, H b = none) →
      Seg (model Y.prog Y.w) A (fun n z r s => r = .ok .next ∧ gOver Y ps S n z s) (gProto Y ps C) n z
        (.compLoop (.GeneratorExp elt [⟨tg, iter, ifs, 0⟩] scope pos) 0 (.ref it) .none Y.env)
        ((model Y.prog Y.w).den (.compLoop (.GeneratorExp elt [⟨tg, iter, ifs, 0⟩] scope pos) 0 (.ref it) .none Y.env)) [] s := by
  intro m
  induction m using Nat.strongRecOn with
  | ind m ih =>
    intro n i z s H hmn w I st nf
    have stat : ∀ {sg : L2.St} {H : Hp} {s : Shared}, Inv Y ps sg H s → (∀ b ∈ fp, H b = none) → ∀ b ∈ fp, FpOk Y ps H b := fun {sg H s} I' hn b hb => hfp b hb sg H s I' (hn b hb)
    have nxe : ∀ (x : Value) (q : Shared), ¬ Y.xe x q := fun x q h => by rw [hx] at h; exact h
    show Seg _ A _ _ _ z _ ((compTurn (.GeneratorExp elt [⟨tg, iter, ifs, 0⟩] scope pos) 0 (.ref it) .none Y.env).onRaise (leaving Y.env)) [] s
    rw [compTurn_gen, Sem.onRaise_eq_wrap]
    refine seg_bind_wrap (wpAny_standAt ?_)
    rcases turn i m H w with ⟨stop, fin⟩ | ⟨go, Nx, hNx, step⟩
    · refine seg_bind_wrap ?_
      rw [hA]
      refine wpAny_mono (T.done Y rfl rfl rfl hc i ps s sw H (fun _ _ => False) I (stat I nf) st stop) (fun r s1 hr => ?_) fun _ _ q => q.elim
      obtain ⟨rfl, I1⟩ := hr
      exact seg_end (.ok .next) ⟨rfl, sw, H, I1, fin⟩
    · refine seg_bind_wrap ?_
      rw [hA]
      refine wpAny_mono (T.item Y rfl rfl rfl hc i ps s sw H (fun _ _ => False) I (stat I nf) st go) (fun r s1 hr => ?_) fun _ _ q => q.elim
      obtain ⟨u, rfl, h1⟩ := hr
      refine seg_bind_wrap ?_
      rw [hA]
      refine wpAny_mono h1 (fun _ s2 h2 => ?_) fun _ _ q => q.elim
      obtain ⟨x, H2, I2, r2, y2, st2, n2⟩ := h2
      have I2' := I2.pinned (stat I2 n2) (T.obj _ _ st2)
      refine seg_bind_wrap ?_
      rw [hA]
      refine wpAny_mono (hg.run _ s2 sw H2 x u _ I2' r2 (step x H2 y2)) (fun _ s3 h3 => ?_) fun _ _ q => (nxe _ _ q).elim
      obtain ⟨σ3, H3, I3, hw3, q3⟩ := h3
      refine seg_bind_wrap ?_
      rw [hA]
      refine wpAny_mono (ht.run _ s3 σ3 H3 _ I3 q3) (fun b s4 h4 => ?_) fun _ _ q => (nxe _ _ q).elim
      obtain ⟨H4, I4, q4⟩ := h4
      -- what holds at the turn's end
      have back : ∀ {n' : Nat} {z' s' : Shared} {H' : Hp}, m ≤ n' → Inv Y (ps ++ pinsAt fp s2.heap) σ3 H' s' → Nx H' →
          Seg (model Y.prog Y.w) A (fun n z r s => r = .ok .next ∧ gOver Y ps S n z s) (gProto Y ps C) n' z'
            (.compLoop (.GeneratorExp elt [⟨tg, iter, ifs, 0⟩] scope pos) 0 (.ref it) .none Y.env)
            ((model Y.prog Y.w).den (.compLoop (.GeneratorExp elt [⟨tg, iter, ifs, 0⟩] scope pos) 0 (.ref it) .none Y.env)) [] s' := by
        intro n' z' s' H' hn' I' nx
        obtain ⟨m', hm, w'⟩ := hNx H' nx
        have pin' : ∀ b ∈ fp, ∀ o, s2.heap.get? b = some o → s'.heap.get? b = some o ∧ H' b = none := fun b hb o e =>
          let q := I'.pin (b, o) (List.mem_append_right _ (List.mem_append_right _ (mem_pinsAt hb e)))
          ⟨q.1, q.2.1⟩
        have I5 : Inv Y ps sw H' s' := by
          have J := I'.unpinned.weak (σ' := wipe σ3 vs) (wipe_length _ _) fun i v e => (wipe_some e).1
          rw [hw3] at J
          exact J
        refine ih m' hm n' (i + 1) z' s' H' (by omega) w' I5 (T.keep _ _ _ st2 fun b hb o e => (pin' b hb o e).1) fun b hb => ?_
        obtain ⟨o, e, _⟩ := T.obj _ _ st2 b hb
        exact (pin' b hb o e).2
      cases b with
      | false =>
        simp only [Bool.false_eq_true, if_false]
        exact seg_again rfl (back (by omega) I4 q4)
      | true =>
        have hy : ∀ v, yieldOut Y.env v = yieldValue v := fun v => by simp only [yieldOut, hco, Bool.false_eq_true, if_false]
        simp only [if_true, hy]
        rw [Sem.bind_eq_wrap', Sem.bind_eq_wrap', Sem.wrap_wrap, Sem.wrap_wrap]
        refine seg_wrap ?_
        rw [hA]
        refine wpAny_mono (he.run _ s4 σ3 H4 _ I4 q4) (fun v s5 h5 => ?_) fun _ _ q => (nxe _ _ q).elim
        obtain ⟨y, H5, I5, r5, q5⟩ := h5
        obtain ⟨k, rfl⟩ : ∃ k, n = k + 1 := ⟨n - 1, by omega⟩
        refine seg_at (seg_yield rfl rfl rfl ⟨y, σ3, H5, Nx, r5, I5.unpinned, q5, fun nx t eh eo eb => ?_⟩)
        exact seg_again rfl (back (by omega) (inv_like I5 eh eo eb) nx)
end
end ZG

namespace ZG
open PySem PySem.Spec PyProof.Rows L2 GxR

section
variable {X : Cx} {pins : List (Addr × Obj)} {sg : L2.St} {H : Hp} {s t : Shared} {A : Around} {scope : Scope} {own : List (Str × Nat)} {fp : List Addr} {env : Env}

/-- the facts of the new frame's record -/
structure GEnv (X : Cx) (s : Shared) (scope : Scope) (env : Env) : Prop where
  sc : env.scope = scope
  loc : env.locals = s.heap.objs.size
  cl : env.cells = cellsFrom (s.heap.objs.size + 1) scope.names (cloFrom X.env.cells scope.names [])
  gl : env.globals = X.env.globals
  bl : env.builtins = builtinsNs
  fr : env.frame = some s.heap.objs.size

theorem gen_inv {m0 : Str → Option Value} (I : Inv X pins sg H s) (ok : BlkOk X.N X.env.scope scope own) (hN : X.N.Nodup) (hfp : ∀ b ∈ fp, FpOk X pins H b ∧ b < s.heap.objs.size)
    (E : GEnv X s scope env) (hA : A.handled = none) (hF : A.frames = some (env :: X.stack)) (eo : t.os = s.os) (eb : AllBare t.gens)
    (kp : ∀ b o, s.heap.get? b = some o → t.heap.get? b = some o) (ns : t.heap.Ns s.heap.objs.size m0)
    (hcell : ∀ y c, (y, NameKind.cell) ∈ scope.names → s.heap.objs.size + 1 ≤ c → env.cells.lookup y = some c → ∃ v, t.heap.IsCell c v) :
    Inv (gcx X A s H scope env fp) [] (wipe sg (own.map (·.2))) H t := by
  obtain ⟨e1, e2, e3, e4, e5, e6⟩ := E
  have hfree : ∀ y ∈ scope.names, y.2 = .free → ∃ c, X.env.cells.lookup y.1 = some c := fun y hy e => by
    rcases ok.free y hy e with k | k
    · exact I.ok.has _ (.inl k)
    · exact I.ok.has _ (.inr k)
  have e3' : env.cells = cellsFrom (s.heap.push { cls := .type "frame", data := .dict #[] }).objs.size scope.names (cloFrom X.env.cells scope.names []) := by
    rw [Heap.size_push]; exact e3
  have cm : ∀ {y c}, (y, c) ∈ cloFrom X.env.cells scope.names [] → X.env.cells.lookup y = some c ∧ c < s.heap.objs.size := fun {y c} hm => by
    rcases cloFrom_mem hm with hm | ⟨h1, h2⟩
    · cases hm
    · obtain ⟨c', hc⟩ := hfree _ h1 rfl
      have e : c = c' := by rw [h2, hc]; rfl
      obtain ⟨w, z⟩ := I.cell _ _ hc
      rw [e]
      exact ⟨hc, z.lt⟩
  have mem : ∀ {y c}, env.cells.lookup y = some c → (X.env.cells.lookup y = some c ∧ c < s.heap.objs.size) ∨ ((y, NameKind.cell) ∈ scope.names ∧ s.heap.objs.size + 1 ≤ c) := fun {y c} e => by
    rw [e3'] at e
    rcases cells_mem (PySem.mem_of_lookup e) with hm | ⟨h1, h2, _⟩
    · exact .inl (cm hm)
    · rw [Heap.size_push] at h2; exact .inr ⟨h1, h2⟩
  have look : ∀ {y}, scope.names.lookup y = some .free → ∃ c, env.cells.lookup y = some c ∧ X.env.cells.lookup y = some c := fun {y} hl => by
    have hy : (y, NameKind.free) ∈ scope.names := PySem.mem_of_lookup hl
    obtain ⟨c', e'⟩ := mem_lookup (cells_acc (names := scope.names) (n := (s.heap.push { cls := .type "frame", data := .dict #[] }).objs.size) (cloFrom_has (cells := X.env.cells) (acc := []) hy))
    rw [← e3'] at e'
    refine ⟨c', e', ?_⟩
    rcases mem e' with h | ⟨h1, _⟩
    · exact h.1
    · have q := ok.uniq _ h1
      rw [hl] at q; cases q
  have eN : ∀ b ∈ fp, b ≠ s.heap.objs.size := fun b hb => Nat.ne_of_lt (hfp b hb).2
  have okB : (gcx X A s H scope env fp).Ok := by
    refine ⟨I.ok.mod, by show env.scope.kind = _; rw [e1]; exact ok.kind, by show env.globals = _; rw [e4]; exact I.ok.glob, e5, by show s.heap.objs.size ≤ env.locals; rw [e2]; exact Nat.le_refl _,
      ?inj, ?has, ?cab, fun _ => hA, hF, .inr ⟨rfl, by show env.frame = some env.locals; rw [e6, e2]⟩, ?exf, I.bs, Nat.le_trans I.ok.bsz I.sz, ?noex, ?exfs, I.stack, I.stkFree⟩
    case inj =>
      intro y z c h1 h2
      have h1 : env.cells.lookup y = some c := h1
      have h2 : env.cells.lookup z = some c := h2
      rw [e3'] at h1 h2
      refine cells_inj (fun p hp => ?_) (fun y z c a b => I.ok.inj y z c (cm a).1 (cm b).1) (PySem.mem_of_lookup h1) (PySem.mem_of_lookup h2)
      rw [Heap.size_push]
      exact Nat.lt_succ_of_lt (cm (y := p.1) (c := p.2) hp).2
    case has =>
      intro y hy
      show ∃ c, env.cells.lookup y = some c
      have hy : scope.names.lookup y = some .cell ∨ scope.names.lookup y = some .free := by
        have q : env.kindOf y = some .cell ∨ env.kindOf y = some .free := hy
        unfold Env.kindOf at q
        rw [e1] at q
        exact q
      rcases hy with h | h
      · obtain ⟨c, hm⟩ := cells_has (n := (s.heap.push { cls := .type "frame", data := .dict #[] }).objs.size) (acc := cloFrom X.env.cells scope.names []) (PySem.mem_of_lookup h)
        obtain ⟨c', e'⟩ := mem_lookup hm
        exact ⟨c', by rw [e3']; exact e'⟩
      · obtain ⟨c, h1, _⟩ := look h
        exact ⟨c, h1⟩
    case cab =>
      intro y c z e
      have z : scope.names.lookup y = some .cell := by
        have q : (scope.names.lookup y == some NameKind.cell) = true := z
        simpa using q
      have e : env.cells.lookup y = some c := e
      rw [e3'] at e
      rcases cells_mem (PySem.mem_of_lookup e) with hm | ⟨_, h2, _⟩
      · rcases cloFrom_mem hm with hm | ⟨h1, _⟩
        · cases hm
        · have q := ok.uniq _ h1
          rw [z] at q; cases q
      · rw [Heap.size_push] at h2
        exact Nat.le_of_succ_le h2
    case exf =>
      intro b hb
      refine ⟨by show b ≠ env.locals; rw [e2]; exact eN b hb, fun y c e z => ?_⟩
      have e : env.cells.lookup y = some c := e
      rcases mem e with ⟨h1, _⟩ | ⟨_, h1⟩
      · exact (hfp b hb).1.2.2.2.2.1 y c h1 z
      · have h2 : s.heap.objs.size + 1 ≤ b := by rw [← z]; exact h1
        exact absurd (Nat.lt_of_lt_of_le (hfp b hb).2 (Nat.le_of_succ_le h2)) (Nat.lt_irrefl _)
    case noex =>
      intro b o e hb
      have e : X.base.get? b = some o := e
      rcases (hfp b hb).1.2.2.2.1 with z | z
      · exact I.ok.noex b o e z
      · exact absurd (Nat.lt_of_lt_of_le (Heap.lt_size e) (Nat.le_trans I.ok.bsz z)) (Nat.lt_irrefl _)
    case exfs =>
      intro b hb z
      rcases List.mem_cons.mp (I.stkSub b z) with z | z
      · exact (hfp b hb).1.2.1 z
      · exact (hfp b hb).1.2.2.1 z
  refine ⟨okB, eo, eb, Un.kept kp, ⟨m0, by show t.heap.Ns env.locals m0; rw [e2]; exact ns, ?loc⟩, ?cell, ?free, ?freeC, fun p hp => absurd (show p ∈ ([] : List (Addr × Obj)) ++ [] from hp) (by simp), I.hok.kept kp, by rw [wipe_length]; exact I.len⟩
  case loc =>
    intro i y av h1 h2 h3
    obtain ⟨h2, hne⟩ := wipe_some h2
    have hfr : scope.names.lookup y = some .free := by
      have h3 : scope.names.lookup y = some .local ∨ scope.names.lookup y = some .cell ∨ scope.names.lookup y = some .free := by
        have q : Vis env.scope y := h3
        rw [e1] at q
        exact q
      have no : ∀ k', scope.names.lookup y = some k' → ¬ (k' = .local ∨ k' = .cell) := fun k' e hh => by
        rcases ok.own _ (PySem.mem_of_lookup e) hh with e' | e'
        · obtain ⟨p, hp, hpy⟩ := List.mem_map.mp e'
          have q := ok.ix p hp
          have hpy : p.1 = y := hpy
          rw [hpy] at q
          exact hne (List.mem_map.mpr ⟨p, hp, nodup_ix hN q h1⟩)
        · exact e' (List.mem_of_getElem? h1)
      rcases h3 with h | h | h
      · exact absurd (.inl rfl) (no _ h)
      · exact absurd (.inr rfl) (no _ h)
      · exact h
    obtain ⟨m, hn, hl⟩ := I.loc
    have hvis : Vis X.env.scope y := (ok.free _ (PySem.mem_of_lookup hfr) rfl).elim (fun k => .inr (.inl k)) (fun k => .inr (.inr k))
    obtain ⟨w, r, q⟩ := hl i y av h1 h2 hvis
    have hk : env.kindOf y = some .free := by unfold Env.kindOf; rw [e1]; exact hfr
    refine ⟨w, r, .inr ⟨.inr hk, ?_⟩⟩
    obtain ⟨c, z1, z2⟩ := look hfr
    rcases q with ⟨k, _⟩ | ⟨_, c', e', z⟩
    · have k : X.env.scope.names.lookup y = some .local := k
      rcases ok.free _ (PySem.mem_of_lookup hfr) rfl with k' | k'
      · rw [show X.env.scope.names.lookup y = _ from k'] at k; cases k
      · rw [show X.env.scope.names.lookup y = _ from k'] at k; cases k
    · rw [z2] at e'; cases e'
      exact ⟨c, z1, z.keeps kp⟩
  case cell =>
    intro y c e
    have e : env.cells.lookup y = some c := e
    rcases mem e with ⟨h1, _⟩ | ⟨h1, h2⟩
    · obtain ⟨w, z⟩ := I.cell y c h1
      exact ⟨w, z.keeps kp⟩
    · exact hcell y c h1 h2 e
  case free =>
    show H env.locals = none
    rw [e2]; exact I.hok.fresh (Nat.le_refl _)
  case freeC =>
    intro y c e
    have e : env.cells.lookup y = some c := e
    rcases mem e with ⟨h1, _⟩ | ⟨_, h1⟩
    · exact I.freeC y c h1
    · exact I.hok.fresh (Nat.le_of_succ_le h1)
end

section
variable {Y : Cx} {A : Around} {ps : List (Addr × Obj)} {S : Hp → Prop} {C : CW}
variable {elt tg iter : Expr} {ifs : List Expr} {scope : Scope} {pos : Pos} {it : Addr} {tn : Nat → Heap → Prop} {J : It} {fp : List Addr}
theorem start_seg {R : GenEnd} {Pr : Protocol} {n : Nat} {z s : Shared} (T : Turn Y.prog Y.w Y.K tg J fp it tn) (st : tn 0 s.heap)
    (loop : Seg (model Y.prog Y.w) A R Pr n z (.compLoop (.GeneratorExp elt [⟨tg, iter, ifs, 0⟩] scope pos) 0 (.ref it) .none Y.env)
        ((model Y.prog Y.w).den (.compLoop (.GeneratorExp elt [⟨tg, iter, ifs, 0⟩] scope pos) 0 (.ref it) .none Y.env)) [] s) :
    Seg (model Y.prog Y.w) A R Pr n z (.compStart (.GeneratorExp elt [⟨tg, iter, ifs, 0⟩] scope pos) 0 (.ref it) .none Y.env)
        ((model Y.prog Y.w).den (.compStart (.GeneratorExp elt [⟨tg, iter, ifs, 0⟩] scope pos) 0 (.ref it) .none Y.env)) [] s := by
  show Seg _ A _ _ _ z _ ((compStart (.GeneratorExp elt [⟨tg, iter, ifs, 0⟩] scope pos) 0 (.ref it) .none Y.env).onRaise (leaving Y.env)) [] s
  unfold compStart
  rw [Sem.onRaise_eq_wrap]
  show Seg _ A _ _ _ z _ ((ask >>= _).wrap _ _ _ _) [] s
  refine seg_bind_wrap (wpAny_askSetting ?_)
  split
  · exact seg_again rfl loop
  · refine seg_bind_wrap (wpAny_rule ?_)
    first
      | exact seg_bind_wrap (wpAny_standAt (seg_bind_wrap (T.self _ 0 s _ _ st (seg_again rfl loop))))
      | (show Seg _ A _ _ _ z _ ((standAt iter.pos >>= _).wrap _ _ _ _) [] s
         exact seg_bind_wrap (wpAny_standAt (seg_bind_wrap (T.self _ 0 s _ _ st (seg_again rfl loop)))))

/-- a generator of ours that sleeps, as its consumer sees it -/
def GAt (Y : Cx) (A : Around) (ps : List (Addr × Obj)) (S : Hp → Prop) (C : CW) (a : Addr) (g n : Nat) (s : Shared) : Prop :=
  ∃ gs, s.gens[g]? = some gs ∧ s.heap.IsGen a g ∧ s.heap.NoLimit ∧
    gs.Goes (model Y.prog Y.w) A.in1 (fun n z r s => r = .ok .next ∧ gOver Y ps S n z s) (gProto Y ps C) n (.send .none) (s.setGen g .running)

theorem bare_set {s : Shared} {g : Nat} {x : GenState} (h : AllBare s.gens) (hx : x.bare = true) : AllBare (s.setGen g x).gens := by
  intro y hy
  simp only [Shared.setGen] at hy
  rcases Array.mem_or_eq_of_mem_setIfInBounds hy with q | q
  · exact h y q
  · rw [q]; exact hx

theorem next_gen {a : Addr} {g n : Nat} {s : Shared} {Q : Option Value → Shared → Prop} {E : Value → Shared → Prop} {go : Obj} (hh : A.handled = none) (hroom : A.depth < recursionLimit)
    (G : GAt Y A ps S C a g n s) (hps : (a, go) ∈ ps) (hgo : ∀ h : Heap, h.get? a = some go → h.IsGen a g)
    (hend : ∀ sg H t, Inv Y ps sg H t → S H → Q none t)
    (hyld : ∀ v y sg H Nx t, RelV y v → Inv Y ps sg H t → C y H Nx → (Nx H → ∃ m, m < n ∧ GAt Y A ps S C a g m t) → Q (some v) t) :
    wpAny (model Y.prog Y.w) A (pyNext (.ref a)) Q E s := by
  obtain ⟨gs, h1, h2, h3, h4⟩ := G
  have hlt : g + 1 ≤ s.gens.size := by
    rcases Nat.lt_or_ge g s.gens.size with h' | h'
    · exact h'
    · rw [Array.getElem?_eq_none h'] at h1; cases h1
  refine GenW.wpAny_gsz hlt (wpAny_pyNext_genexpQ (P := gOver Y ps S) hh h3 hroom h2 h1 h4 ?_ ?_)
  · intro v s1 gs' hb hy hsz
    obtain ⟨y, sg, H, Nx, r, I, hC, hk⟩ := hy
    have hsz1 : g < s1.gens.size := by
      have e : (s1.setGen g gs').gens.size = s1.gens.size := by simp [Shared.setGen]
      rw [e] at hsz; exact hsz
    refine hyld v y sg H Nx _ r (inv_like I rfl rfl (bare_set I.bare hb)) hC fun nx => ?_
    have hget : (s1.setGen g gs').gens[g]? = some gs' := by simp [Shared.setGen, hsz1]
    have hpin := I.pin (a, go) (List.mem_append_right _ hps)
    have hk' := hk nx ((s1.setGen g gs').setGen g .running) rfl rfl (bare_set (bare_set I.bare hb) rfl)
    cases n with
    | zero => exact hk'.elim
    | succ m => exact ⟨m, Nat.lt_succ_self _, gs', hget, hgo _ hpin.1, I.nolimit, hk'⟩
  · intro s1 hp h' hk _
    obtain ⟨sg, H, I, hS⟩ := hp
    have I2 := inv_like (t := s1.setGen g .finished) I rfl rfl (bare_set I.bare rfl)
    exact hend sg H _ (I2.kept (h' := h') (t' := s1.toks) hk) hS
end
end ZG

namespace ZG
open PySem PySem.Spec PyProof.Rows L2 GxR

/-- the record of the frame of a generator expression -/
def gxEnv (X : Cx) (scope : Scope) (L : Addr) (code : Value) : Env :=
  newEnv scope L X.env.globals (cellsFrom (L + 1) scope.names (cloFrom X.env.cells scope.names [])) (X.env.qual ++ "<genexpr>.") none code none builtinsNs

theorem over_gx {A : Around} {elt tg iter : Expr} {ifs : List Expr} {scope : Scope} {pos : Pos} {it : Value} {env : Env} {k : Nat} (hr : Room (k + 1) A) {st : List Env} (hf : A.frames = some st) :
    Room k (A.over (.compLoop (.GeneratorExp elt [⟨tg, iter, ifs, 0⟩] scope pos) 0 it .none env) []) ∧
      (A.over (.compLoop (.GeneratorExp elt [⟨tg, iter, ifs, 0⟩] scope pos) 0 it .none env) []).frames = some (env :: st) := by
  refine ⟨⟨hr.hd, ?_, ?_⟩, ?_⟩
  · have := hr.dp
    show A.depth + 0 + 1 + 3 * k + 5 < _
    omega
  · have := hr.un
    show A.units + 0 + 3 + 16 * k + 200 < _
    omega
  · show (A.over _ []).frames = _
    unfold Around.over
    dsimp only
    rw [hf]
    rfl
/-- a builtin's code (or more) around -/
structure Near (A B : Around) : Prop where
  hd : B.handled = A.handled
  fr : B.frames = A.frames
  dp : B.depth ≤ A.depth
  un : B.units ≤ A.units + 8
theorem Near.room {A B : Around} {k : Nat} (n : Near A B) (r : Room (k + 1) A) : Room k B :=
  ⟨n.hd.trans r.hd, by have := r.dp; have := n.dp; omega, by have := r.un; have := n.un; omega⟩
theorem near0 {A : Around} : Near A A := ⟨rfl, rfl, Nat.le_refl _, by omega⟩
theorem near1 {A : Around} : Near A A.in1 := ⟨rfl, rfl, Nat.le_refl _, by show A.units + 1 ≤ _; omega⟩
theorem near2 {A : Around} : Near A A.in1.in1 := ⟨rfl, rfl, Nat.le_refl _, by show A.units + 1 + 1 ≤ _; omega⟩
theorem near3 {A : Around} : Near A A.in1.in1.in1 := ⟨rfl, rfl, Nat.le_refl _, by show A.units + 1 + 1 + 1 ≤ _; omega⟩

section
variable {X : Cx} {pins : List (Addr × Obj)} {sg : L2.St} {H : Hp} {s : Shared}
variable {elt tg iter : Expr} {ifs : List Expr} {scope : Scope} {pos : Pos} {own : List (Str × Nat)}
variable {wi : TI} {g : TG} {tt : TT} {te : TE} {k : Nat} {c P : Addr}

/-- what the making of a generator expression hands on to its consumer -/
structure Made (X : Cx) (pins : List (Addr × Obj)) (sg : L2.St) (elt tg iter : Expr) (ifs : List Expr) (scope : Scope) (pos : Pos) (vs : List Nat) (g : TG) (tt : TT) (te : TE) (k : Nat) (J : It) (H2 : Hp) (a : Addr) (s5 : Shared) : Prop where
  inv : Inv X pins sg H2 s5
  run : ∀ (A : Around) (S : Hp → Prop) (C : CW) (W : Nat → Nat → Hp → Prop) (m : Nat), Near X.A A → W 0 m H2 →
    (∀ i m H, W i m H → (J.stop i H ∧ S H) ∨ (J.go i H ∧ ∃ Nx : Hp → Prop, (∀ H', Nx H' → ∃ m', m' < m ∧ W (i + 1) m' H') ∧
      ∀ x H', J.yld i H x H' → g x (wipe sg vs) H' fun σ2 H2 => (wipe σ2 vs = wipe sg vs) ∧ tt σ2 H2 fun b H3 => if b = true then te σ2 H3 fun y H4 => C y H4 Nx else Nx H3)) →
    ∃ (Y : Cx) (gn : Nat) (go : Obj) (ps : List (Addr × Obj)), Y.prog = X.prog ∧ Y.w = X.w ∧ GAt Y A ps S C a gn (m + 1) s5 ∧ (a, go) ∈ ps ∧ (∀ h : Heap, h.get? a = some go → h.IsGen a gn) ∧ s5.heap.IsGen a gn ∧
      ∀ sg' H' t, Inv Y ps sg' H' t → Inv X pins sg H' t

theorem wp_dot0 {M : Model} {A : Around} {E : Value → Shared → Prop} {s : Shared} {scope : Scope} {globals : Addr} {cl : List (Str × Addr)} {it : Value} {qual : Str} {code : Value} {bi : Addr} {Q : Env → Shared → Prop}
    (hk : scope.kind = .function) (h0 : scope.names.lookup (".0" : Str) = some NameKind.local)
    (h : ∀ h' m, h'.Ns s.heap.objs.size m → Heap.SameBut s.heap.objs.size (pushCells (s.heap.push { cls := .type "frame", data := .dict #[] }) scope.names) h' →
      Q (newEnv scope s.heap.objs.size globals (cellsFrom (s.heap.objs.size + 1) scope.names cl) qual none code none bi) { s with heap := h', toks := s.toks + 1 }) :
    wpAny M A (newFunctionEnv scope globals cl [(".0", it)] qual none code none bi) Q E s := by
  simp only [newFunctionEnv, Option.isSome_none, Bool.false_eq_true, if_false]
  refine wpAny_bind (wpAny_alloc ?_)
  refine wpAny_bind (wpAny_layCells _ (fun n k c => by cases e : k == NameKind.cell <;> simp [e]) scope.names cl _ _ ?_)
  rw [show ({ s with heap := s.heap.push { cls := .type "frame", data := .dict #[] } } : Shared).heap.objs.size = s.heap.objs.size + 1 from Heap.size_push ..]
  simp only [List.forIn_cons, List.forIn_nil]
  have ns0 : (pushCells (s.heap.push { cls := .type "frame", data := .dict #[] }) scope.names).Ns s.heap.objs.size (fun _ => none) := (Heap.Ns.new s.heap (.type "frame")).keeps (pushCells_keeps _ _)
  refine wpAny_bind (wpAny_bind (wpAny_bind (wpAny_storeName_local (m := fun _ => none) ?_ ns0 (fun h' hn hs => ?_) ?_)))
  · exact h0
  · exact wpAny_pure (wpAny_pure (wpAny_pure (h h' _ hn hs)))
  · show (scope.kind == .class || (scope.kind == .module && _)) = false
    rw [hk]; rfl

theorem gen_make {Q' : Value → Shared → Prop} {R : It → Hp → Prop} (hr : Room (k + 2) X.A) (hN : X.N.Nodup) (hc : X.calm = true) (TB : TabB X.base X.mg c P) (hcode : X.env.code = .ref c)
    (hco : scope.isCoroutine = false) (h0 : scope.names.lookup (".0" : Str) = some NameKind.local) (ok : BlkOk X.N X.env.scope scope own) (hi : PI X tg iter wi)
    (hg : ∀ (A : Around) (s : Shared) (H : Hp) (L : Addr) (code : Value) (fp : List Addr), Room k A → PG (gcx X A s H scope (gxEnv X scope L code) fp) tg g)
    (ht : ∀ (A : Around) (s : Shared) (H : Hp) (L : Addr) (code : Value) (fp : List Addr), Room k A → PTs (gcx X A s H scope (gxEnv X scope L code) fp) ifs tt)
    (he : ∀ (A : Around) (s : Shared) (H : Hp) (L : Addr) (code : Value) (fp : List Addr), Room k A → PE (gcx X A s H scope (gxEnv X scope L code) fp) elt te)
    (hs : ∀ v, genFold iter X.env v = pure v) (I : Inv X pins sg H s) (h : wi sg H fun J H1 => TabG H1 P ∧ R J H1)
    (hQ : ∀ J H1 H2 a s5, R J H1 → Tabbed P H1 H2 → Made X pins sg elt tg iter ifs scope pos (own.map (·.2)) g tt te k J H2 a s5 → Q' (.ref a) s5) :
    wpAny (model X.prog X.w) X.A (eval (.GeneratorExp elt [⟨tg, iter, ifs, 0⟩] scope pos) X.env) Q' X.xe s := by
  have hfree : ∀ y ∈ scope.names, y.2 = .free → ∃ c, X.env.cells.lookup y.1 = some c := fun y hy e => by
    rcases ok.free y hy e with q | q
    · exact I.ok.has _ (.inl q)
    · exact I.ok.has _ (.inr q)
  rw [eval_GeneratorExp1 _ _ _ _ _ _ _ hco, closure_ok hfree]
  refine wpAny_bind (thn (hi.run pins s sg H _ I h) fun xv s1 h1 => ?_)
  refine wpAny_bind (wpAny_standAt ?_)
  refine wpAny_bind (wpAny_of_eq (hs xv) ?_)
  refine wpAny_bind (wpAny_holding (thn h1 fun itv s2 h2 => ?_))
  obtain ⟨it, fp, tn, J, H2, rfl, I2, T, st2, f2, ⟨pt, hP, htr⟩, hR⟩ := h2
  refine wpAny_bind (wpAny_enterFrame I2.nolimit hr.depth ?_)
  refine wpAny_bind (wpAny_pure ?_)
  have hPs : s2.heap.get? P = some { cls := .none, data := .fields pt } := I2.hok P _ hP
  have cd : PySem.W.CodeHd s2.heap c P := TB.code.keeps fun b u e => I2.bk b u e
  -- from the code on
  have cont : ∀ (code : Value) (h3 : Heap) (tk : Nat) (more : Array Value), Heap.ExtBut P s2.heap h3 → s2.heap.objs.size ≤ h3.objs.size → h3.get? P = some { cls := .none, data := .fields (pt ++ more) } → TriplesOk (pt ++ more).toList →
      wpAny (model X.prog X.w) X.A (do
        let bi ← builtinsFor X.env.globals X.env.builtins
        let cenv ← newFunctionEnv scope X.env.globals (cloFrom X.env.cells scope.names []) [(".0", .ref it)] (X.env.qual ++ "<genexpr>.") none code none bi
        newGenerator (.compStart (.GeneratorExp elt [⟨tg, iter, ifs, 0⟩] scope pos) 0 (.ref it) .none cenv) "<genexpr>" (X.env.qual ++ "<genexpr>")) Q' X.xe { s2 with heap := h3, toks := tk } := by
    intro code h3 tk more hx hsz hP3 ht3
    have nP : ∀ b, H2 b = none → b ≠ P := fun b e z => by rw [z, hP] at e; cases e
    have I3 : Inv X pins sg (upd H2 P (.tbl (pt ++ more))) { s2 with heap := h3, toks := tk } :=
      inv_tab (g' := s2.gens) (d' := s2.drawn) I2 hP (fun b o hb e => hx b o hb e) hP3 I2.bare
    have tb3 : Tabbed P H2 (upd H2 P (.tbl (pt ++ more))) := ⟨⟨_, upd_same, ht3⟩, fun b hb => upd_ne hb⟩
    obtain ⟨bm, ob, e1, e2, e3, e4, e5, e6, e7, e8⟩ := TB.bm
    refine wpAny_bind (wpAny_builtinsFor (m := X.mg) (by rw [I3.ok.glob]; exact I3.mod.glob.keeps I3.bk) e1 e2 (I3.bk _ _ e5) e6 e7 e8 ?_)
    generalize hH3 : upd H2 P (.tbl (pt ++ more)) = H3 at I3 tb3
    generalize hs3 : ({ s2 with heap := h3, toks := tk } : Shared) = s3 at I3
    have eh3 : s3.heap = h3 := by rw [← hs3]
    have nf3 : ∀ b ∈ fp, H3 b = none := fun b hb => by
      rw [tb3.2 b (nP b (f2 b hb).1)]; exact (f2 b hb).1
    have st3 : tn 0 s3.heap := T.keep _ _ _ st2 fun b hb o e => by
      rw [eh3]; exact hx b o (nP b (f2 b hb).1) e
    have f3 : ∀ b ∈ fp, FpOk X pins H3 b ∧ b < s3.heap.objs.size := fun b hb => by
      obtain ⟨o, e, _⟩ := T.obj _ _ st3 b hb
      exact ⟨⟨nf3 b hb, (f2 b hb).2⟩, Heap.lt_size e⟩
    refine wpAny_bind (wp_dot0 ok.kind h0 fun h4 m4 ns4 sb4 => ?_)
    simp only [newGenerator, newFields]
    refine wpAny_bind (wpAny_newGen (wpAny_bind (wpAny_mkText (wpAny_bind (wpAny_mkText (wpAny_newObj_type ?_ (by size_fits)))))))
    refine hQ J H2 H3 _ _ hR tb3 ?_
    -- the state behind it
    have kp4 : ∀ b o, s3.heap.get? b = some o → h4.get? b = some o := fun b o e => sb4.extBut b o (Nat.ne_of_lt (Heap.lt_size e)) (pushCells_keeps _ _ _ _ (Heap.get?_push_of_some _ e))
    generalize hgo : ({ cls := .type "generator", data := .fields _ } : Obj) = go
    generalize hs5 : ({ os := s3.os, gens := _, drawn := s3.drawn, toks := _, heap := h4.push go } : Shared) = s5
    have eh5 : s5.heap = h4.push go := by rw [← hs5]
    have eg5 : s5.gens = s3.gens.push (.fresh (.compStart (.GeneratorExp elt [⟨tg, iter, ifs, 0⟩] scope pos) 0 (.ref it) .none (gxEnv X scope s3.heap.objs.size code))) := by rw [← hs5]; rfl
    have eo5 : s5.os = s3.os := by rw [← hs5]
    have kp5 : ∀ b o, s3.heap.get? b = some o → s5.heap.get? b = some o := fun b o e => by rw [eh5]; exact Heap.get?_push_of_some _ (kp4 b o e)
    have eb5 : AllBare s5.gens := by rw [eg5]; exact I3.bare.push rfl
    have sz4 : s3.heap.objs.size + 1 ≤ h4.objs.size := by
      have e := sb4.1
      have e2 := pushCells_size scope.names (s3.heap.push { cls := .type "frame", data := .dict #[] })
      rw [Heap.size_push] at e2
      omega
    have ha5 : s5.heap.get? h4.objs.size = some go := by rw [eh5]; exact Heap.get?_push_size _ (by rw [← hgo]; rfl)
    have hgen : ∀ h : Heap, h.get? h4.objs.size = some go → h.IsGen h4.objs.size s3.gens.size := fun h e => ⟨go, _, _, e, by rw [← hgo], by rw [← hgo]; rfl, by rw [← hgo]⟩
    have inv5 : Inv X pins sg H3 s5 := by
      have J5 := I3.kept (h' := s5.heap) (t' := s3.toks) kp5
      exact inv_like J5 rfl eo5 eb5
    refine ⟨inv5, fun A S C W m nA w0 turn => ?_⟩
    generalize henv : gxEnv X scope s3.heap.objs.size code = env at eg5
    have rA : Room (k + 1) A := nA.room hr
    have ov := over_gx (elt := elt) (tg := tg) (iter := iter) (ifs := ifs) (scope := scope) (pos := pos) (it := .ref it) (env := env) (A := A.in1) (k := k) ?_ (st := X.stack) (by show A.frames = _; rw [nA.fr]; exact I3.ok.frames)
    · generalize hAY : A.in1.over (.compLoop (.GeneratorExp elt [⟨tg, iter, ifs, 0⟩] scope pos) 0 (.ref it) .none env) [] = AY at ov
      have ge : GEnv X s3 scope env := by
        subst henv
        exact ⟨rfl, rfl, rfl, rfl, rfl, rfl⟩
      have I5 : Inv (gcx X AY s3 H3 scope env fp) [] (wipe sg (own.map (·.2))) H3 s5 := by
        refine gen_inv (m0 := m4) I3 ok hN f3 ge ov.1.hd ov.2 eo5 eb5 kp5 (by rw [eh5]; exact ns4.push _) fun y cc hy hl e => ?_
        have e' : (cellsFrom (s3.heap.push { cls := .type "frame", data := .dict #[] }).objs.size scope.names (cloFrom X.env.cells scope.names [])).lookup y = some cc := by
          rw [Heap.size_push, ← ge.cl]; exact e
        rcases cells_mem (PySem.mem_of_lookup e') with hm | ⟨_, _, z⟩
        · rcases cloFrom_mem hm with hm | ⟨h1, _⟩
          · cases hm
          · have q1 := ok.uniq _ h1
            have q2 := ok.uniq _ hy
            have q3 : scope.names.lookup y = some .free := q1
            have q4 : scope.names.lookup y = some .cell := q2
            rw [q3] at q4; cases q4
        · refine ⟨none, ?_⟩
          rw [eh5]
          obtain ⟨oc, hoc, hd⟩ := z
          refine ⟨oc, Heap.get?_push_of_some _ (sb4.extBut _ _ (fun q => ?_) hoc), hd⟩
          rw [q] at hl
          exact absurd hl (Nat.not_succ_le_self _)
      -- the generator's own object is pinned
      have nloc : h4.objs.size ≠ env.locals := by rw [ge.loc]; exact Nat.ne_of_gt sz4
      have young : s3.heap.objs.size ≤ h4.objs.size := Nat.le_of_succ_le sz4
      have I5p : Inv (gcx X AY s3 H3 scope env fp) [(h4.objs.size, go)] (wipe sg (own.map (·.2))) H3 s5 := by
        refine I5.pins_of fun p hp => ?_
        rw [List.mem_singleton.mp hp]
        refine ⟨ha5, I3.hok.fresh young, nloc, ?_, fun v q => ?_⟩
        · intro hb
          obtain ⟨_, o, ho, _⟩ := I3.stack.mem hb
          exact absurd (Nat.lt_of_lt_of_le (Heap.lt_size ho) young) (Nat.lt_irrefl _)
        · rw [← hgo] at q
          have q' : Data.fields _ = Data.cell v := q
          cases q'
      have st5 : tn 0 s5.heap := T.keep _ _ _ st3 fun b _ o e => kp5 b o e
      have ffp : ∀ b ∈ fp, ∀ (sg' : L2.St) (H' : Hp) (t : Shared), Inv (gcx X AY s3 H3 scope env fp) [(h4.objs.size, go)] sg' H' t → H' b = none → FpOk (gcx X AY s3 H3 scope env fp) [(h4.objs.size, go)] H' b := fun b hb sg' H' t I' hn => by
        refine ⟨hn, (I'.ok.exf b hb).1, I'.ok.exfs b hb, .inl hb, fun x cc e => (I'.ok.exf b hb).2 x cc e, fun p hp => ?_⟩
        have e : p = (h4.objs.size, go) := List.mem_singleton.mp (by simpa using hp)
        rw [e]
        exact Nat.ne_of_gt (Nat.lt_of_lt_of_le (f3 b hb).2 young)
      refine ⟨gcx X AY s3 H3 scope env fp, s3.gens.size, go, [(h4.objs.size, go)], rfl, rfl, ⟨.fresh (.compStart (.GeneratorExp elt [⟨tg, iter, ifs, 0⟩] scope pos) 0 (.ref it) .none env), ?_, hgen _ ha5, inv5.nolimit, ?_⟩, List.mem_singleton.mpr rfl, hgen, hgen _ ha5, fun sg' H' t I' => ?_⟩
      · rw [eg5]; exact Array.getElem?_push_size ..
      · refine ⟨rfl, ?_⟩
        have hgY := hg AY s3 H3 s3.heap.objs.size code fp ov.1
        have htY := ht AY s3 H3 s3.heap.objs.size code fp ov.1
        have heY := he AY s3 H3 s3.heap.objs.size code fp ov.1
        rw [henv] at hgY htY heY
        have I6 := inv_like (t := s5.setGen s3.gens.size .running) I5p rfl rfl (bare_set eb5 rfl)
        refine start_seg (Y := gcx X AY s3 H3 scope env fp) T st5 ?_
        refine loop_seg (Y := gcx X AY s3 H3 scope env fp) (fp := fp) (vs := own.map (·.2)) hAY rfl hc T hgY htY heY ?_ ffp W turn m (m + 1) 0 _ _ H3 (Nat.lt_succ_self _) w0 I6 st5 nf3
        show env.scope.isCoroutine = false
        rw [ge.sc]; exact hco
      · have B := I'.base
        refine I3.call' (ch := fp) I'.os B I'.hok I'.bare fun b hb => ?_
        exact ⟨(f3 b hb).1.2.2.2.1, (f3 b hb).1.2.1, (f3 b hb).1.2.2.2.2.1, (f3 b hb).1.2.2.2.2.2⟩
    · exact ⟨rA.hd, rA.dp, by have := hr.un; have := nA.un; show A.units + 1 + 16 * (k + 1) + 200 < _; omega⟩
  cases hf : codeAmong pos pt.toList with
  | none =>
    refine wpAny_bind (wpAny_genexprCodeX hcode (cd.code hPs htr) (cd.tab hPs) hf fun c' h' tk hx hge hlt hco' _ htab' _ => ?_)
    obtain ⟨o1, vs, f1, tf, fl, tg1, inF, tx, tt1, op, _, _, _, _, _, _, _, _, _, htr', _⟩ := hco'
    exact cont _ h' tk _ hx (Nat.le_trans hge (Nat.le_of_lt hlt)) htab'.2 htr'
  | some cv =>
    refine wpAny_bind (wpAny_genexprCode_hit hcode (cd.code hPs htr) hf ?_)
    have q := cont cv s2.heap s2.toks #[] (Heap.ExtBut.refl _ _) (Nat.le_refl _) (by simpa using hPs) (by simpa using htr)
    exact q
end
end ZG

namespace ZG
open PySem PySem.Spec PyProof.Rows L2 GxR

section
variable {Y : Cx} {A : Around} {ps : List (Addr × Obj)} {S F : Hp → Prop} {a : Addr} {gn : Nat} {go : Obj} {R : Result → Shared → Prop}
/-- all, any: what is wanted of a truth value that is handed out -/
def cAll (F : Hp → Prop) : CW := fun y H Nx => ∃ b : Bool, y = .bl b ∧ if b = true then Nx H else F H
def cAny (F : Hp → Prop) : CW := fun y H Nx => ∃ b : Bool, y = .bl b ∧ if b = true then F H else Nx H

theorem all_turns (hh : A.handled = none) (hroom : A.depth < recursionLimit) (hps : (a, go) ∈ ps) (hgo : ∀ h : Heap, h.get? a = some go → h.IsGen a gn)
    (hS : ∀ sg H t, Inv Y ps sg H t → S H → R (.ok (.ret (.bool true))) t) (hF : ∀ sg H t, Inv Y ps sg H t → F H → R (.ok (.ret (.bool false))) t) :
    ∀ (n : Nat) (s : Shared), GAt Y A.in1 ps S (cAll F) a gn n s → codeAny (model Y.prog Y.w) A (.builtin "all.loop" ⟨[.ref a], []⟩) R s := by
  intro n
  induction n using Nat.strongRecOn with
  | ind n ih =>
    intro s G
    refine codeAny_builtin PySem.F.entry_all_loop ?_
    rw [Around.under_plainId PySem.F.plain_all_loop _]
    refine wpAny_bind (m := pyNext (.ref a)) (next_gen hh hroom G hps hgo (fun sg H t I h => ?_) fun v y sg H Nx t r I hC hk => ?_)
    · exact wpAny_bind (wpAny_rule (wpAny_pure (hS sg H t I h)))
    · obtain ⟨b, rfl, hb⟩ := hC
      cases r
      refine wpAny_bind (wpAny_holding (wpAny_truthy_bool ?_))
      refine wpAny_bind (wpAny_letGo ?_)
      cases b with
      | true =>
        obtain ⟨m, hm, G'⟩ := hk hb
        exact wpAny_pure ⟨plainId_quiet PySem.F.plain_all_loop _, ih m hm t G'⟩
      | false => exact wpAny_bind (wpAny_rule (wpAny_pure (hF sg H t I hb)))

theorem any_turns (hh : A.handled = none) (hroom : A.depth < recursionLimit) (hps : (a, go) ∈ ps) (hgo : ∀ h : Heap, h.get? a = some go → h.IsGen a gn)
    (hS : ∀ sg H t, Inv Y ps sg H t → S H → R (.ok (.ret (.bool false))) t) (hF : ∀ sg H t, Inv Y ps sg H t → F H → R (.ok (.ret (.bool true))) t) :
    ∀ (n : Nat) (s : Shared), GAt Y A.in1 ps S (cAny F) a gn n s → codeAny (model Y.prog Y.w) A (.builtin "any.loop" ⟨[.ref a], []⟩) R s := by
  intro n
  induction n using Nat.strongRecOn with
  | ind n ih =>
    intro s G
    refine codeAny_builtin PySem.F.entry_any_loop ?_
    rw [Around.under_plainId PySem.F.plain_any_loop _]
    refine wpAny_bind (m := pyNext (.ref a)) (next_gen hh hroom G hps hgo (fun sg H t I h => ?_) fun v y sg H Nx t r I hC hk => ?_)
    · exact wpAny_bind (wpAny_rule (wpAny_pure (hS sg H t I h)))
    · obtain ⟨b, rfl, hb⟩ := hC
      cases r
      refine wpAny_bind (wpAny_holding (wpAny_truthy_bool ?_))
      refine wpAny_bind (wpAny_letGo ?_)
      cases b with
      | false =>
        obtain ⟨m, hm, G'⟩ := hk hb
        exact wpAny_pure ⟨plainId_quiet PySem.F.plain_any_loop _, ih m hm t G'⟩
      | true => exact wpAny_bind (wpAny_rule (wpAny_pure (hF sg H t I hb)))
end

section
variable {X : Cx} {elt tg iter : Expr} {ifs : List Expr} {scope : Scope} {own : List (Str × Nat)}
variable {wi : TI} {g : TG} {tt : TT} {te : TE} {k : Nat} {c P : Addr} {p pos gpos : Pos}

/-- the turns of a generator expression; the end, what is wanted of each thing -/
def tGen (P : Addr) (wi : TI) (g : TG) (tt : TT) (te : TE) (vs : List Nat) (C : CW) (S : Hp → Prop) : L2.St → Hp → Prop := fun σ H => wi σ H fun J H1 => TabG H1 P ∧ ∀ H2, Tabbed P H1 H2 →
  ∃ W : Nat → Nat → Hp → Prop, (∃ m, W 0 m H2) ∧ ∀ i m H, W i m H → (J.stop i H ∧ S H) ∨ (J.go i H ∧ ∃ Nx : Hp → Prop, (∀ H', Nx H' → ∃ m', m' < m ∧ W (i + 1) m' H') ∧
    ∀ x H', J.yld i H x H' → g x (wipe σ vs) H' fun σ2 H2 => (wipe σ2 vs = wipe σ vs) ∧ tt σ2 H2 fun b H3 => if b = true then te σ2 H3 fun y H4 => C y H4 Nx else Nx H3)
def tAllG (P : Addr) (wi : TI) (g : TG) (tt : TT) (te : TE) (vs : List Nat) : TE := fun σ H Q => tGen P wi g tt te vs (cAll fun H => Q (.bl false) H) (fun H => Q (.bl true) H) σ H
def tAnyG (P : Addr) (wi : TI) (g : TG) (tt : TT) (te : TE) (vs : List Nat) : TE := fun σ H Q => tGen P wi g tt te vs (cAny fun H => Q (.bl true) H) (fun H => Q (.bl false) H) σ H

theorem pe_allG (hr : Room (k + 2) X.A) (hN : X.N.Nodup) (hc : X.calm = true) (hgl : Gl X "all") (hm : X.mg "all" = none) (TB : TabB X.base X.mg c P) (hcode : X.env.code = .ref c)
    (hco : scope.isCoroutine = false) (h0 : scope.names.lookup (".0" : Str) = some NameKind.local) (ok : BlkOk X.N X.env.scope scope own) (hi : PI X tg iter wi)
    (hg : ∀ (A : Around) (s : Shared) (H : Hp) (L : Addr) (code : Value) (fp : List Addr), Room k A → PG (gcx X A s H scope (gxEnv X scope L code) fp) tg g)
    (ht : ∀ (A : Around) (s : Shared) (H : Hp) (L : Addr) (code : Value) (fp : List Addr), Room k A → PTs (gcx X A s H scope (gxEnv X scope L code) fp) ifs tt)
    (he : ∀ (A : Around) (s : Shared) (H : Hp) (L : Addr) (code : Value) (fp : List Addr), Room k A → PE (gcx X A s H scope (gxEnv X scope L code) fp) elt te)
    (hs : ∀ v, genFold iter X.env v = pure v := by intro _; rfl) (hb : bootBuiltins "all" = some (.builtin "all") := by decide +kernel)
    (hse : starEach [.GeneratorExp elt [⟨tg, iter, ifs, 0⟩] scope gpos] X.env = (false, eval (.GeneratorExp elt [⟨tg, iter, ifs, 0⟩] scope gpos) X.env) :: starEach [] X.env := by rfl) :
    PE X (.Call (.Name "all" p) [.GeneratorExp elt [⟨tg, iter, ifs, 0⟩] scope gpos] [] pos) (tAllG P wi g tt te (own.map (·.2))) := by
  refine ⟨fun pins s sg H Q I h => ?_⟩
  refine wpAny_Call_Name_kw (ld_blt I hgl hm hb ?_)
  refine PyProof.Rows.callWith_builtin1 ?_ hse (by rfl)
  rw [hse]
  show wpAny _ _ (spliced ((false, eval (.GeneratorExp elt [⟨tg, iter, ifs, 0⟩] scope gpos) X.env) :: backTo pos (starEach [] X.env))) _ _ s
  refine Calls.spliced_cons (gen_make (own := own) hr hN hc TB hcode hco h0 ok hi hg ht he hs I h fun J H1 H2 a s5 hR tb M => ?_)
  refine Calls.spliced_nil ?_
  obtain ⟨W, ⟨m, w0⟩, turn⟩ := hR H2 tb
  obtain ⟨Y, gn, go, ps, e1, e2, G, hps, hgo, hig, hX⟩ := M.run X.A.in1 (fun H => Q (.bl true) H) (cAll fun H => Q (.bl false) H) W m near1 w0 turn
  refine call_function_tree PySem.F.kind_all PySem.F.plain_all PySem.F.entry_all (PySem.F.args_all1 _) ?_
  unfold Builtin.«all»
  refine wpAny_bind (m := oneArg "all" _) (wpAny_pure ?_)
  refine wpAny_bind (wpAny_pyIter_gen hig ?_)
  rw [← e1, ← e2]
  exact wpAny_pure ⟨plainId_quiet PySem.F.plain_all_loop _, all_turns hr.hd hr.depth hps hgo (fun sg' H' t I' q => ⟨.bl true, H', hX sg' H' t I', rfl, q⟩) (fun sg' H' t I' q => ⟨.bl false, H', hX sg' H' t I', rfl, q⟩) _ _ G⟩

theorem pe_anyG (hr : Room (k + 2) X.A) (hN : X.N.Nodup) (hc : X.calm = true) (hgl : Gl X "any") (hm : X.mg "any" = none) (TB : TabB X.base X.mg c P) (hcode : X.env.code = .ref c)
    (hco : scope.isCoroutine = false) (h0 : scope.names.lookup (".0" : Str) = some NameKind.local) (ok : BlkOk X.N X.env.scope scope own) (hi : PI X tg iter wi)
    (hg : ∀ (A : Around) (s : Shared) (H : Hp) (L : Addr) (code : Value) (fp : List Addr), Room k A → PG (gcx X A s H scope (gxEnv X scope L code) fp) tg g)
    (ht : ∀ (A : Around) (s : Shared) (H : Hp) (L : Addr) (code : Value) (fp : List Addr), Room k A → PTs (gcx X A s H scope (gxEnv X scope L code) fp) ifs tt)
    (he : ∀ (A : Around) (s : Shared) (H : Hp) (L : Addr) (code : Value) (fp : List Addr), Room k A → PE (gcx X A s H scope (gxEnv X scope L code) fp) elt te)
    (hs : ∀ v, genFold iter X.env v = pure v := by intro _; rfl) (hb : bootBuiltins "any" = some (.builtin "any") := by decide +kernel)
    (hse : starEach [.GeneratorExp elt [⟨tg, iter, ifs, 0⟩] scope gpos] X.env = (false, eval (.GeneratorExp elt [⟨tg, iter, ifs, 0⟩] scope gpos) X.env) :: starEach [] X.env := by rfl) :
    PE X (.Call (.Name "any" p) [.GeneratorExp elt [⟨tg, iter, ifs, 0⟩] scope gpos] [] pos) (tAnyG P wi g tt te (own.map (·.2))) := by
  refine ⟨fun pins s sg H Q I h => ?_⟩
  refine wpAny_Call_Name_kw (ld_blt I hgl hm hb ?_)
  refine PyProof.Rows.callWith_builtin1 ?_ hse (by rfl)
  rw [hse]
  show wpAny _ _ (spliced ((false, eval (.GeneratorExp elt [⟨tg, iter, ifs, 0⟩] scope gpos) X.env) :: backTo pos (starEach [] X.env))) _ _ s
  refine Calls.spliced_cons (gen_make (own := own) hr hN hc TB hcode hco h0 ok hi hg ht he hs I h fun J H1 H2 a s5 hR tb M => ?_)
  refine Calls.spliced_nil ?_
  obtain ⟨W, ⟨m, w0⟩, turn⟩ := hR H2 tb
  obtain ⟨Y, gn, go, ps, e1, e2, G, hps, hgo, hig, hX⟩ := M.run X.A.in1 (fun H => Q (.bl false) H) (cAny fun H => Q (.bl true) H) W m near1 w0 turn
  refine call_function_tree PySem.F.kind_any PySem.F.plain_any PySem.F.entry_any (PySem.F.args_any1 _) ?_
  unfold Builtin.«any»
  refine wpAny_bind (m := oneArg "any" _) (wpAny_pure ?_)
  refine wpAny_bind (wpAny_pyIter_gen hig ?_)
  rw [← e1, ← e2]
  exact wpAny_pure ⟨plainId_quiet PySem.F.plain_any_loop _, any_turns hr.hd hr.depth hps hgo (fun sg' H' t I' q => ⟨.bl false, H', hX sg' H' t I', rfl, q⟩) (fun sg' H' t I' q => ⟨.bl true, H', hX sg' H' t I', rfl, q⟩) _ _ G⟩
end
end ZG

/-! programs over trees of data: the state of a def as a list of trees -/
namespace ZD
open PySem PySem.Spec PyProof.Rows L2 GxR ZG

/-- what a name holds: nothing, a tree that stays, a list or dict of one's own, the same of a caller's that is changed here -/
inductive Sl where
  | no | sh (d : PyData) | ow (d : PyData) | io (d : PyData)
abbrev En := List Sl
/-- a value: a tree that stays, or a new list or dict that nobody else has -/
inductive Vl where
  | sh (d : PyData) | ow (d : PyData)
def Vl.d : Vl → PyData
  | .sh d => d
  | .ow d => d

inductive Res (α : Type) where
  | ok (a : α) (en : En) | err (c : String) (en : En) | bad
abbrev M (α : Type) := En → Res α

structure Kx where
  K : PySem.W.Frag
  T : List Addr

/-- a key of a dict as a tree -/
def keyD : Key → PyData
  | .inl i => .int i
  | .inr x => .str x

/-- a list or dict that stands at a, its things in Z -/
inductive Own (K : PySem.W.Frag) (H Z : Hp) (a : Addr) : PyData → Prop
  | lst {vs : List V} {ds : List PyData} : H a = some (.lst vs) → DpAll K Z vs ds → Own K H Z a (.list ds)
  | dct {kvs : List (Key × V)} {ds : List (PyData × PyData)} : H a = some (.dK kvs) → ds.map (·.1) = kvs.map (fun p => keyD p.1) → DpAll K Z (kvs.map (·.2)) (ds.map (·.2)) → Own K H Z a (.dict ds)

def isOwn : Sl → Bool
  | .ow _ => true
  | .io _ => true
  | _ => false
/-- a is the place of an own thing -/
def Mine (sg : L2.St) (en : En) (a : Addr) : Prop := ∃ (i : Nat) (s : Sl), en[i]? = some s ∧ isOwn s = true ∧ sg[i]? = some (some (V.ref a))

def SlOk (K : PySem.W.Frag) (H Z : Hp) (v : Option V) : Sl → Prop
  | .no => True
  | .sh d => ∃ x, v = some x ∧ Dp K Z x d
  | .ow d => ∃ a, v = some (.ref a) ∧ Z a = none ∧ Own K H Z a d
  | .io d => ∃ a, v = some (.ref a) ∧ Z a = none ∧ Own K H Z a d

structure Rel (k : Kx) (sg : L2.St) (H Z : Hp) (en : En) : Prop where
  sub : ∀ a o, Z a = some o → H a = some o
  sl : ∀ (i : Nat) (s : Sl), en[i]? = some s → ∃ v, sg[i]? = some v ∧ SlOk k.K H Z v s
  dis : ∀ (i j : Nat) (s t : Sl) (a : Addr), en[i]? = some s → en[j]? = some t → isOwn s = true → isOwn t = true → sg[i]? = some (some (V.ref a)) → sg[j]? = some (some (V.ref a)) → i = j
  tab : ∀ P ∈ k.T, TabG H P ∧ Z P = none

/-- what a step may do -/
structure Aft (k : Kx) (sg : L2.St) (H Z : Hp) (en : En) (sg' : L2.St) (H' Z' : Hp) (en' : En) : Prop where
  rel : Rel k sg' H' Z' en'
  zz : ∀ a o, Z a = some o → Z' a = some o
  new : ∀ a o, Z' a = some o → Z a = some o ∨ H a = none ∨ Mine sg en a
  keep : ∀ a o, H a = some o → ¬ Mine sg en a → a ∉ k.T → H' a = some o
  own : ∀ a, Mine sg' en' a → Mine sg en a ∨ H a = none
  io : ∀ (i : Nat) (d : PyData), en[i]? = some (.io d) → (∃ d', en'[i]? = some (.io d')) ∧ sg'[i]? = sg[i]?

section
mutual
theorem dp_mono {K : PySem.W.Frag} {Z Z' : Hp} (h : ∀ a o, Z a = some o → Z' a = some o) : ∀ {v : V} {d : PyData}, Dp K Z v d → Dp K Z' v d
  | _, _, .non => .non
  | _, _, .bl b => .bl b
  | _, _, .int i => .int i
  | _, _, .str x => .str x
  | _, _, .lst hs ha => .lst (Same.seq h hs) (dpAll_mono h ha)
  | _, _, .tup hs ha => .tup (by
      rcases hs with (q | ⟨o, q⟩) | q
      · exact .inl (.inl (h _ _ q))
      · exact .inl (.inr ⟨o, h _ _ q⟩)
      · exact .inr q) (dpAll_mono h ha)
theorem dpAll_mono {K : PySem.W.Frag} {Z Z' : Hp} (h : ∀ a o, Z a = some o → Z' a = some o) : ∀ {vs : List V} {ds : List PyData}, DpAll K Z vs ds → DpAll K Z' vs ds
  | _, _, .nil => .nil
  | _, _, .cons q r => .cons (dp_mono h q) (dpAll_mono h r)
end
theorem dpa_length {K : PySem.W.Frag} {Z : Hp} : ∀ {vs : List V} {ds : List PyData}, DpAll K Z vs ds → vs.length = ds.length
  | _, _, .nil => rfl
  | _, _, .cons _ r => by rw [List.length_cons, List.length_cons, dpa_length r]
theorem dpa_append {K : PySem.W.Frag} {Z : Hp} : ∀ {vs ws : List V} {ds es : List PyData}, DpAll K Z vs ds → DpAll K Z ws es → DpAll K Z (vs ++ ws) (ds ++ es)
  | _, _, _, _, .nil, s => s
  | _, _, _, _, .cons q r, s => .cons q (dpa_append r s)
theorem dpa_get {K : PySem.W.Frag} {Z : Hp} : ∀ {vs : List V} {ds : List PyData} {i : Nat} {d : PyData}, DpAll K Z vs ds → ds[i]? = some d → ∃ v, vs[i]? = some v ∧ Dp K Z v d
  | _, _, _, _, .nil, e => by simp at e
  | _, _, 0, _, .cons q _, e => by simp at e; subst e; exact ⟨_, rfl, q⟩
  | _, _, i + 1, _, .cons _ r, e => by
    obtain ⟨v, h1, h2⟩ := dpa_get (i := i) r (by simpa using e)
    exact ⟨v, by simpa using h1, h2⟩
theorem dpa_get' {K : PySem.W.Frag} {Z : Hp} : ∀ {vs : List V} {ds : List PyData} {i : Nat} {v : V}, DpAll K Z vs ds → vs[i]? = some v → ∃ d, ds[i]? = some d ∧ Dp K Z v d
  | _, _, _, _, .nil, e => by simp at e
  | _, _, 0, _, .cons q _, e => by simp at e; subst e; exact ⟨_, rfl, q⟩
  | _, _, i + 1, _, .cons _ r, e => by
    obtain ⟨v, h1, h2⟩ := dpa_get' (i := i) r (by simpa using e)
    exact ⟨v, by simpa using h1, h2⟩
theorem dpa_set {K : PySem.W.Frag} {Z : Hp} {v : V} {d : PyData} (h : Dp K Z v d) : ∀ {vs : List V} {ds : List PyData} (i : Nat), DpAll K Z vs ds → DpAll K Z (vs.set i v) (ds.set i d)
  | _, _, _, .nil => .nil
  | _, _, 0, .cons _ r => .cons h r
  | _, _, i + 1, .cons q r => .cons q (dpa_set h i r)
theorem dpa_take {K : PySem.W.Frag} {Z : Hp} : ∀ {vs : List V} {ds : List PyData} (n : Nat), DpAll K Z vs ds → DpAll K Z (vs.take n) (ds.take n)
  | _, _, 0, _ => .nil
  | _, _, _ + 1, .nil => .nil
  | _, _, n + 1, .cons q r => .cons q (dpa_take n r)
theorem dpa_drop {K : PySem.W.Frag} {Z : Hp} : ∀ {vs : List V} {ds : List PyData} (n : Nat), DpAll K Z vs ds → DpAll K Z (vs.drop n) (ds.drop n)
  | _, _, 0, r => r
  | _, _, _ + 1, .nil => .nil
  | _, _, n + 1, .cons _ r => dpa_drop n r
theorem dpa_dropLast {K : PySem.W.Frag} {Z : Hp} {vs : List V} {ds : List PyData} (h : DpAll K Z vs ds) : DpAll K Z vs.dropLast ds.dropLast := by
  rw [List.dropLast_eq_take, List.dropLast_eq_take, dpa_length h]
  exact dpa_take _ h
theorem dpa_reverse {K : PySem.W.Frag} {Z : Hp} : ∀ {vs : List V} {ds : List PyData}, DpAll K Z vs ds → DpAll K Z vs.reverse ds.reverse
  | _, _, .nil => .nil
  | _, _, .cons q r => by
    rw [List.reverse_cons, List.reverse_cons]
    exact dpa_append (dpa_reverse r) (.cons q .nil)
end

section
variable {k : Kx} {sg sg' sg2 : L2.St} {H H' H2 Z Z' Z2 : Hp} {en en' en2 : En}
theorem Own.mono {K : PySem.W.Frag} {a : Addr} {d : PyData} (h : Own K H Z a d) (hh : ∀ o, H a = some o → H' a = some o) (hz : ∀ a o, Z a = some o → Z' a = some o) : Own K H' Z' a d := by
  cases h with
  | lst h1 h2 => exact .lst (hh _ h1) (dpAll_mono hz h2)
  | dct h1 h2 h3 => exact .dct (hh _ h1) h2 (dpAll_mono hz h3)
theorem Own.here {K : PySem.W.Frag} {a : Addr} {d : PyData} (h : Own K H Z a d) : ∃ o, H a = some o ∧ (∀ ps, o ≠ .tbl ps) ∧ Mut (some o) := by
  cases h with
  | lst h1 h2 => exact ⟨_, h1, (fun _ e => by cases e), trivial⟩
  | dct h1 h2 h3 => exact ⟨_, h1, (fun _ e => by cases e), trivial⟩

theorem Rel.mine (r : Rel k sg H Z en) {a : Addr} (m : Mine sg en a) : Z a = none ∧ ∃ d, Own k.K H Z a d := by
  obtain ⟨i, s, h1, h2, h3⟩ := m
  obtain ⟨v, hv, q⟩ := r.sl i s h1
  rw [h3] at hv
  cases hv
  cases s with
  | no => cases h2
  | sh d => cases h2
  | ow d => obtain ⟨b, e, h4, h5⟩ := q; cases e; exact ⟨h4, d, h5⟩
  | io d => obtain ⟨b, e, h4, h5⟩ := q; cases e; exact ⟨h4, d, h5⟩
theorem Rel.free (r : Rel k sg H Z en) {a : Addr} (h : H a = none) : Z a = none := by
  cases e : Z a with
  | none => rfl
  | some o => rw [r.sub a o e] at h; cases h

theorem Aft.refl (r : Rel k sg H Z en) : Aft k sg H Z en sg H Z en :=
  ⟨r, fun _ _ h => h, fun _ _ h => .inl h, fun _ _ h _ _ => h, fun _ h => .inl h, fun i d h => ⟨⟨d, h⟩, rfl⟩⟩
theorem Aft.trans (a : Aft k sg H Z en sg' H' Z' en') (b : Aft k sg' H' Z' en' sg2 H2 Z2 en2) (r : Rel k sg H Z en) : Aft k sg H Z en sg2 H2 Z2 en2 where
  rel := b.rel
  zz := fun x o h => b.zz x o (a.zz x o h)
  new := fun x o h => by
    rcases b.new x o h with q | q | q
    · exact a.new x o q
    · cases e : H x with
      | none => exact .inr (.inl rfl)
      | some u =>
        by_cases m : Mine sg en x
        · exact .inr (.inr m)
        · by_cases t : x ∈ k.T
          · obtain ⟨⟨ps, hp, _⟩, _⟩ := a.rel.tab x t
            rw [hp] at q; cases q
          · rw [a.keep x u e m t] at q; cases q
    · rcases a.own x q with z | z
      · exact .inr (.inr z)
      · exact .inr (.inl z)
  keep := fun x o h m t => by
    refine b.keep x o (a.keep x o h m t) (fun q => ?_) t
    rcases a.own x q with z | z
    · exact m z
    · rw [h] at z; cases z
  own := fun x h => by
    rcases b.own x h with q | q
    · exact a.own x q
    · cases e : H x with
      | none => exact .inr rfl
      | some u =>
        by_cases m : Mine sg en x
        · exact .inl m
        · by_cases t : x ∈ k.T
          · obtain ⟨⟨ps, hp, _⟩, _⟩ := a.rel.tab x t
            rw [hp] at q; cases q
          · rw [a.keep x u e m t] at q; cases q
  io := fun i d h => by
    obtain ⟨⟨d', h1⟩, h2⟩ := a.io i d h
    obtain ⟨h3, h4⟩ := b.io i d' h1
    exact ⟨h3, h4.trans h2⟩
end

/-- a value behind a step that began at sg, H, en -/
def VlOk (k : Kx) (sg : L2.St) (H : Hp) (en : En) (sg' : L2.St) (H' Z' : Hp) (en' : En) (v : V) : Vl → Prop
  | .sh d => Dp k.K Z' v d
  | .ow d => ∃ a, v = .ref a ∧ Z' a = none ∧ Own k.K H' Z' a d ∧ ¬ Mine sg' en' a ∧ (H a = none ∨ Mine sg en a)

/-- what is wanted where an error of the class leaves -/
abbrev Wish := String → L2.St → Hp → Prop
def W0 : Wish := fun _ _ _ => False

/-- what follows a reckoning -/
def Post {α : Type} (k : Kx) (E : Wish) (sg : L2.St) (H Z : Hp) (en : En) (r : Res α) (P : α → En → Hp → Hp → Prop) : Prop :=
  match r with
  | .ok a en' => ∀ H' Z', Aft k sg H Z en sg H' Z' en' → P a en' H' Z'
  | .err c en' => ∀ H' Z', Aft k sg H Z en sg H' Z' en' → E c sg H'
  | .bad => False

def bnd {α β : Type} (m : M α) (f : α → M β) : M β := fun en => match m en with
  | .ok a en' => f a en'
  | .err c en' => .err c en'
  | .bad => .bad
def ret {α : Type} (a : α) : M α := fun en => .ok a en
def fail {α : Type} : M α := fun _ => .bad

section
variable {k : Kx} {E : Wish} {sg : L2.St} {H H' Z Z' : Hp} {en en' : En} {α β : Type}
theorem post_bnd {m : M α} {f : α → M β} {P : β → En → Hp → Hp → Prop} (r : Rel k sg H Z en) (h : Post k E sg H Z en (bnd m f en) P) :
    Post k E sg H Z en (m en) fun a en1 H1 Z1 => Aft k sg H Z en sg H1 Z1 en1 ∧ Post k E sg H1 Z1 en1 (f a en1) P := by
  unfold bnd at h
  cases q : m en with
  | ok a en1 =>
    rw [q] at h
    intro H1 Z1 a1
    refine ⟨a1, ?_⟩
    have h : Post k E sg H Z en (f a en1) P := h
    cases q2 : f a en1 with
    | ok b en2 =>
      rw [q2] at h
      intro H2 Z2 a2
      exact h H2 Z2 (a1.trans a2 r)
    | err c en2 =>
      rw [q2] at h
      intro H2 Z2 a2
      exact h H2 Z2 (a1.trans a2 r)
    | bad => rw [q2] at h; exact h
  | err c en1 => rw [q] at h; exact h
  | bad => rw [q] at h; exact h
theorem post_mono {r : Res α} {P P' : α → En → Hp → Hp → Prop} (h : Post k E sg H Z en r P) (i : ∀ a en' H' Z', Aft k sg H Z en sg H' Z' en' → P a en' H' Z' → P' a en' H' Z') : Post k E sg H Z en r P' := by
  cases r with
  | ok a en1 => exact fun H1 Z1 a1 => i _ _ _ _ a1 (h H1 Z1 a1)
  | err c en1 => exact h
  | bad => exact h
theorem post_ret {a : α} {P : α → En → Hp → Hp → Prop} (r : Rel k sg H Z en) (h : Post k E sg H Z en (ret a en) P) : P a en H Z := h H Z (Aft.refl r)

theorem free_back (a : Aft k sg H Z en sg H' Z' en') {x : Addr} (h : H' x = none) : H x = none ∨ Mine sg en x := by
  cases e : H x with
  | none => exact .inl rfl
  | some u =>
    by_cases m : Mine sg en x
    · exact .inr m
    · by_cases t : x ∈ k.T
      · obtain ⟨⟨ps, hp, _⟩, _⟩ := a.rel.tab x t
        rw [hp] at h; cases h
      · rw [a.keep x u e m t] at h; cases h
theorem vl_back {H2 Z2 : Hp} {en2 : En} {v : V} {x : Vl} (a : Aft k sg H Z en sg H' Z' en') (h : VlOk k sg H' en' sg H2 Z2 en2 v x) : VlOk k sg H en sg H2 Z2 en2 v x := by
  cases x with
  | sh d => exact h
  | ow d =>
    obtain ⟨p, e, h1, h2, h3, h4⟩ := h
    refine ⟨p, e, h1, h2, h3, ?_⟩
    rcases h4 with q | q
    · exact free_back a q
    · exact (a.own p q).symm
theorem mine_there (r : Rel k sg H Z en) {a : Addr} (m : Mine sg en a) : ∃ o, H a = some o ∧ a ∉ k.T := by
  obtain ⟨_, d, q⟩ := r.mine m
  obtain ⟨o, h1, h2, _⟩ := q.here
  refine ⟨o, h1, fun t => ?_⟩
  obtain ⟨⟨ps, hp, _⟩, _⟩ := r.tab a t
  rw [h1] at hp
  exact h2 ps (Option.some.inj hp)
/-- a new thing stands at p, and stays one's own -/
theorem aft_new {p : Addr} {o : HO} (r : Rel k sg H Z en) (hp : H p = none) : Aft k sg H Z en sg (upd H p o) Z en := by
  have ne : ∀ a u, H a = some u → a ≠ p := fun a u h e => by rw [e, hp] at h; cases h
  have up : ∀ a u, H a = some u → upd H p o a = some u := fun a u h => by rw [upd_ne (ne a u h)]; exact h
  refine ⟨⟨fun a u h => up a u (r.sub a u h), fun i s h => ?_, r.dis, fun P hP => ?_⟩, fun _ _ h => h, fun _ _ h => .inl h, fun a u h _ _ => up a u h, fun _ h => .inl h, fun i d h => ⟨⟨d, h⟩, rfl⟩⟩
  · obtain ⟨v, hv, q⟩ := r.sl i s h
    refine ⟨v, hv, ?_⟩
    cases s with
    | no => trivial
    | sh d => exact q
    | ow d => obtain ⟨a, e, h1, h2⟩ := q; exact ⟨a, e, h1, h2.mono (up a) fun _ _ z => z⟩
    | io d => obtain ⟨a, e, h1, h2⟩ := q; exact ⟨a, e, h1, h2.mono (up a) fun _ _ z => z⟩
  · obtain ⟨⟨ps, h1, h2⟩, h3⟩ := r.tab P hP
    exact ⟨⟨ps, up _ _ h1, h2⟩, h3⟩
/-- .. and is there for all -/
theorem aft_all {p : Addr} {o : HO} (r : Rel k sg H Z en) (hp : H p = none) : Aft k sg H Z en sg (upd H p o) (upd Z p o) en := by
  have ne : ∀ a u, H a = some u → a ≠ p := fun a u h e => by rw [e, hp] at h; cases h
  have up : ∀ a u, H a = some u → upd H p o a = some u := fun a u h => by rw [upd_ne (ne a u h)]; exact h
  have uz : ∀ a u, Z a = some u → upd Z p o a = some u := fun a u h => by rw [upd_ne (ne a u (r.sub a u h))]; exact h
  refine ⟨⟨fun a u h => ?_, fun i s h => ?_, r.dis, fun P hP => ?_⟩, uz, fun a u h => ?_, fun a u h _ _ => up a u h, fun _ h => .inl h, fun i d h => ⟨⟨d, h⟩, rfl⟩⟩
  · by_cases e : a = p
    · rw [e, upd_same] at h; rw [e, upd_same]; exact h
    · rw [upd_ne e] at h; rw [upd_ne e]; exact r.sub a u h
  · obtain ⟨v, hv, q⟩ := r.sl i s h
    refine ⟨v, hv, ?_⟩
    cases s with
    | no => trivial
    | sh d => obtain ⟨x, e, q⟩ := q; exact ⟨x, e, dp_mono uz q⟩
    | ow d =>
      obtain ⟨a, e, h1, h2⟩ := q
      obtain ⟨u, h3, _⟩ := h2.here
      exact ⟨a, e, by rw [upd_ne (ne a u h3)]; exact h1, h2.mono (up a) uz⟩
    | io d =>
      obtain ⟨a, e, h1, h2⟩ := q
      obtain ⟨u, h3, _⟩ := h2.here
      exact ⟨a, e, by rw [upd_ne (ne a u h3)]; exact h1, h2.mono (up a) uz⟩
  · obtain ⟨⟨ps, h1, h2⟩, h3⟩ := r.tab P hP
    exact ⟨⟨ps, up _ _ h1, h2⟩, by rw [upd_ne (ne P _ h1)]; exact h3⟩
  · by_cases e : a = p
    · rw [e]; exact .inr (.inl hp)
    · rw [upd_ne e] at h; exact .inl h
/-- one's own thing at a is from now on there for all -/
theorem aft_frz {i : Nat} {a : Addr} {o : HO} {d : PyData} (r : Rel k sg H Z en) (he : en[i]? = some (.ow d)) (hs : sg[i]? = some (some (V.ref a))) (ho : H a = some o) (hd : Dp k.K (upd Z a o) (.ref a) d) :
    Aft k sg H Z en sg H (upd Z a o) (en.set i (.sh d)) := by
  have hm : Mine sg en a := ⟨i, _, he, rfl, hs⟩
  have za : Z a = none := (r.mine hm).1
  have hi : i < en.length := (List.getElem?_eq_some_iff.mp he).1
  have uz : ∀ b u, Z b = some u → upd Z a o b = some u := fun b u h => by
    rw [upd_ne (fun e => by rw [e, za] at h; cases h)]; exact h
  have at_ : ∀ (j : Nat) (s : Sl), (en.set i (.sh d))[j]? = some s → (j = i ∧ s = .sh d) ∨ (j ≠ i ∧ en[j]? = some s) := fun j s h => by
    by_cases e : j = i
    · rw [e, List.getElem?_set_self hi] at h; cases h; exact .inl ⟨e, rfl⟩
    · rw [List.getElem?_set_ne (Ne.symm e)] at h; exact .inr ⟨e, h⟩
  have mn : ∀ b, Mine sg (en.set i (.sh d)) b → Mine sg en b ∧ b ≠ a := fun b ⟨j, s, h1, h2, h3⟩ => by
    rcases at_ j s h1 with ⟨_, e⟩ | ⟨hj, e⟩
    · rw [e] at h2; cases h2
    · exact ⟨⟨j, s, e, h2, h3⟩, fun z => hj (r.dis j i s _ a e he h2 rfl (by rw [← z]; exact h3) hs)⟩
  refine ⟨⟨fun b u h => ?_, fun j s h => ?_, fun j l s t b h1 h2 h3 h4 h5 h6 => ?_, fun P hP => ?_⟩, uz, fun b u h => ?_, fun b u h _ _ => h, fun b h => .inl (mn b h).1, fun j d' h => ?_⟩
  · by_cases e : b = a
    · rw [e, upd_same] at h; rw [e, ho]; exact h
    · rw [upd_ne e] at h; exact r.sub b u h
  · rcases at_ j s h with ⟨e1, e2⟩ | ⟨hj, e⟩
    · rw [e1, e2]; exact ⟨_, hs, _, rfl, hd⟩
    · obtain ⟨v, hv, q⟩ := r.sl j s e
      refine ⟨v, hv, ?_⟩
      have nb : ∀ b, isOwn s = true → v = some (.ref b) → b ≠ a := fun b ho' hv' z => hj (r.dis j i s _ a e he ho' rfl (by rw [hv, hv', z]) hs)
      cases s with
      | no => trivial
      | sh d' => obtain ⟨x, e, q⟩ := q; exact ⟨x, e, dp_mono uz q⟩
      | ow d' => obtain ⟨b, e, h1, h2⟩ := q; exact ⟨b, e, by rw [upd_ne (nb b rfl e)]; exact h1, h2.mono (fun _ z => z) uz⟩
      | io d' => obtain ⟨b, e, h1, h2⟩ := q; exact ⟨b, e, by rw [upd_ne (nb b rfl e)]; exact h1, h2.mono (fun _ z => z) uz⟩
  · rcases at_ j s h1 with ⟨_, e⟩ | ⟨_, e⟩
    · rw [e] at h3; cases h3
    · rcases at_ l t h2 with ⟨_, e'⟩ | ⟨_, e'⟩
      · rw [e'] at h4; cases h4
      · exact r.dis j l s t b e e' h3 h4 h5 h6
  · obtain ⟨h1, h3⟩ := r.tab P hP
    obtain ⟨_, _, hn⟩ := mine_there r hm
    exact ⟨h1, by rw [upd_ne (fun e => hn (by rw [← e]; exact hP))]; exact h3⟩
  · by_cases e : b = a
    · rw [e]; exact .inr (.inr hm)
    · rw [upd_ne e] at h; exact .inl h
  · have hj : j ≠ i := fun e => by rw [e, he] at h; cases h
    exact ⟨⟨d', by rw [List.getElem?_set_ne (Ne.symm hj)]; exact h⟩, rfl⟩
/-- a fresh thing of a value is from now on there for all -/
theorem aft_vl {a : Addr} {o : HO} (r : Rel k sg H Z en) (ho : H a = some o) (hz : Z a = none) (nm : ¬ Mine sg en a) (ht : a ∉ k.T) :
    Rel k sg H (upd Z a o) en ∧ (∀ b u, Z b = some u → upd Z a o b = some u) := by
  have uz : ∀ b u, Z b = some u → upd Z a o b = some u := fun b u h => by
    rw [upd_ne (fun e => by rw [e, hz] at h; cases h)]; exact h
  refine ⟨⟨fun b u h => ?_, fun j s h => ?_, r.dis, fun P hP => ?_⟩, uz⟩
  · by_cases e : b = a
    · rw [e, upd_same] at h; rw [e, ho]; exact h
    · rw [upd_ne e] at h; exact r.sub b u h
  · obtain ⟨v, hv, q⟩ := r.sl j s h
    refine ⟨v, hv, ?_⟩
    have nb : ∀ b, isOwn s = true → v = some (.ref b) → b ≠ a := fun b ho' hv' z => nm ⟨j, s, h, ho', by rw [hv, hv', z]⟩
    cases s with
    | no => trivial
    | sh d' => obtain ⟨x, e, q⟩ := q; exact ⟨x, e, dp_mono uz q⟩
    | ow d' => obtain ⟨b, e, h1, h2⟩ := q; exact ⟨b, e, by rw [upd_ne (nb b rfl e)]; exact h1, h2.mono (fun _ z => z) uz⟩
    | io d' => obtain ⟨b, e, h1, h2⟩ := q; exact ⟨b, e, by rw [upd_ne (nb b rfl e)]; exact h1, h2.mono (fun _ z => z) uz⟩
  · obtain ⟨h1, h3⟩ := r.tab P hP
    exact ⟨h1, by rw [upd_ne (fun e => ht (by rw [← e]; exact hP))]; exact h3⟩
end

/-! ### the judgements -/
/-- a thing that is looked at: a tree, or what stands in a place -/
inductive Od where
  | d (x : PyData) | s (i : Nat)
def look (en : En) : Od → Option PyData
  | .d x => some x
  | .s i => match en[i]? with
    | some (.ow d) => some d
    | some (.io d) => some d
    | some (.sh d) => some d
    | _ => none
def OdOk (k : Kx) (sg : L2.St) (Z : Hp) (v : V) : Od → Prop
  | .d d => Dp k.K Z v d
  | .s i => sg[i]? = some (some v)
def Top (K : PySem.W.Frag) (H Z : Hp) (v : V) (d : PyData) : Prop := Dp K Z v d ∨ ∃ a, v = .ref a ∧ Own K H Z a d

def tV (k : Kx) (E : Wish) (m : M Vl) : TE := fun sg H Q => ∃ en Z, Rel k sg H Z en ∧ Post k E sg H Z en (m en) fun x en' H' Z' => ∀ v, VlOk k sg H en sg H' Z' en' v x → Q v H'
def tD (k : Kx) (E : Wish) (m : M PyData) : TE := fun sg H Q => ∃ en Z, Rel k sg H Z en ∧ Post k E sg H Z en (m en) fun x _ H' Z' => ∀ v, Dp k.K Z' v x → Q v H'
def tO (k : Kx) (E : Wish) (m : M Od) : TE := fun sg H Q => ∃ en Z, Rel k sg H Z en ∧ Post k E sg H Z en (m en) fun x _ H' Z' => ∀ v, OdOk k sg Z' v x → Q v H'
def tT (k : Kx) (E : Wish) (m : M Bool) : TT := fun sg H Q => ∃ en Z, Rel k sg H Z en ∧ Post k E sg H Z en (m en) fun b _ H' _ => Q b H'
def tA (k : Kx) (E : Wish) (m : M (List PyData)) : TA := fun sg H Q => ∃ en Z, Rel k sg H Z en ∧ Post k E sg H Z en (m en) fun ds _ H' Z' => ∀ vs, DpAll k.K Z' vs ds → Q vs H'

theorem pe_imp {X : Cx} {e : Expr} {t u : TE} (h : PE X e t) (i : ∀ sg H Q, u sg H Q → t sg H Q) : PE X e u := ⟨fun pins s sg H Q I q => h.run pins s sg H Q I (i _ _ _ q)⟩
theorem pt_imp {X : Cx} {e : Expr} {t u : TT} (h : PT X e t) (i : ∀ sg H Q, u sg H Q → t sg H Q) : PT X e u := ⟨fun pins s sg H Q I q => h.run pins s sg H Q I (i _ _ _ q)⟩
theorem pw_imp {X : Cx} {e : Expr} {t u : TT} (h : PW X e t) (i : ∀ sg H Q, u sg H Q → t sg H Q) : PW X e u := ⟨fun w pins s sg H Q I q => h.run w pins s sg H Q I (i _ _ _ q)⟩
theorem pa_imp {X : Cx} {e : List Expr} {t u : TA} (h : PA X e t) (i : ∀ sg H Q, u sg H Q → t sg H Q) : PA X e u := ⟨fun p pins s sg H Q I q => h.run p pins s sg H Q I (i _ _ _ q)⟩
theorem ps_imp {X : Cx} {e : Stmt} {t u : TS} (h : PS X e t) (i : ∀ D sg H, u D sg H → t D sg H) : PS X e u := ⟨fun pins s sg H D I q => h.run pins s sg H D I (i _ _ _ q)⟩
theorem pss_imp {X : Cx} {e : List Stmt} {t u : TS} (h : PSs X e t) (i : ∀ D sg H, u D sg H → t D sg H) : PSs X e u := ⟨fun pins s sg H D I q => h.run pins s sg H D I (i _ _ _ q)⟩
end ZD

namespace ZD
open PySem PySem.Spec PyProof.Rows L2 GxR ZG

abbrev GE (T : List Addr) (E : Wish) (X : Cx) (e : Expr) (m : M Vl) : Prop := PE X e (tV ⟨X.K, T⟩ E m)
abbrev GD (T : List Addr) (E : Wish) (X : Cx) (e : Expr) (m : M PyData) : Prop := PE X e (tD ⟨X.K, T⟩ E m)
abbrev GO (T : List Addr) (E : Wish) (X : Cx) (e : Expr) (m : M Od) : Prop := PE X e (tO ⟨X.K, T⟩ E m)
abbrev GT (T : List Addr) (E : Wish) (X : Cx) (e : Expr) (m : M Bool) : Prop := PT X e (tT ⟨X.K, T⟩ E m)
abbrev GW (T : List Addr) (E : Wish) (X : Cx) (e : Expr) (m : M Bool) : Prop := PW X e (tT ⟨X.K, T⟩ E m)
abbrev GA (T : List Addr) (E : Wish) (X : Cx) (es : List Expr) (m : M (List PyData)) : Prop := PA X es (tA ⟨X.K, T⟩ E m)

def shV (m : M PyData) : M Vl := bnd m fun d => ret (.sh d)
def fz (m : M Vl) : M PyData := bnd m fun x => match x with
  | .sh d => ret d
  | .ow (.list ds) => ret (.list ds)
  | .ow _ => fail
def odD (m : M PyData) : M Od := bnd m fun d => ret (.d d)
/-- a name that is looked at -/
def nm (i : Nat) : M Od := fun en => match en[i]? with
  | some (.sh d) => .ok (.d d) en
  | some (.ow _) => .ok (.s i) en
  | some (.io _) => .ok (.s i) en
  | _ => .bad
/-- a name whose thing is handed on -/
def nv (i : Nat) : M PyData := fun en => match en[i]? with
  | some (.sh d) => .ok d en
  | some (.ow (.list ds)) => .ok (.list ds) (en.set i (.sh (.list ds)))
  | _ => .bad
def cst (d : PyData) : M PyData := ret d

section
variable {T : List Addr} {E : Wish} {X : Cx} {e a b c : Expr} {pos : Pos}
variable {k : Kx} {sg : L2.St} {H Z : Hp} {en : En}

theorem post_okD {r : Rel k sg H Z en} {d : PyData} {P : PyData → En → Hp → Hp → Prop} (h : Post k E sg H Z en (.ok d en) P) : P d en H Z := h H Z (Aft.refl r)

theorem ge_sh {m : M PyData} (h : GD T E X e m) : GE T E X e (shV m) := pe_imp h fun sg H Q ⟨en, Z, r, q⟩ => ⟨en, Z, r, post_mono (post_bnd r q) fun d en1 H1 Z1 _ ⟨a1, q1⟩ v hv => post_ret a1.rel q1 v hv⟩
/-- a fresh thing is handed to all -/
theorem aft_vl2 {H1 Z1 : Hp} {en1 : En} {a : Addr} {o : HO} (a1 : Aft k sg H Z en sg H1 Z1 en1) (ho : H1 a = some o) (hz : Z1 a = none) (nm : ¬ Mine sg en1 a) (ht : a ∉ k.T) (hf : H a = none ∨ Mine sg en a) :
    Aft k sg H Z en sg H1 (upd Z1 a o) en1 := by
  obtain ⟨r2, uz⟩ := aft_vl a1.rel ho hz nm ht
  refine ⟨r2, fun b u h => uz b u (a1.zz b u h), fun b u h => ?_, a1.keep, a1.own, a1.io⟩
  by_cases e : b = a
  · rw [e]; exact .inr hf
  · rw [upd_ne e] at h; exact a1.new b u h
theorem not_tab (r : Rel k sg H Z en) {a : Addr} {o : HO} (h : H a = some o) (n : ∀ ps, o ≠ .tbl ps) : a ∉ k.T := fun t => by
  obtain ⟨⟨ps, hp, _⟩, _⟩ := r.tab a t
  rw [h] at hp
  exact n ps (Option.some.inj hp)
theorem fz_v {m : M Vl} {sg : L2.St} {H : Hp} {Q : VK} (h : tD ⟨X.K, T⟩ E (fz m) sg H Q) : tV ⟨X.K, T⟩ E m sg H Q := by
  obtain ⟨en, Z, r, q⟩ := h
  refine ⟨en, Z, r, ?_⟩
  unfold fz bnd at q
  cases hm : m en with
  | ok x en1 =>
    rw [hm] at q
    intro H1 Z1 a1 v hv
    cases x with
    | sh d => exact q H1 Z1 a1 v hv
    | ow d =>
      cases d with
      | list ds =>
        obtain ⟨p, rfl, hz, ho, nmn, hf⟩ := hv
        cases ho with
        | lst h1 h2 =>
          have nt : p ∉ T := not_tab a1.rel h1 fun _ z => by cases z
          have a2 := aft_vl2 a1 h1 hz nmn nt hf
          exact q H1 _ a2 (.ref p) (.lst (.inl (.inl upd_same)) (dpAll_mono (aft_vl a1.rel h1 hz nmn nt).2 h2))
      | _ => exact q.elim
  | err c en1 => rw [hm] at q; exact q
  | bad => rw [hm] at q; exact q
theorem gd_fz {m : M Vl} (h : GE T E X e m) : GD T E X e (fz m) := pe_imp h fun sg H Q q => fz_v q
theorem go_d {m : M PyData} (h : GD T E X e m) : GO T E X e (odD m) := pe_imp h fun sg H Q ⟨en, Z, r, q⟩ => ⟨en, Z, r, post_mono (post_bnd r q) fun d en1 H1 Z1 _ ⟨a1, q1⟩ v hv => post_ret a1.rel q1 v hv⟩

theorem upd_more {Z : Hp} {a : Addr} {o : HO} (hz : Z a = none) : ∀ b u, Z b = some u → upd Z a o b = some u := fun b u z => by
  rw [upd_ne (fun e => by rw [e, hz] at z; cases z)]; exact z
theorem gd_c {d : PyData} {v : V} (h : PE X e (tC v)) (hv : Dp X.K (fun _ => none) v d) : GD T E X e (cst d) := pe_imp h fun sg H Q ⟨en, Z, r, q⟩ => post_ret r q v (dp_mono (fun a o h => by cases h) hv)
theorem gd_int {i : Int} {j : Nat} : GD T E X (.Constant (.int i) j pos) (cst (.int i)) := gd_c pe_int (.int i)
theorem gd_bool {i : Bool} {j : Nat} : GD T E X (.Constant (.bool i) j pos) (cst (.bool i)) := gd_c pe_bl (.bl i)
theorem gd_none {j : Nat} : GD T E X (.Constant .none j pos) (cst .none) := gd_c pe_non .non
theorem gd_str {i : Str} {j : Nat} : GD T E X (.Constant (.str i) j pos) (cst (.str i)) := gd_c pe_str (.str i)

/-- a name -/
theorem gd_v (i : Nat) (h : PE X e (tVar i)) : GD T E X e (nv i) := pe_imp h fun sg H Q ⟨en, Z, r, q⟩ => by
  unfold nv at q
  cases he : en[i]? with
  | none => rw [he] at q; exact q.elim
  | some s =>
    rw [he] at q
    obtain ⟨v, hv, hs⟩ := r.sl i s he
    cases s with
    | no => exact q.elim
    | io d => exact q.elim
    | sh d =>
      obtain ⟨x, rfl, hd⟩ := hs
      exact ⟨x, hv, q H Z (Aft.refl r) x hd⟩
    | ow d =>
      cases d with
      | list ds =>
        obtain ⟨a, rfl, hz, ho⟩ := hs
        cases ho with
        | lst h1 h2 =>
          have nt : a ∉ T := not_tab r h1 fun _ z => by cases z
          have hd : Dp X.K (upd Z a (.lst _)) (.ref a) (.list ds) := .lst (.inl (.inl upd_same)) (dpAll_mono (upd_more hz) h2)
          exact ⟨.ref a, hv, q H _ (aft_frz r he hv h1 hd) (.ref a) hd⟩
      | _ => exact q.elim
/-- a name that is looked at -/
theorem go_s (i : Nat) (h : PE X e (tVar i)) : GO T E X e (nm i) := pe_imp h fun sg H Q ⟨en, Z, r, q⟩ => by
  unfold nm at q
  cases he : en[i]? with
  | none => rw [he] at q; exact q.elim
  | some s =>
    rw [he] at q
    obtain ⟨v, hv, hs⟩ := r.sl i s he
    cases s with
    | no => exact q.elim
    | sh d =>
      obtain ⟨x, rfl, hd⟩ := hs
      exact ⟨x, hv, q H Z (Aft.refl r) x hd⟩
    | ow d =>
      obtain ⟨a, rfl, hz, ho⟩ := hs
      exact ⟨.ref a, hv, q H Z (Aft.refl r) (.ref a) hv⟩
    | io d =>
      obtain ⟨a, rfl, hz, ho⟩ := hs
      exact ⟨.ref a, hv, q H Z (Aft.refl r) (.ref a) hv⟩

/-! ### what is looked at -/
theorem Top.of_d {K : PySem.W.Frag} {v : V} {d : PyData} (h : Dp K Z v d) : Top K H Z v d := .inl h
theorem top_of {x : Od} {v : V} {d : PyData} (r : Rel k sg H Z en) (h : OdOk k sg Z v x) (l : look en x = some d) : Top k.K H Z v d := by
  cases x with
  | d y =>
    have e : y = d := Option.some.inj l
    subst e
    exact .inl h
  | s i =>
    have h : sg[i]? = some (some v) := h
    simp only [look] at l
    cases he : en[i]? with
    | none => rw [he] at l; cases l
    | some s =>
      rw [he] at l
      obtain ⟨u, hu, hs⟩ := r.sl i s he
      rw [h] at hu
      cases hu
      cases s with
      | no => cases l
      | sh y =>
        cases l
        obtain ⟨a, e, hd⟩ := hs
        cases e
        exact .inl hd
      | ow y =>
        cases l
        obtain ⟨a, e, _, ho⟩ := hs
        cases e
        exact .inr ⟨a, rfl, ho⟩
      | io y =>
        cases l
        obtain ⟨a, e, _, ho⟩ := hs
        cases e
        exact .inr ⟨a, rfl, ho⟩
theorem od_mono {H' Z' : Hp} {en' : En} {x : Od} {v : V} (a : Aft k sg H Z en sg H' Z' en') (h : OdOk k sg Z v x) : OdOk k sg Z' v x := by
  cases x with
  | d y => exact dp_mono a.zz h
  | s i => exact h
theorem Top.dp {K : PySem.W.Frag} {v : V} {d : PyData} (hz : ∀ a o, Z a = some o → H a = some o) (h : Top K H Z v d) (n : ∀ kv, d ≠ .dict kv) : Dp K H v d := by
  rcases h with h | ⟨a, rfl, h⟩
  · exact dp_mono hz h
  · cases h with
    | lst h1 h2 => exact .lst (.inl (.inl h1)) (dpAll_mono hz h2)
    | dct h1 h2 h3 => exact absurd rfl (n _)
theorem Top.list {K : PySem.W.Frag} {v : V} {ds : List PyData} (hz : ∀ a o, Z a = some o → H a = some o) (h : Top K H Z v (.list ds)) : ∃ a vs, v = .ref a ∧ SqL K H a vs ∧ DpAll K Z vs ds := by
  rcases h with h | ⟨a, rfl, h⟩
  · cases h with
    | lst h1 h2 => exact ⟨_, _, rfl, Same.seq hz h1, h2⟩
  · cases h with
    | lst h1 h2 => exact ⟨a, _, rfl, .inl (.inl h1), h2⟩
theorem Top.tup {K : PySem.W.Frag} {v : V} {ds : List PyData} (hz : ∀ a o, Z a = some o → H a = some o) (h : Top K H Z v (.tuple ds)) : ∃ a vs, v = .ref a ∧ SqT K H a vs ∧ DpAll K Z vs ds := by
  rcases h with h | ⟨a, rfl, h⟩
  · cases h with
    | tup h1 h2 =>
      refine ⟨_, _, rfl, ?_, h2⟩
      rcases h1 with (q | ⟨o, q⟩) | q
      · exact .inl (.inl (hz _ _ q))
      · exact .inl (.inr ⟨o, hz _ _ q⟩)
      · exact .inr q
  · cases h
theorem Top.int {K : PySem.W.Frag} {v : V} {i : Int} (h : Top K H Z v (.int i)) : v = .int i := by
  rcases h with h | ⟨a, rfl, h⟩
  · cases h; rfl
  · cases h
theorem Top.str {K : PySem.W.Frag} {v : V} {i : Str} (h : Top K H Z v (.str i)) : v = .str i := by
  rcases h with h | ⟨a, rfl, h⟩
  · cases h; rfl
  · cases h
theorem Top.bool {K : PySem.W.Frag} {v : V} {i : Bool} (h : Top K H Z v (.bool i)) : v = .bl i := by
  rcases h with h | ⟨a, rfl, h⟩
  · cases h; rfl
  · cases h
theorem Top.none {K : PySem.W.Frag} {v : V} (h : Top K H Z v .none) : v = .non := by
  rcases h with h | ⟨a, rfl, h⟩
  · cases h; rfl
  · cases h

/-! ### what an operation gives -/
inductive Out where
  | d (x : PyData) | nl (ds : List PyData) | nt (ds : List PyData) | nd (kvs : List (PyData × PyData)) | bad
def out : Out → M Vl
  | .d x => ret (.sh x)
  | .nl ds => ret (.ow (.list ds))
  | .nt ds => ret (.sh (.tuple ds))
  | .nd kvs => ret (.ow (.dict kvs))
  | .bad => fail
def OutOk (K : PySem.W.Frag) (H Z : Hp) (Q : VK) : Out → Prop
  | .d x => ∀ v, Dp K Z v x → Q v H
  | .nl ds => ∀ p vs, H p = none → DpAll K Z vs ds → Q (.ref p) (upd H p (.lst vs))
  | .nt ds => (∀ v, Dp K Z v (.tuple ds) → Q v H) ∧ ∀ p vs, H p = none → DpAll K Z vs ds → Q (.ref p) (upd H p (.tup vs))
  | .nd ds => ∀ p (kvs : List (Key × V)), H p = none → ds.map (·.1) = kvs.map (fun p => keyD p.1) → DpAll K Z (kvs.map (·.2)) (ds.map (·.2)) → Q (.ref p) (upd H p (.dK kvs))
  | .bad => False
theorem out_ok {sg0 : L2.St} {Q : VK} {o : Out} {en0 : En} {H0 Z0 : Hp} (r : Rel k sg H Z en) (a0 : Aft k sg H0 Z0 en0 sg H Z en)
    (h : Post k E sg H Z en (out o en) fun x en' H' Z' => ∀ v, VlOk k sg H0 en0 sg H' Z' en' v x → Q v H') : OutOk k.K H Z Q o := by
  have nmine : ∀ p, H p = none → ¬ Mine sg en p := fun p hp m => by
    obtain ⟨u, hu, _⟩ := mine_there r m
    rw [hp] at hu; cases hu
  cases o with
  | d x => exact fun v hv => post_ret (a := Vl.sh x) r h v hv
  | nl ds => exact fun p vs hp hd => h _ _ (aft_new r hp) (.ref p) ⟨p, rfl, r.free hp, .lst upd_same hd, nmine p hp, free_back a0 hp⟩
  | nt ds => exact ⟨fun v hv => post_ret (a := Vl.sh (.tuple ds)) r h v hv, fun p vs hp hd => h _ _ (aft_all r hp) (.ref p) (.tup (.inl (.inl upd_same)) (dpAll_mono (aft_all r hp (o := .tup vs)).zz hd))⟩
  | nd ds => exact fun p kvs hp hk hd => h _ _ (aft_new r hp) (.ref p) ⟨p, rfl, r.free hp, .dct upd_same hk hd, nmine p hp, free_back a0 hp⟩
  | bad => exact h
/-- an operation of one, of two things that are looked at -/
def op1 (f : PyData → Out) (p : M Od) : M Vl := bnd p fun x => fun en => match look en x with
  | some d => out (f d) en
  | none => .bad
def op2 (f : PyData → PyData → Out) (p q : M Od) : M Vl := bnd p fun x => bnd q fun y => fun en => match look en x, look en y with
  | some d, some e => out (f d e) en
  | _, _ => .bad
def op3 (f : PyData → PyData → PyData → Out) (p q w : M Od) : M Vl := bnd p fun x => bnd q fun y => bnd w fun z => fun en => match look en x, look en y, look en z with
  | some d, some e, some c => out (f d e c) en
  | _, _, _ => .bad
/-- the rule says what f says -/
def Says1 (K : PySem.W.Frag) (f : PyData → Out) (r : V → Hp → VK → Prop) : Prop :=
  ∀ (H Z : Hp) (v : V) (d : PyData) (Q : VK), (∀ a o, Z a = some o → H a = some o) → Top K H Z v d → OutOk K H Z Q (f d) → r v H Q
def Says2 (K : PySem.W.Frag) (f : PyData → PyData → Out) (r : R2) : Prop :=
  ∀ (H Z : Hp) (v w : V) (d e : PyData) (Q : VK), (∀ a o, Z a = some o → H a = some o) → Top K H Z v d → Top K H Z w e → OutOk K H Z Q (f d e) → r v w H Q
def Says3 (K : PySem.W.Frag) (f : PyData → PyData → PyData → Out) (r : V → V → V → Hp → VK → Prop) : Prop :=
  ∀ (H Z : Hp) (v w u : V) (d e c : PyData) (Q : VK), (∀ a o, Z a = some o → H a = some o) → Top K H Z v d → Top K H Z w e → Top K H Z u c → OutOk K H Z Q (f d e c) → r v w u H Q

theorem ge_op1 {f : PyData → Out} {r : V → Hp → VK → Prop} {p : M Od} (ha : GO T E X a p) (hB : ∀ ta, PE X a ta → PE X e fun sg H Q => ta sg H fun x H1 => r x H1 Q) (hf : Says1 X.K f r) : GE T E X e (op1 f p) :=
  pe_imp (hB _ ha) fun sg H Q ⟨en, Z, r0, q⟩ => ⟨en, Z, r0, post_mono (post_bnd r0 q) fun x en1 H1 Z1 _ ⟨a1, q1⟩ v hv => by
    cases hl : look en1 x with
    | none => simp only [hl] at q1; exact q1.elim
    | some d =>
      simp only [hl] at q1
      exact hf H1 Z1 v d Q a1.rel.sub (top_of a1.rel hv hl) (out_ok (sg0 := sg) a1.rel a1 q1)⟩
theorem ge_op2 {f : PyData → PyData → Out} {r : R2} {p q : M Od} (ha : GO T E X a p) (hb : GO T E X b q) (hB : ∀ ta tb, PE X a ta → PE X b tb → PE X e (tOp r ta tb)) (hf : Says2 X.K f r) : GE T E X e (op2 f p q) :=
  pe_imp (hB _ _ ha hb) fun sg H Q ⟨en, Z, r0, q⟩ => ⟨en, Z, r0, post_mono (post_bnd r0 q) fun x en1 H1 Z1 _ ⟨a1, q1⟩ v hv => ⟨en1, Z1, a1.rel, post_mono (post_bnd a1.rel q1) fun y en2 H2 Z2 _ ⟨a2, q2⟩ w hw => by
    cases hl : look en2 x with
    | none => simp only [hl] at q2; exact q2.elim
    | some d =>
      cases hl2 : look en2 y with
      | none => simp only [hl, hl2] at q2; exact q2.elim
      | some d2 =>
        simp only [hl, hl2] at q2
        exact hf H2 Z2 v w d d2 Q a2.rel.sub (top_of a2.rel (od_mono a2 hv) hl) (top_of a2.rel hw hl2) (out_ok (sg0 := sg) a2.rel (a1.trans a2 r0) q2)⟩⟩
theorem ge_op3 {f : PyData → PyData → PyData → Out} {r : V → V → V → Hp → VK → Prop} {p q w : M Od} (ha : GO T E X a p) (hb : GO T E X b q) (hc : GO T E X c w)
    (hB : ∀ ta tb tc, PE X a ta → PE X b tb → PE X c tc → PE X e fun sg H Q => ta sg H fun x H1 => tb sg H1 fun y H2 => tc sg H2 fun z H3 => r x y z H3 Q) (hf : Says3 X.K f r) : GE T E X e (op3 f p q w) :=
  pe_imp (hB _ _ _ ha hb hc) fun sg H Q ⟨en, Z, r0, q⟩ => ⟨en, Z, r0, post_mono (post_bnd r0 q) fun x en1 H1 Z1 _ ⟨a1, q1⟩ v hv => ⟨en1, Z1, a1.rel, post_mono (post_bnd a1.rel q1) fun y en2 H2 Z2 _ ⟨a2, q2⟩ w hw =>
    ⟨en2, Z2, a2.rel, post_mono (post_bnd a2.rel q2) fun z en3 H3 Z3 _ ⟨a3, q3⟩ u hu => by
    cases hl : look en3 x with
    | none => simp only [hl] at q3; exact q3.elim
    | some d =>
      cases hl2 : look en3 y with
      | none => simp only [hl, hl2] at q3; exact q3.elim
      | some d2 =>
        cases hl3 : look en3 z with
        | none => simp only [hl, hl2, hl3] at q3; exact q3.elim
        | some d3 =>
          simp only [hl, hl2, hl3] at q3
          exact hf H3 Z3 v w u d d2 d3 Q a3.rel.sub (top_of a3.rel (od_mono a3 (od_mono a2 hv)) hl) (top_of a3.rel (od_mono a3 hw) hl2) (top_of a3.rel hu hl3) (out_ok (sg0 := sg) a3.rel ((a1.trans a2 r0).trans a3 r0) q3)⟩⟩⟩

/-! ### tests -/
def tst (m : M PyData) : M Bool := bnd m fun d => match d with
  | .bool b => ret b
  | _ => fail
theorem tst_ok {m : M PyData} {sg : L2.St} {H : Hp} {Q : Bool → Hp → Prop} (h : tT ⟨X.K, T⟩ E (tst m) sg H Q) : tD ⟨X.K, T⟩ E m sg H fun x H1 => ∃ c, x = .bl c ∧ Q c H1 := by
  obtain ⟨en, Z, r, q⟩ := h
  refine ⟨en, Z, r, post_mono (post_bnd r q) fun d en1 H1 Z1 _ ⟨a1, q1⟩ v hv => ?_⟩
  cases d with
  | bool b =>
    cases hv
    exact ⟨b, rfl, post_ret a1.rel q1⟩
  | _ => exact q1.elim
/-- an expression that gives a truth value, as a test -/
theorem gt_val {m : M PyData} (h : GD T E X e m) (he : ∀ whole, isTrue e X.env whole = (do let v ← whole; standAt e.pos; holding [v] (truthy v)) := by intro _; rfl) : GT T E X e (tst m) :=
  pt_imp (pt_val h he) fun sg H Q q => tst_ok q
def mnot (m : M Bool) : M Bool := bnd m fun b => ret (!b)
theorem gt_not {m : M Bool} (h : GT T E X a m) : GT T E X (.UnaryOp .Not a pos) (mnot m) := pt_imp (pt_not h) fun sg H Q ⟨en, Z, r, q⟩ => ⟨en, Z, r, post_mono (post_bnd r q) fun b en1 H1 Z1 _ ⟨a1, q1⟩ => post_ret a1.rel q1⟩
def mand (m n : M Bool) : M Bool := bnd m fun b => if b = true then n else ret false
def mor (m n : M Bool) : M Bool := bnd m fun b => if b = true then ret true else n
theorem gw_and1 {m : M Bool} (h : GT T E X a m) : GW T E X (.BoolOp .And [a] pos) m := pw_and1 h
theorem gw_or1 {m : M Bool} (h : GT T E X a m) : GW T E X (.BoolOp .Or [a] pos) m := pw_or1 h
theorem gw_and {m n : M Bool} {rest : List Expr} (h : GT T E X a m) (h2 : GW T E X (.BoolOp .And (b :: rest) pos) n) : GW T E X (.BoolOp .And (a :: b :: rest) pos) (mand m n) :=
  pw_imp (pw_and h h2) fun sg H Q ⟨en, Z, r, q⟩ => ⟨en, Z, r, post_mono (post_bnd r q) fun b en1 H1 Z1 _ ⟨a1, q1⟩ => by
    cases b with
    | true => exact ⟨en1, Z1, a1.rel, q1⟩
    | false => exact post_ret (a := false) a1.rel q1⟩
theorem gw_or {m n : M Bool} {rest : List Expr} (h : GT T E X a m) (h2 : GW T E X (.BoolOp .Or (b :: rest) pos) n) : GW T E X (.BoolOp .Or (a :: b :: rest) pos) (mor m n) :=
  pw_imp (pw_or h h2) fun sg H Q ⟨en, Z, r, q⟩ => ⟨en, Z, r, post_mono (post_bnd r q) fun b en1 H1 Z1 _ ⟨a1, q1⟩ => by
    cases b with
    | false => exact ⟨en1, Z1, a1.rel, q1⟩
    | true => exact post_ret (a := true) a1.rel q1⟩
theorem gt_w {m : M Bool} (h : GW T E X e m) : GT T E X e m := h.pt
/-- and, or, not as values (all but the last one truth values) -/
def vand (m n : M PyData) : M PyData := bnd m fun d => match d with
  | .bool b => if b = true then n else ret (.bool false)
  | _ => fail
def vor (m n : M PyData) : M PyData := bnd m fun d => match d with
  | .bool b => if b = true then ret (.bool true) else n
  | _ => fail
def vnot (m : M PyData) : M PyData := bnd m fun d => match d with
  | .bool b => ret (.bool (!b))
  | _ => fail
theorem gd_one {op : BoolOp} {m : M PyData} (h : GD T E X a m) : GD T E X (.BoolOp op [a] pos) m := pe_one h
theorem gd_and {m n : M PyData} {rest : List Expr} (h : GD T E X a m) (h2 : GD T E X (.BoolOp .And (b :: rest) pos) n) : GD T E X (.BoolOp .And (a :: b :: rest) pos) (vand m n) :=
  pe_imp (pe_and h h2) fun sg H Q ⟨en, Z, r, q⟩ => ⟨en, Z, r, post_mono (post_bnd r q) fun d en1 H1 Z1 _ ⟨a1, q1⟩ v hv => by
    cases d with
    | bool b =>
      cases hv
      refine ⟨b, rfl, ?_⟩
      cases b with
      | true => exact ⟨en1, Z1, a1.rel, q1⟩
      | false => exact post_ret (a := PyData.bool false) a1.rel q1 _ (.bl false)
    | _ => exact q1.elim⟩
theorem gd_or {m n : M PyData} {rest : List Expr} (h : GD T E X a m) (h2 : GD T E X (.BoolOp .Or (b :: rest) pos) n) : GD T E X (.BoolOp .Or (a :: b :: rest) pos) (vor m n) :=
  pe_imp (pe_or h h2) fun sg H Q ⟨en, Z, r, q⟩ => ⟨en, Z, r, post_mono (post_bnd r q) fun d en1 H1 Z1 _ ⟨a1, q1⟩ v hv => by
    cases d with
    | bool b =>
      cases hv
      refine ⟨b, rfl, ?_⟩
      cases b with
      | false => exact ⟨en1, Z1, a1.rel, q1⟩
      | true => exact post_ret (a := PyData.bool true) a1.rel q1 _ (.bl true)
    | _ => exact q1.elim⟩
theorem gd_not {m : M PyData} (h : GD T E X a m) : GD T E X (.UnaryOp .Not a pos) (vnot m) := pe_imp (pe_not h) fun sg H Q ⟨en, Z, r, q⟩ => ⟨en, Z, r, post_mono (post_bnd r q) fun d en1 H1 Z1 _ ⟨a1, q1⟩ v hv => by
    cases d with
    | bool b =>
      cases hv
      exact ⟨b, rfl, post_ret a1.rel q1 _ (.bl _)⟩
    | _ => exact q1.elim⟩
/-- a if t else b -/
def mif {α : Type} (t : M Bool) (m n : M α) : M α := bnd t fun b => if b = true then m else n
theorem ge_if {t : M Bool} {m n : M Vl} (hc : GT T E X c t) (ha : GE T E X a m) (hb : GE T E X b n) : GE T E X (.IfExp c a b pos) (mif t m n) :=
  pe_imp (pe_ifExp hc ha hb) fun sg H Q ⟨en, Z, r, q⟩ => ⟨en, Z, r, post_mono (post_bnd r q) fun d en1 H1 Z1 _ ⟨a1, q1⟩ => by
    have q2 : ∀ x en' H' Z', (∀ v, VlOk ⟨X.K, T⟩ sg H en sg H' Z' en' v x → Q v H') → ∀ v, VlOk ⟨X.K, T⟩ sg H1 en1 sg H' Z' en' v x → Q v H' := fun x en' H' Z' h v hv => h v (vl_back a1 hv)
    cases d with
    | true => exact ⟨en1, Z1, a1.rel, post_mono q1 fun x en' H' Z' _ h => q2 x en' H' Z' h⟩
    | false => exact ⟨en1, Z1, a1.rel, post_mono q1 fun x en' H' Z' _ h => q2 x en' H' Z' h⟩⟩
theorem gd_if {t : M Bool} {m n : M PyData} (hc : GT T E X c t) (ha : GD T E X a m) (hb : GD T E X b n) : GD T E X (.IfExp c a b pos) (mif t m n) :=
  pe_imp (pe_ifExp hc ha hb) fun sg H Q ⟨en, Z, r, q⟩ => ⟨en, Z, r, post_mono (post_bnd r q) fun d en1 H1 Z1 _ ⟨a1, q1⟩ => by
    cases d with
    | true => exact ⟨en1, Z1, a1.rel, q1⟩
    | false => exact ⟨en1, Z1, a1.rel, q1⟩⟩

/-! ### argument lists, displays -/
def manil : M (List PyData) := ret []
def macons (m : M PyData) (ms : M (List PyData)) : M (List PyData) := bnd m fun d => bnd ms fun ds => ret (d :: ds)
theorem ga_nil : GA T E X [] manil := pa_imp pa_nil fun sg H Q ⟨en, Z, r, q⟩ => post_ret r q [] .nil
theorem ga_cons {m : M PyData} {ms : M (List PyData)} {es : List Expr} (h : GD T E X a m) (hs : GA T E X es ms) (hq : starEach (a :: es) X.env = (false, eval a X.env) :: starEach es X.env := by rfl) : GA T E X (a :: es) (macons m ms) :=
  pa_imp (pa_cons h hs hq) fun sg H Q ⟨en, Z, r, q⟩ => ⟨en, Z, r, post_mono (post_bnd r q) fun d en1 H1 Z1 _ ⟨a1, q1⟩ v hv => ⟨en1, Z1, a1.rel, post_mono (post_bnd a1.rel q1) fun ds en2 H2 Z2 _ ⟨a2, q2⟩ vs hvs =>
    post_ret a2.rel q2 (v :: vs) (.cons (dp_mono a2.zz hv) hvs)⟩⟩
def mlst (ms : M (List PyData)) : M Vl := bnd ms fun ds => if ds.length ≤ 1000 then ret (.ow (.list ds)) else fail
def mtup (ms : M (List PyData)) : M PyData := bnd ms fun ds => if ds.length ≤ 1000 then ret (.tuple ds) else fail
theorem ge_lst {ms : M (List PyData)} {es : List Expr} (h : GA T E X es ms) : GE T E X (.List es pos) (mlst ms) :=
  pe_imp (pe_lst h) fun sg H Q ⟨en, Z, r, q⟩ => ⟨en, Z, r, post_mono (post_bnd r q) fun ds en1 H1 Z1 _ ⟨a1, q1⟩ vs hvs => by
    by_cases hl : ds.length ≤ 1000
    · simp only [hl, if_true] at q1
      refine ⟨by rw [dpa_length hvs, sizeLine_eq]; omega, fun p hp => ?_⟩
      exact out_ok (o := .nl ds) (sg0 := sg) a1.rel a1 q1 p vs hp hvs
    · simp only [hl, if_false] at q1; exact q1.elim⟩
theorem gd_tup {ms : M (List PyData)} {es : List Expr} {x1 : Nat} (h : GA T E X es ms) : GD T E X (.Tuple es x1 pos) (mtup ms) :=
  pe_imp (pe_tup h) fun sg H Q ⟨en, Z, r, q⟩ => ⟨en, Z, r, post_mono (post_bnd r q) fun ds en1 H1 Z1 _ ⟨a1, q1⟩ vs hvs => by
    by_cases hl : ds.length ≤ 1000
    · simp only [hl, if_true] at q1
      refine ⟨by rw [dpa_length hvs, sizeLine_eq]; omega, fun p hp => ?_⟩
      have a2 := aft_all (o := .tup vs) a1.rel hp
      exact q1 _ _ a2 (.ref p) (.tup (.inl (.inl upd_same)) (dpAll_mono a2.zz hvs))
    · simp only [hl, if_false] at q1; exact q1.elim⟩
end
end ZD

namespace ZD
open PySem PySem.Spec PyProof.Rows L2 GxR ZG

inductive Fl where
  | nx | rt (x : Vl) | bk | ct
def endF (k : Kx) (sg : L2.St) (H : Hp) (en : En) (D : Ends) (sg' : L2.St) (H' Z' : Hp) (en' : En) : Fl → Prop
  | .nx => D.nx sg' H'
  | .bk => D.bk sg' H'
  | .ct => D.ct sg' H'
  | .rt x => ∀ v, VlOk k sg H en sg' H' Z' en' v x → D.rt v H'
/-- what follows a statement, the names change -/
def PostS {α : Type} (k : Kx) (E : Wish) (sg : L2.St) (H Z : Hp) (en : En) (r : Res α) (P : α → En → L2.St → Hp → Hp → Prop) : Prop :=
  match r with
  | .ok a en' => ∀ sg' H' Z', Aft k sg H Z en sg' H' Z' en' → P a en' sg' H' Z'
  | .err c en' => ∀ sg' H' Z', Aft k sg H Z en sg' H' Z' en' → E c sg' H'
  | .bad => False
def tS (k : Kx) (E : Wish) (m : M Fl) : TS := fun D sg H => ∃ en Z, Rel k sg H Z en ∧ PostS k E sg H Z en (m en) fun f en' sg' H' Z' => endF k sg H en D sg' H' Z' en' f
abbrev GS (T : List Addr) (E : Wish) (X : Cx) (st : Stmt) (m : M Fl) : Prop := PS X st (tS ⟨X.K, T⟩ E m)
abbrev GSs (T : List Addr) (E : Wish) (X : Cx) (st : List Stmt) (m : M Fl) : Prop := PSs X st (tS ⟨X.K, T⟩ E m)

section
variable {k : Kx} {E : Wish} {sg sg1 : L2.St} {H H1 Z Z1 : Hp} {en en1 : En} {α β : Type}
theorem posts_post {m : Res α} {P : α → En → L2.St → Hp → Hp → Prop} (h : PostS k E sg H Z en m P) : Post k E sg H Z en m fun a en' H' Z' => P a en' sg H' Z' := by
  cases m with
  | ok a en1 => exact fun H1 Z1 a1 => h sg H1 Z1 a1
  | err c en1 => exact fun H1 Z1 a1 => h sg H1 Z1 a1
  | bad => exact h
theorem posts_bnd {m : M α} {f : α → M β} {P : β → En → L2.St → Hp → Hp → Prop} (r : Rel k sg H Z en) (h : PostS k E sg H Z en (bnd m f en) P) :
    PostS k E sg H Z en (m en) fun a en1 sg1 H1 Z1 => Aft k sg H Z en sg1 H1 Z1 en1 ∧ PostS k E sg1 H1 Z1 en1 (f a en1) P := by
  unfold bnd at h
  cases q : m en with
  | ok a en1 =>
    rw [q] at h
    intro sg1 H1 Z1 a1
    refine ⟨a1, ?_⟩
    have h : PostS k E sg H Z en (f a en1) P := h
    cases q2 : f a en1 with
    | ok b en2 =>
      rw [q2] at h
      intro sg2 H2 Z2 a2
      exact h sg2 H2 Z2 (a1.trans a2 r)
    | err c en2 =>
      rw [q2] at h
      intro sg2 H2 Z2 a2
      exact h sg2 H2 Z2 (a1.trans a2 r)
    | bad => rw [q2] at h; exact h
  | err c en1 => rw [q] at h; exact h
  | bad => rw [q] at h; exact h
theorem posts_mono {r : Res α} {P P' : α → En → L2.St → Hp → Hp → Prop} (h : PostS k E sg H Z en r P) (i : ∀ a en' sg' H' Z', Aft k sg H Z en sg' H' Z' en' → P a en' sg' H' Z' → P' a en' sg' H' Z') : PostS k E sg H Z en r P' := by
  cases r with
  | ok a en1 => exact fun sg1 H1 Z1 a1 => i _ _ _ _ _ a1 (h sg1 H1 Z1 a1)
  | err c en1 => exact h
  | bad => exact h
theorem posts_ret {a : α} {P : α → En → L2.St → Hp → Hp → Prop} (r : Rel k sg H Z en) (h : PostS k E sg H Z en (ret a en) P) : P a en sg H Z := h sg H Z (Aft.refl r)
theorem free_backS (a : Aft k sg H Z en sg1 H1 Z1 en1) {x : Addr} (h : H1 x = none) : H x = none ∨ Mine sg en x := by
  cases e : H x with
  | none => exact .inl rfl
  | some u =>
    by_cases m : Mine sg en x
    · exact .inr m
    · by_cases t : x ∈ k.T
      · obtain ⟨⟨ps, hp, _⟩, _⟩ := a.rel.tab x t
        rw [hp] at h; cases h
      · rw [a.keep x u e m t] at h; cases h
theorem vl_backS {sg2 : L2.St} {H2 Z2 : Hp} {en2 : En} {v : V} {x : Vl} (a : Aft k sg H Z en sg1 H1 Z1 en1) (h : VlOk k sg1 H1 en1 sg2 H2 Z2 en2 v x) : VlOk k sg H en sg2 H2 Z2 en2 v x := by
  cases x with
  | sh d => exact h
  | ow d =>
    obtain ⟨p, e, h1, h2, h3, h4⟩ := h
    refine ⟨p, e, h1, h2, h3, ?_⟩
    rcases h4 with q | q
    · exact free_backS a q
    · exact (a.own p q).symm
theorem endF_back {D : Ends} {sg2 : L2.St} {H2 Z2 : Hp} {en2 : En} {f : Fl} (a : Aft k sg H Z en sg1 H1 Z1 en1) (h : endF k sg H en D sg2 H2 Z2 en2 f) : endF k sg1 H1 en1 D sg2 H2 Z2 en2 f := by
  cases f with
  | rt x => exact fun v hv => h v (vl_backS a hv)
  | nx => exact h
  | bk => exact h
  | ct => exact h

def slOf : Vl → Sl
  | .sh d => .sh d
  | .ow d => .ow d
/-- a name gets a value -/
theorem aft_set {sg0 : L2.St} {H0 Z0 : Hp} {en0 : En} {i : Nat} {s0 : Sl} {v : V} {x : Vl} (a : Aft k sg0 H0 Z0 en0 sg H Z en) (he : en[i]? = some s0) (n : ∀ d, s0 ≠ .io d) (hv : VlOk k sg0 H0 en0 sg H Z en v x) :
    Aft k sg0 H0 Z0 en0 (sg.set i (some v)) H Z (en.set i (slOf x)) := by
  have r := a.rel
  have hi : i < en.length := (List.getElem?_eq_some_iff.mp he).1
  obtain ⟨u0, hu0, _⟩ := r.sl i s0 he
  have hg : i < sg.length := (List.getElem?_eq_some_iff.mp hu0).1
  have at_ : ∀ (j : Nat) (s : Sl), (en.set i (slOf x))[j]? = some s → (j = i ∧ s = slOf x) ∨ (j ≠ i ∧ en[j]? = some s) := fun j s h => by
    by_cases e : j = i
    · rw [e, List.getElem?_set_self hi] at h; cases h; exact .inl ⟨e, rfl⟩
    · rw [List.getElem?_set_ne (Ne.symm e)] at h; exact .inr ⟨e, h⟩
  have sne : ∀ (j : Nat), j ≠ i → (sg.set i (some v))[j]? = sg[j]? := fun j e => List.getElem?_set_ne (Ne.symm e)
  have new : isOwn (slOf x) = true → ∃ p, v = .ref p ∧ ¬ Mine sg en p ∧ (H0 p = none ∨ Mine sg0 en0 p) := fun h => by
    cases x with
    | sh d => cases h
    | ow d => obtain ⟨p, e, _, _, h3, h4⟩ := hv; exact ⟨p, e, h3, h4⟩
  refine ⟨⟨r.sub, fun j s h => ?_, fun j l s t b h1 h2 h3 h4 h5 h6 => ?_, r.tab⟩, a.zz, a.new, a.keep, fun b ⟨j, s, h1, h2, h3⟩ => ?_, fun j d h => ?_⟩
  · rcases at_ j s h with ⟨e1, e2⟩ | ⟨hj, e⟩
    · rw [e1, e2]
      refine ⟨some v, List.getElem?_set_self hg, ?_⟩
      cases x with
      | sh d => exact ⟨v, rfl, hv⟩
      | ow d => obtain ⟨p, e, h1, h2, _⟩ := hv; exact ⟨p, by rw [e], h1, h2⟩
    · obtain ⟨w, hw, q⟩ := r.sl j s e
      exact ⟨w, (sne j hj).trans hw, q⟩
  · rcases at_ j s h1 with ⟨e1, e2⟩ | ⟨hj, e⟩
    · rcases at_ l t h2 with ⟨e1', e2'⟩ | ⟨hl, e'⟩
      · rw [e1, e1']
      · rw [e1, List.getElem?_set_self hg] at h5
        rw [sne l hl] at h6
        rw [e2] at h3
        obtain ⟨p, hp, nm, _⟩ := new h3
        rw [hp] at h5
        have hb : p = b := by cases h5; rfl
        rw [hb] at nm
        exact absurd ⟨l, t, e', h4, h6⟩ nm
    · rcases at_ l t h2 with ⟨e1', e2'⟩ | ⟨hl, e'⟩
      · rw [e1', List.getElem?_set_self hg] at h6
        rw [sne j hj] at h5
        rw [e2'] at h4
        obtain ⟨p, hp, nm, _⟩ := new h4
        rw [hp] at h6
        have hb : p = b := by cases h6; rfl
        rw [hb] at nm
        exact absurd ⟨j, s, e, h3, h5⟩ nm
      · rw [sne j hj] at h5
        rw [sne l hl] at h6
        exact r.dis j l s t b e e' h3 h4 h5 h6
  · rcases at_ j s h1 with ⟨e1, e2⟩ | ⟨hj, e⟩
    · rw [e2] at h2
      obtain ⟨p, hp, _, hf⟩ := new h2
      rw [e1, List.getElem?_set_self hg, hp] at h3
      have hb : p = b := by cases h3; rfl
      rw [← hb]
      exact hf.symm
    · rw [sne j hj] at h3
      exact a.own b ⟨j, s, e, h2, h3⟩
  · obtain ⟨⟨d', h1⟩, h2⟩ := a.io j d h
    have hj : j ≠ i := fun e => by rw [e, he] at h1; cases h1; exact n d' rfl
    exact ⟨⟨d', by rw [List.getElem?_set_ne (Ne.symm hj)]; exact h1⟩, (sne j hj).trans h2⟩
end

/-! ### blocks and small statements -/
section
variable {T : List Addr} {E : Wish} {X : Cx} {e a b c : Expr} {pos : Pos} {st : Stmt} {rest : List Stmt}
def mnx : M Fl := ret .nx
def mseq (m n : M Fl) : M Fl := bnd m fun f => match f with
  | .nx => n
  | f => ret f
theorem gss_nil : GSs T E X [] mnx := pss_imp pss_nil fun D sg H ⟨en, Z, r, q⟩ => posts_ret (a := Fl.nx) r q
theorem gss_cons {m n : M Fl} (h1 : GS T E X st m) (h2 : GSs T E X rest n) : GSs T E X (st :: rest) (mseq m n) :=
  pss_imp (pss_cons h1 h2) fun D sg H ⟨en, Z, r, q⟩ => ⟨en, Z, r, posts_mono (posts_bnd r q) fun f en1 sg1 H1 Z1 _ ⟨a1, q1⟩ => by
    cases f with
    | nx => exact ⟨en1, Z1, a1.rel, posts_mono q1 fun f en2 sg2 H2 Z2 _ h => endF_back a1 h⟩
    | rt x => exact posts_ret (a := Fl.rt x) a1.rel q1
    | bk => exact posts_ret (a := Fl.bk) a1.rel q1
    | ct => exact posts_ret (a := Fl.ct) a1.rel q1⟩
theorem gss_one {m : M Fl} (h1 : GS T E X st m) : GSs T E X [st] m := pss_one h1
theorem gs_pass : GS T E X (.Pass pos) mnx := ps_imp ps_pass fun D sg H ⟨en, Z, r, q⟩ => posts_ret (a := Fl.nx) r q
theorem gs_break : GS T E X (.Break pos) (ret .bk) := ps_imp ps_break fun D sg H ⟨en, Z, r, q⟩ => posts_ret (a := Fl.bk) r q
theorem gs_continue : GS T E X (.Continue pos) (ret .ct) := ps_imp ps_continue fun D sg H ⟨en, Z, r, q⟩ => posts_ret (a := Fl.ct) r q
def mret (m : M Vl) : M Fl := bnd m fun x => ret (.rt x)
theorem gs_ret {m : M Vl} (h : GE T E X e m) : GS T E X (.Return (some e) pos) (mret m) :=
  ps_imp (ps_ret h) fun D sg H ⟨en, Z, r, q⟩ => ⟨en, Z, r, post_mono (posts_post (posts_bnd r q)) fun x en1 H1 Z1 _ ⟨a1, q1⟩ v hv => posts_ret (a := Fl.rt x) a1.rel q1 v hv⟩
/-- a name's thing is given back -/
def mretN (i : Nat) : M Fl := fun en => match en[i]? with
  | some (.sh d) => .ok (.rt (.sh d)) en
  | some (.ow d) => .ok (.rt (.ow d)) (en.set i .no)
  | _ => .bad
theorem aft_drop {k : Kx} {sg : L2.St} {H Z : Hp} {en : En} {i : Nat} {d : PyData} (r : Rel k sg H Z en) (he : en[i]? = some (.ow d)) : Aft k sg H Z en sg H Z (en.set i .no) ∧ (∀ a, sg[i]? = some (some (V.ref a)) → ¬ Mine sg (en.set i .no) a) := by
  have hi : i < en.length := (List.getElem?_eq_some_iff.mp he).1
  have at_ : ∀ (j : Nat) (s : Sl), (en.set i .no)[j]? = some s → (j = i ∧ s = .no) ∨ (j ≠ i ∧ en[j]? = some s) := fun j s h => by
    by_cases e : j = i
    · rw [e, List.getElem?_set_self hi] at h; cases h; exact .inl ⟨e, rfl⟩
    · rw [List.getElem?_set_ne (Ne.symm e)] at h; exact .inr ⟨e, h⟩
  refine ⟨⟨⟨r.sub, fun j s h => ?_, fun j l s t b h1 h2 h3 h4 h5 h6 => ?_, r.tab⟩, fun _ _ h => h, fun _ _ h => .inl h, fun _ _ h _ _ => h, fun b ⟨j, s, h1, h2, h3⟩ => ?_, fun j d' h => ?_⟩, fun a ha ⟨j, s, h1, h2, h3⟩ => ?_⟩
  · rcases at_ j s h with ⟨e1, e2⟩ | ⟨_, e⟩
    · obtain ⟨v, hv, _⟩ := r.sl i _ he
      rw [e1, e2]; exact ⟨v, hv, trivial⟩
    · exact r.sl j s e
  · rcases at_ j s h1 with ⟨_, e⟩ | ⟨_, e⟩
    · rw [e] at h3; cases h3
    · rcases at_ l t h2 with ⟨_, e'⟩ | ⟨_, e'⟩
      · rw [e'] at h4; cases h4
      · exact r.dis j l s t b e e' h3 h4 h5 h6
  · rcases at_ j s h1 with ⟨_, e⟩ | ⟨_, e⟩
    · rw [e] at h2; cases h2
    · exact .inl ⟨j, s, e, h2, h3⟩
  · have hj : j ≠ i := fun e => by rw [e, he] at h; cases h
    exact ⟨⟨d', by rw [List.getElem?_set_ne (Ne.symm hj)]; exact h⟩, rfl⟩
  · rcases at_ j s h1 with ⟨_, e⟩ | ⟨hj, e⟩
    · rw [e] at h2; cases h2
    · exact hj (r.dis j i s _ a e he h2 rfl h3 ha)
theorem gs_retN (i : Nat) (h : PE X e (tVar i)) : GS T E X (.Return (some e) pos) (mretN i) := ps_imp (ps_ret h) fun D sg H ⟨en, Z, r, q⟩ => by
  unfold mretN at q
  cases he : en[i]? with
  | none => rw [he] at q; exact q.elim
  | some s =>
    rw [he] at q
    obtain ⟨v, hv, hs⟩ := r.sl i s he
    cases s with
    | no => exact q.elim
    | io d => exact q.elim
    | sh d =>
      obtain ⟨x, rfl, hd⟩ := hs
      exact ⟨x, hv, q sg H Z (Aft.refl r) x hd⟩
    | ow d =>
      obtain ⟨a, rfl, hz, ho⟩ := hs
      obtain ⟨a2, nm⟩ := aft_drop r he
      exact ⟨.ref a, hv, q sg H Z a2 (.ref a) ⟨a, rfl, hz, ho, nm a hv, .inr ⟨i, _, he, rfl, hv⟩⟩⟩
theorem gs_retNone : GS T E X (.Return none pos) (ret (.rt (.sh .none))) := ps_imp ps_retN fun D sg H ⟨en, Z, r, q⟩ => posts_ret (a := Fl.rt (.sh .none)) r q .non .non
def mifS (t : M Bool) (m n : M Fl) : M Fl := bnd t fun b => if b = true then m else n
theorem gs_if {t : M Bool} {m n : M Fl} {p q : List Stmt} (hc : GT T E X c t) (ha : GSs T E X p m) (hb : GSs T E X q n) : GS T E X (.If c p q pos) (mifS t m n) :=
  ps_imp (ps_if hc ha hb) fun D sg H ⟨en, Z, r, q⟩ => ⟨en, Z, r, post_mono (posts_post (posts_bnd r q)) fun d en1 H1 Z1 _ ⟨a1, q1⟩ => by
    cases d with
    | true => exact ⟨en1, Z1, a1.rel, posts_mono q1 fun f en2 sg2 H2 Z2 _ h => endF_back a1 h⟩
    | false => exact ⟨en1, Z1, a1.rel, posts_mono q1 fun f en2 sg2 H2 Z2 _ h => endF_back a1 h⟩⟩
/-- an expression alone -/
def mdrop (m : M Vl) : M Fl := bnd m fun _ => mnx
theorem gs_expr {m : M Vl} (h : GE T E X e m) (hs : swapsWith e none pos.line X.env = pure false := by rfl) : GS T E X (.Expr e pos) (mdrop m) :=
  ps_imp (ps_expr h hs) fun D sg H ⟨en, Z, r, q⟩ => ⟨en, Z, r, by
    have q0 := posts_post (posts_bnd r q)
    unfold mdrop bnd at q
    cases hm : m en with
    | ok x en1 =>
      rw [hm] at q
      intro H1 Z1 a1 v hv
      exact q sg H1 Z1 a1
    | err c en1 => rw [hm] at q; exact fun H1 Z1 a1 => q sg H1 Z1 a1
    | bad => rw [hm] at q; exact q⟩

/-! ### targets -/
def masg (i : Nat) (x : Vl) : M Fl := fun en => match en[i]? with
  | some (.io _) => .bad
  | some _ => .ok .nx (en.set i (slOf x))
  | none => .bad
def asgN (i : Nat) (m : M Vl) : M Fl := bnd m (masg i)
theorem masg_ok {k : Kx} {sg0 sg : L2.St} {H0 Z0 H Z : Hp} {en0 en : En} {i : Nat} {v : V} {x : Vl} {P : Fl → En → L2.St → Hp → Hp → Prop} (a : Aft k sg0 H0 Z0 en0 sg H Z en) (hv : VlOk k sg0 H0 en0 sg H Z en v x)
    (h : PostS k E sg0 H0 Z0 en0 (masg i x en) P) : P .nx (en.set i (slOf x)) (sg.set i (some v)) H Z := by
  unfold masg at h
  cases he : en[i]? with
  | none => rw [he] at h; exact h.elim
  | some s =>
    rw [he] at h
    cases s with
    | io d => exact h.elim
    | no => exact h _ _ _ (aft_set a he (fun _ z => by cases z) hv)
    | sh d => exact h _ _ _ (aft_set a he (fun _ z => by cases z) hv)
    | ow d => exact h _ _ _ (aft_set a he (fun _ z => by cases z) hv)
/-- name = e -/
theorem gs_set {i : Nat} {x : Str} {m : M Vl} {pos' : Pos} (hN : X.N.Nodup) (hi : X.N[i]? = some x) (hx : Loc X.env.scope x) (he : GE T E X e m)
    (hs : swapsWith e (some (.Name x pos')) pos.line X.env = pure false := by rfl) (hf : X.fn x = true ∨ X.env.scope.names.lookup x = some .local := by first | exact .inl rfl | exact .inr rfl | assumption) :
    GS T E X (.Assign [.Name x pos'] e pos) (asgN i m) :=
  ps_imp (ps_set hN hi hx he hs hf) fun D sg H ⟨en, Z, r, q⟩ => ⟨en, Z, r, by
    unfold asgN bnd at q
    cases hm : m en with
    | ok x en1 =>
      rw [hm] at q
      intro H1 Z1 a1 v hv
      exact masg_ok a1 hv q
    | err c en1 => rw [hm] at q; exact fun H1 Z1 a1 => q sg H1 Z1 a1
    | bad => rw [hm] at q; exact q⟩
/-- what a target does with a tree; the places that it changes -/
abbrev TgF := PyData → M Fl
def Only (L : List Nat) (sg sg' : L2.St) : Prop := (∀ j, j ∉ L → sg'[j]? = sg[j]?) ∧ sg'.length = sg.length
theorem Only.refl {L : List Nat} {sg : L2.St} : Only L sg sg := ⟨fun _ _ => rfl, rfl⟩
theorem Only.trans {L : List Nat} {sg sg1 sg2 : L2.St} (a : Only L sg sg1) (b : Only L sg1 sg2) : Only L sg sg2 := ⟨fun j h => (b.1 j h).trans (a.1 j h), b.2.trans a.2⟩
theorem Only.set {L : List Nat} {sg : L2.St} {i : Nat} {v : Option V} (h : i ∈ L) : Only L sg (sg.set i v) := ⟨fun j hj => List.getElem?_set_ne (fun (e : i = j) => hj (by rw [← e]; exact h)), List.length_set ..⟩
def tG (k : Kx) (E : Wish) (L : List Nat) (f : TgF) : TG := fun v sg H Q => ∃ en Z d, Rel k sg H Z en ∧ Dp k.K Z v d ∧ PostS k E sg H Z en (f d en) fun fl _ sg' H' _ => fl = .nx → Only L sg sg' → Q sg' H'
def tGT (k : Kx) (E : Wish) (L : List Nat) (f : TgF) : TG := fun v sg H Q => ∃ en Z d, Rel k sg H Z en ∧ Top k.K H Z v d ∧ PostS k E sg H Z en (f d en) fun fl _ sg' H' _ => fl = .nx → Only L sg sg' → Q sg' H'
def tGs (k : Kx) (E : Wish) (L : List Nat) (f : List PyData → M Fl) : TGs := fun vs sg H Q => ∃ en Z ds, Rel k sg H Z en ∧ DpAll k.K Z vs ds ∧ PostS k E sg H Z en (f ds en) fun fl _ sg' H' _ => fl = .nx → Only L sg sg' → Q sg' H'
theorem pg_imp {X : Cx} {e : Expr} {t u : TG} (h : PG X e t) (i : ∀ v sg H Q, u v sg H Q → t v sg H Q) : PG X e u := ⟨fun pins s sg H v w Q I r q => h.run pins s sg H v w Q I r (i _ _ _ _ q)⟩
theorem pgs_imp {X : Cx} {e : List Expr} {t u : TGs} (h : PGs X e t) (i : ∀ v sg H Q, u v sg H Q → t v sg H Q) : PGs X e u := ⟨fun pins s sg H v w Q I r q => h.run pins s sg H v w Q I r (i _ _ _ _ q)⟩
theorem pg_or {X : Cx} {e : Expr} {t u : TG} (h : PG X e t) (h' : PG X e u) : PG X e fun v sg H Q => t v sg H Q ∨ u v sg H Q := ⟨fun pins s sg H v w Q I r q => q.elim (h.run pins s sg H v w Q I r) (h'.run pins s sg H v w Q I r)⟩
abbrev GG (T : List Addr) (E : Wish) (X : Cx) (L : List Nat) (e : Expr) (f : TgF) : Prop := PG X e (tG ⟨X.K, T⟩ E L f)
abbrev GGT (T : List Addr) (E : Wish) (X : Cx) (L : List Nat) (e : Expr) (f : TgF) : Prop := PG X e (tGT ⟨X.K, T⟩ E L f)
abbrev GGs (T : List Addr) (E : Wish) (X : Cx) (L : List Nat) (es : List Expr) (f : List PyData → M Fl) : Prop := PGs X es (tGs ⟨X.K, T⟩ E L f)
def tgN (i : Nat) : TgF := fun d => masg i (.sh d)
theorem gg_name {L : List Nat} {i : Nat} {x : Str} (hL : i ∈ L) (hN : X.N.Nodup) (hi : X.N[i]? = some x) (hx : Loc X.env.scope x) (hf : X.fn x = true ∨ X.env.scope.names.lookup x = some .local := by first | exact .inl rfl | exact .inr rfl | assumption) : GG T E X L (.Name x pos) (tgN i) :=
  pg_imp (pg_name hN hi hx hf) fun v sg H Q ⟨en, Z, d, r, hd, q⟩ => masg_ok (x := .sh d) (Aft.refl r) hd q rfl (Only.set hL)
def tgnil : List PyData → M Fl := fun ds => match ds with
  | [] => mnx
  | _ => fail
def tgcons (f : TgF) (g : List PyData → M Fl) : List PyData → M Fl := fun ds => match ds with
  | [] => fail
  | d :: ds => bnd (f d) fun fl => match fl with
    | .nx => g ds
    | _ => fail
theorem ggs_nil {L : List Nat} : GGs T E X L [] tgnil := pgs_imp pgs_nil fun v sg H Q ⟨en, Z, ds, r, hd, q⟩ => by
  cases hd with
  | nil => exact ⟨rfl, posts_ret (a := Fl.nx) r q rfl Only.refl⟩
  | cons _ _ => exact q.elim
theorem ggs_cons {L : List Nat} {f : TgF} {g : List PyData → M Fl} {es : List Expr} (h1 : GG T E X L e f) (h2 : GGs T E X L es g)
    (hs : (assignEach (e :: es) X.env).map (·.2) = assign e X.env :: (assignEach es X.env).map (·.2) := by rfl) : GGs T E X L (e :: es) (tgcons f g) := pgs_imp (pgs_cons h1 h2 hs) fun v sg H Q ⟨en, Z, ds, r, hd, q⟩ => by
  cases hd with
  | nil => exact q.elim
  | cons hd hr =>
    refine ⟨_, _, rfl, en, Z, _, r, hd, posts_mono (posts_bnd r q) fun fl en1 sg1 H1 Z1 _ ⟨a1, q1⟩ e o1 => ?_⟩
    subst e
    exact ⟨en1, Z1, _, a1.rel, dpAll_mono a1.zz hr, posts_mono q1 fun fl2 en2 sg2 H2 Z2 _ h e o2 => h e (o1.trans o2)⟩
def tgtup (n : Nat) (g : List PyData → M Fl) : TgF := fun d => match d with
  | .tuple ds => if ds.length = n then g ds else fail
  | .list ds => if ds.length = n then g ds else fail
  | _ => fail
theorem ggt_tup {L : List Nat} {es : List Expr} {j n : Nat} {g : List PyData → M Fl} (hc : X.calm = true) (h : GGs T E X L es g) (hn : (assignEach es X.env).length = n := by rfl) (hst : (assignEach es X.env).findIdx? (·.1) = none := by rfl) :
    GGT T E X L (.Tuple es j pos) (tgtup n g) :=
  pg_imp (pg_or (pg_tup hc h hn hst) (pg_unl hc h hn hst)) fun v sg H Q ⟨en, Z, d, r, hd, q⟩ => by
    cases d with
    | tuple ds =>
      obtain ⟨a, vs, rfl, hs, hds⟩ := hd.tup r.sub
      by_cases hl : ds.length = n
      · simp only [tgtup, hl, if_true] at q
        exact .inl ⟨a, vs, rfl, hs, (dpa_length hds).trans hl, en, Z, ds, r, hds, q⟩
      · simp only [tgtup, hl, if_false] at q; exact q.elim
    | list ds =>
      obtain ⟨a, vs, rfl, hs, hds⟩ := hd.list r.sub
      by_cases hl : ds.length = n
      · simp only [tgtup, hl, if_true] at q
        exact .inr ⟨a, vs, rfl, hs, (dpa_length hds).trans hl, en, Z, ds, r, hds, q⟩
      · simp only [tgtup, hl, if_false] at q; exact q.elim
    | _ => exact q.elim
theorem gg_top {L : List Nat} {f : TgF} (h : GGT T E X L e f) : GG T E X L e f := pg_imp h fun v sg H Q ⟨en, Z, d, r, hd, q⟩ => ⟨en, Z, d, r, .inl hd, q⟩
/-- a, b = e: e is looked at -/
def asgT (f : TgF) (m : M Od) : M Fl := bnd m fun x => fun en => match look en x with
  | some d => bnd (f d) (fun fl => match fl with | .nx => mnx | _ => fail) en
  | none => .bad
theorem gs_asgT {L : List Nat} {tg : Expr} {f : TgF} {m : M Od} (he : GO T E X e m) (hg : GGT T E X L tg f) (hs : swapsWithSole [tg] e pos.line X.env = pure false := by rfl) (hw : swappedStores [tg] e X.env = pure none := by rfl)
    (h1 : (assignEach [tg] X.env).map (·.2) = [assign tg X.env] := by rfl) : GS T E X (.Assign [tg] e pos) (asgT f m) :=
  ps_imp (ps_asg he hg hs hw h1) fun D sg H ⟨en, Z, r, q⟩ => ⟨en, Z, r, post_mono (posts_post (posts_bnd r q)) fun x en1 H1 Z1 _ ⟨a1, q1⟩ v hv => by
    cases hl : look en1 x with
    | none => simp only [hl] at q1; exact q1.elim
    | some d =>
      simp only [hl] at q1
      refine ⟨en1, Z1, d, a1.rel, top_of a1.rel hv hl, posts_mono (posts_bnd a1.rel q1) fun fl en2 sg2 H2 Z2 _ ⟨a2, q2⟩ e _ => ?_⟩
      subst e
      exact posts_ret (a := Fl.nx) a2.rel q2⟩
end
end ZD

namespace ZD
open PySem PySem.Spec PyProof.Rows L2 GxR ZG

/-! ### what is walked -/
/-- the walk J hands out ds, as long as Zs stands -/
structure ItIs (k : Kx) (ds : List PyData) (J : It) (Zs : Hp) : Prop where
  stop : ∀ (sg : L2.St) (H Z : Hp) (en : En), Rel k sg H Z en → (∀ a o, Zs a = some o → Z a = some o) → J.stop ds.length H
  go : ∀ (sg : L2.St) (H Z : Hp) (en : En) (i : Nat) (d : PyData), Rel k sg H Z en → (∀ a o, Zs a = some o → Z a = some o) → ds[i]? = some d →
    J.go i H ∧ ∀ x H', J.yld i H x H' → ∃ Z', Aft k sg H Z en sg H' Z' en ∧ Dp k.K Z' x d
def tI (k : Kx) (E : Wish) (m : M (List PyData)) : TI := fun sg H R => ∃ en Z, Rel k sg H Z en ∧ Post k E sg H Z en (m en) fun ds en' H' Z' => ∀ J, ItIs k ds J Z' → R J H'
abbrev GI (T : List Addr) (E : Wish) (X : Cx) (tg iter : Expr) (m : M (List PyData)) : Prop := PI X tg iter (tI ⟨X.K, T⟩ E m)
theorem pi_imp {X : Cx} {tg e : Expr} {t u : TI} (h : PI X tg e t) (i : ∀ sg H R, u sg H R → t sg H R) : PI X tg e u := ⟨fun pins s sg H R I q => h.run pins s sg H R I (i _ _ _ q)⟩
theorem pi_orI {X : Cx} {tg e : Expr} {t u : TI} (h : PI X tg e t) (h' : PI X tg e u) : PI X tg e fun sg H R => t sg H R ∨ u sg H R := ⟨fun pins s sg H R I q => q.elim (h.run pins s sg H R I) (h'.run pins s sg H R I)⟩

section
variable {T : List Addr} {E : Wish} {X : Cx} {tg e a b : Expr} {pos p : Pos} {k : Kx}
theorem itis_list {a : Addr} {vs : List V} {ds : List PyData} {Zs : Hp} (h : SqL k.K Zs a vs) (hd : DpAll k.K Zs vs ds) : ItIs k ds (Itl k.K a) Zs where
  stop := fun sg H Z en r hz => ⟨vs, Same.seq (fun x o q => r.sub x o (hz x o q)) h, by rw [dpa_length hd]; exact Nat.le_refl _⟩
  go := fun sg H Z en i d r hz hi => by
    obtain ⟨v, hv, hvd⟩ := dpa_get hd hi
    have hs : SqL k.K H a vs := Same.seq (fun x o q => r.sub x o (hz x o q)) h
    refine ⟨⟨vs, v, hs, hv⟩, fun x H' hy => ?_⟩
    obtain ⟨rfl, hy⟩ := hy
    have e : some v = some x := hv.symm.trans (hy vs hs)
    cases e
    exact ⟨Z, Aft.refl r, dp_mono hz hvd⟩
theorem SqT.mono {K : PySem.W.Frag} {H H' : Hp} {a : Addr} {vs : List V} (hz : ∀ x o, H x = some o → H' x = some o) (h : SqT K H a vs) : SqT K H' a vs := by
  rcases h with (q | ⟨o, q⟩) | q
  · exact .inl (.inl (hz _ _ q))
  · exact .inl (.inr ⟨o, hz _ _ q⟩)
  · exact .inr q
theorem itis_tup {a : Addr} {vs : List V} {ds : List PyData} {Zs : Hp} (h : SqT k.K Zs a vs) (hd : DpAll k.K Zs vs ds) : ItIs k ds (Itt k.K a) Zs where
  stop := fun sg H Z en r hz => ⟨vs, SqT.mono (fun x o q => r.sub x o (hz x o q)) h, by rw [dpa_length hd]; exact Nat.le_refl _⟩
  go := fun sg H Z en i d r hz hi => by
    obtain ⟨v, hv, hvd⟩ := dpa_get hd hi
    have hs : SqT k.K H a vs := SqT.mono (fun x o q => r.sub x o (hz x o q)) h
    refine ⟨⟨vs, v, hs, hv⟩, fun x H' hy => ?_⟩
    obtain ⟨rfl, hy⟩ := hy
    have e : some v = some x := hv.symm.trans (hy vs hs)
    cases e
    exact ⟨Z, Aft.refl r, dp_mono hz hvd⟩
/-- the signs of a text -/
def signs (x : Str) : List PyData := x.cps.toList.map fun c => .str ⟨#[c]⟩
theorem itis_str {x : Str} {Zs : Hp} : ItIs k (signs x) (Its x) Zs where
  stop := fun sg H Z en r hz => by
    show x.cps.size ≤ (signs x).length
    simp [signs]
  go := fun sg H Z en i d r hz hi => by
    have h0 : i < (signs x).length := (List.getElem?_eq_some_iff.mp hi).1
    have hlt : i < x.cps.size := by simpa [signs] using h0
    refine ⟨hlt, fun y H' hy => ?_⟩
    obtain ⟨rfl, c, hc, rfl⟩ := hy
    have e : d = .str ⟨#[c]⟩ := by
      have q : (signs x)[i]? = some (.str ⟨#[c]⟩) := by
        unfold signs
        rw [List.getElem?_map, Array.getElem?_toList, hc]
        rfl
      rw [q] at hi
      exact (Option.some.inj hi).symm
    subst e
    exact ⟨Z, Aft.refl r, .str _⟩
def rngL (lo : Int) (n : Nat) : List PyData := (List.range n).map fun i => .int (lo + (i : Nat))
theorem itis_rng {lo : Int} {n : Nat} {Zs : Hp} : ItIs k (rngL lo n) (Itr lo n) Zs where
  stop := fun sg H Z en r hz => by
    show n ≤ (rngL lo n).length
    simp [rngL]
  go := fun sg H Z en i d r hz hi => by
    have h0 : i < (rngL lo n).length := (List.getElem?_eq_some_iff.mp hi).1
    have hlt : i < n := by simpa [rngL] using h0
    refine ⟨hlt, fun y H' hy => ?_⟩
    obtain ⟨rfl, rfl⟩ := hy
    have e : d = .int (lo + (i : Nat)) := by
      have q : (rngL lo n)[i]? = some (.int (lo + (i : Nat))) := by
        unfold rngL
        rw [List.getElem?_map, List.getElem?_range hlt]
        rfl
      rw [q] at hi
      exact (Option.some.inj hi).symm
    subst e
    exact ⟨Z, Aft.refl r, .int _⟩

/-- a list, a tuple, a text -/
def seqM (m : M PyData) : M (List PyData) := bnd m fun d => match d with
  | .list ds => ret ds
  | .tuple ds => ret ds
  | .str x => ret (signs x)
  | _ => fail
theorem gi_seq {m : M PyData} (h : GD T E X e m) : GI T E X tg e (seqM m) :=
  pi_imp (pi_orI (pi_list (tg := tg) h) (pi_orI (pi_tup (tg := tg) h) (pi_str (tg := tg) h))) fun sg H R ⟨en, Z, r, q⟩ => by
    unfold seqM bnd at q
    have hz : ∀ a o, Z a = some o → H a = some o := r.sub
    cases hm : m en with
    | bad => rw [hm] at q; exact q.elim
    | err c en1 =>
      rw [hm] at q
      exact .inl ⟨en, Z, r, by rw [hm]; exact q⟩
    | ok d en1 =>
      rw [hm] at q
      cases d with
      | list ds =>
        refine .inl ⟨en, Z, r, ?_⟩
        rw [hm]
        intro H1 Z1 a1 v hv
        cases hv with
        | lst h1 h2 => exact ⟨_, rfl, ⟨_, Same.seq a1.rel.sub h1⟩, q H1 Z1 a1 _ (itis_list (k := ⟨X.K, T⟩) h1 h2)⟩
      | tuple ds =>
        refine .inr (.inl ⟨en, Z, r, ?_⟩)
        rw [hm]
        intro H1 Z1 a1 v hv
        cases hv with
        | tup h1 h2 => exact ⟨_, rfl, ⟨_, SqT.mono a1.rel.sub h1⟩, q H1 Z1 a1 _ (itis_tup (k := ⟨X.K, T⟩) h1 h2)⟩
      | str x =>
        refine .inr (.inr ⟨en, Z, r, ?_⟩)
        rw [hm]
        intro H1 Z1 a1 v hv
        cases hv
        exact ⟨x, rfl, q H1 Z1 a1 _ itis_str⟩
      | _ => exact q.elim
/-- range(n), range(a, b) -/
def rngM1 (m : M PyData) : M (List PyData) := bnd m fun d => match d with
  | .int n => if n < 2 ^ 62 ∧ -(2 ^ 62) ≤ n then ret (rngL 0 n.toNat) else fail
  | _ => fail
def rngM2 (m n : M PyData) : M (List PyData) := bnd m fun d => bnd n fun d2 => match d, d2 with
  | .int i, .int j => if i < 2 ^ 62 ∧ -(2 ^ 62) ≤ i ∧ j < 2 ^ 62 ∧ -(2 ^ 62) ≤ j then ret (rngL i (j - i).toNat) else fail
  | _, _ => fail
theorem gi_range1 {m : M PyData} (hg : Gl X "range") (hm : X.mg "range" = none) (h : GD T E X a m) (hq : starEach [a] X.env = (false, eval a X.env) :: starEach [] X.env := by rfl) : GI T E X tg (.Call (.Name "range" p) [a] [] pos) (rngM1 m) :=
  pi_imp (pi_range1 (tg := tg) hg hm (pa_cons h pa_nil hq) (by rw [hq]; rfl)) fun sg H R ⟨en, Z, r, q⟩ => ⟨en, Z, r, post_mono (post_bnd r q) fun d en1 H1 Z1 _ ⟨a1, q1⟩ v hv => by
    cases d with
    | int n =>
      cases hv
      by_cases hc : n < 2 ^ 62 ∧ -(2 ^ 62) ≤ n
      · simp only [hc, and_self, if_true] at q1
        exact ⟨n, rfl, hc.2, hc.1, post_ret a1.rel q1 _ itis_rng⟩
      · simp only [hc, if_false] at q1; exact q1.elim
    | _ => exact q1.elim⟩
theorem gi_range2 {m n : M PyData} (hg : Gl X "range") (hm : X.mg "range" = none) (h : GD T E X a m) (h2 : GD T E X b n) (hq : starEach [a, b] X.env = (false, eval a X.env) :: starEach [b] X.env := by rfl) (hq2 : starEach [b] X.env = (false, eval b X.env) :: starEach [] X.env := by rfl) :
    GI T E X tg (.Call (.Name "range" p) [a, b] [] pos) (rngM2 m n) :=
  pi_imp (pi_range2 (tg := tg) hg hm (pa_cons h (pa_cons h2 pa_nil hq2) hq) (by rw [hq, hq2]; rfl) (by rw [hq2]; rfl)) fun sg H R ⟨en, Z, r, q⟩ => ⟨en, Z, r, post_mono (post_bnd r q) fun d en1 H1 Z1 _ ⟨a1, q1⟩ v hv =>
    ⟨en1, Z1, a1.rel, post_mono (post_bnd a1.rel q1) fun d2 en2 H2 Z2 _ ⟨a2, q2⟩ w hw => by
    cases d with
    | int i =>
      cases d2 with
      | int j =>
        cases hv
        cases hw
        by_cases hc : i < 2 ^ 62 ∧ -(2 ^ 62) ≤ i ∧ j < 2 ^ 62 ∧ -(2 ^ 62) ≤ j
        · simp only [hc, and_self, if_true] at q2
          exact ⟨i, j, rfl, ⟨hc.2.1, hc.1, hc.2.2.2, hc.2.2.1⟩, post_ret a2.rel q2 _ itis_rng⟩
        · simp only [hc, if_false] at q2; exact q2.elim
      | _ => exact q2.elim
    | _ => exact q2.elim⟩⟩
end

/-! ### for -/
def forM (f : TgF) (body : M Fl) : List PyData → M Fl
  | [] => mnx
  | d :: ds => bnd (f d) fun fl => match fl with
    | .nx => bnd body fun g => match g with
      | .nx => forM f body ds
      | .ct => forM f body ds
      | .bk => mnx
      | .rt x => ret (.rt x)
    | _ => fail
def mfor (m : M (List PyData)) (f : TgF) (body : M Fl) : M Fl := bnd m (forM f body)
section
variable {T : List Addr} {E : Wish} {X : Cx} {tg iter : Expr} {body : List Stmt} {pos : Pos}
theorem gs_for {L : List Nat} {m : M (List PyData)} {f : TgF} {mb : M Fl} (hp : PassesOwn (model X.prog X.w) X.A X.env X.xe) (hc : X.calm = true) (hi : GI T E X tg iter m) (hg : GG T E X L tg f) (hb : GSs T E X body mb)
    (hs : ∀ x, foldedSetIterable iter X.env x = pure x := by intro _; rfl) : GS T E X (.For tg iter body [] pos) (mfor m f mb) :=
  ps_imp (ps_for hp hc hi hg hb hs) fun D sg H ⟨en, Z, r, q⟩ => ⟨en, Z, r, post_mono (posts_post (posts_bnd r q)) fun ds en1 H1 Z1 _ ⟨a1, q1⟩ J hJ => by
    refine ⟨fun i m' sg2 H2 => m' = ds.length - i ∧ i ≤ ds.length ∧ ∃ en2 Z2, Rel ⟨X.K, T⟩ sg2 H2 Z2 en2 ∧ (∀ a o, Z1 a = some o → Z2 a = some o) ∧ Aft ⟨X.K, T⟩ sg H Z en sg2 H2 Z2 en2 ∧
      PostS ⟨X.K, T⟩ E sg2 H2 Z2 en2 (forM f mb (ds.drop i) en2) fun fl en' sg' H' Z' => endF ⟨X.K, T⟩ sg H en D sg' H' Z' en' fl, ⟨ds.length, by simp, Nat.zero_le _, en1, Z1, a1.rel, fun _ _ h => h, a1, by rw [List.drop_zero]; exact q1⟩, ?_⟩
    rintro i m' sg2 H2 ⟨rfl, hi', en2, Z2, r2, hz, a2, q2⟩
    by_cases hlt : i < ds.length
    · have hd : ds[i]? = some ds[i] := List.getElem?_eq_getElem hlt
      obtain ⟨hgo, hy⟩ := hJ.go sg2 H2 Z2 en2 i _ r2 hz hd
      refine .inr ⟨hgo, fun sg3 H3 => ds.length - (i + 1) = ds.length - (i + 1) ∧ i + 1 ≤ ds.length ∧ ∃ en3 Z3, Rel ⟨X.K, T⟩ sg3 H3 Z3 en3 ∧ (∀ a o, Z1 a = some o → Z3 a = some o) ∧ Aft ⟨X.K, T⟩ sg H Z en sg3 H3 Z3 en3 ∧
        PostS ⟨X.K, T⟩ E sg3 H3 Z3 en3 (forM f mb (ds.drop (i + 1)) en3) fun fl en' sg' H' Z' => endF ⟨X.K, T⟩ sg H en D sg' H' Z' en' fl, fun sg3 H3 h => ⟨_, by omega, h⟩, fun x H3 hx => ?_⟩
      obtain ⟨Z3, a3, hdp⟩ := hy x H3 hx
      rw [List.drop_eq_getElem_cons hlt] at q2
      unfold forM at q2
      refine ⟨en2, Z3, _, a3.rel, hdp, ?_⟩
      have q3 : PostS ⟨X.K, T⟩ E sg2 H3 Z3 en2 (bnd (f ds[i]) (fun fl => match fl with
        | .nx => bnd mb fun g => match g with
          | .nx => forM f mb (ds.drop (i + 1))
          | .ct => forM f mb (ds.drop (i + 1))
          | .bk => mnx
          | .rt x => ret (.rt x)
        | _ => fail) en2) fun fl en' sg' H' Z' => endF ⟨X.K, T⟩ sg H en D sg' H' Z' en' fl := by
        revert q2
        generalize bnd (f ds[i]) _ en2 = rr
        intro q2
        cases rr with
        | ok fl en3 => exact fun sg' H' Z' a' => q2 sg' H' Z' (a3.trans a' r2)
        | err c en3 => exact fun sg' H' Z' a' => q2 sg' H' Z' (a3.trans a' r2)
        | bad => exact q2
      refine posts_mono (posts_bnd a3.rel q3) fun fl en4 sg4 H4 Z4 _ ⟨a4, q4⟩ e _ => ?_
      subst e
      refine ⟨en4, Z4, a4.rel, posts_mono (posts_bnd a4.rel q4) fun g en5 sg5 H5 Z5 _ ⟨a5, q5⟩ => ?_⟩
      have a05 : Aft ⟨X.K, T⟩ sg H Z en sg5 H5 Z5 en5 := ((a2.trans a3 r).trans a4 r).trans a5 r
      have z05 : ∀ a o, Z1 a = some o → Z5 a = some o := fun a o h => a5.zz a o (a4.zz a o (a3.zz a o (hz a o h)))
      cases g with
      | nx => exact ⟨rfl, hlt, en5, Z5, a5.rel, z05, a05, q5⟩
      | ct => exact ⟨rfl, hlt, en5, Z5, a5.rel, z05, a05, q5⟩
      | bk => exact posts_ret (a := Fl.nx) a5.rel q5
      | rt x => exact fun v hv => posts_ret (a := Fl.rt x) a5.rel q5 v (vl_backS (((a2.trans a3 r).trans a4 r)) hv)
    · have e : i = ds.length := by omega
      subst e
      rw [List.drop_of_length_le (Nat.le_refl _)] at q2
      exact .inl ⟨hJ.stop sg2 H2 Z2 en2 r2 hz, posts_ret (a := Fl.nx) r2 q2⟩⟩

/-! ### while -/
def whileM (t : M Bool) (body : M Fl) : Nat → M Fl
  | 0 => fail
  | n + 1 => bnd t fun b => if b = true then bnd body (fun g => match g with
      | .nx => whileM t body n
      | .ct => whileM t body n
      | .bk => mnx
      | .rt x => ret (.rt x)) else mnx
theorem gs_while {c : Expr} {mt : M Bool} {mb : M Fl} (n : Nat) (hp : PassesOwn (model X.prog X.w) X.A X.env X.xe) (hc : GT T E X c mt) (hb : GSs T E X body mb) : GS T E X (.While c body [] pos) (whileM mt mb n) :=
  ps_imp (ps_while hp hc hb) fun D sg H ⟨en, Z, r, q⟩ => by
    refine ⟨fun n' sg2 H2 => ∃ en2 Z2, Rel ⟨X.K, T⟩ sg2 H2 Z2 en2 ∧ Aft ⟨X.K, T⟩ sg H Z en sg2 H2 Z2 en2 ∧
      PostS ⟨X.K, T⟩ E sg2 H2 Z2 en2 (whileM mt mb n' en2) fun fl en' sg' H' Z' => endF ⟨X.K, T⟩ sg H en D sg' H' Z' en' fl, ⟨n, en, Z, r, Aft.refl r, q⟩, ?_⟩
    rintro n' sg2 H2 ⟨en2, Z2, r2, a2, q2⟩
    cases n' with
    | zero => exact q2.elim
    | succ n' =>
      refine ⟨en2, Z2, r2, post_mono (posts_post (posts_bnd r2 q2)) fun b en3 H3 Z3 _ ⟨a3, q3⟩ => ?_⟩
      cases b with
      | true =>
        rw [if_pos rfl]
        refine ⟨fun sg4 H4 => ∃ en4 Z4, Rel ⟨X.K, T⟩ sg4 H4 Z4 en4 ∧ Aft ⟨X.K, T⟩ sg H Z en sg4 H4 Z4 en4 ∧
          PostS ⟨X.K, T⟩ E sg4 H4 Z4 en4 (whileM mt mb n' en4) fun fl en' sg' H' Z' => endF ⟨X.K, T⟩ sg H en D sg' H' Z' en' fl, fun sg4 H4 h => ⟨n', Nat.lt_succ_self _, h⟩, ?_⟩
        have q3 : PostS ⟨X.K, T⟩ E sg2 H3 Z3 en3 (bnd mb _ en3) _ := q3
        refine ⟨en3, Z3, a3.rel, posts_mono (posts_bnd a3.rel q3) fun g en5 sg5 H5 Z5 _ ⟨a5, q5⟩ => ?_⟩
        have a05 : Aft ⟨X.K, T⟩ sg H Z en sg5 H5 Z5 en5 := (a2.trans a3 r).trans a5 r
        cases g with
        | nx => exact ⟨en5, Z5, a5.rel, a05, q5⟩
        | ct => exact ⟨en5, Z5, a5.rel, a05, q5⟩
        | bk => exact posts_ret (a := Fl.nx) a5.rel q5
        | rt x => exact fun v hv => posts_ret (a := Fl.rt x) a5.rel q5 v (vl_backS (a2.trans a3 r) hv)
      | false =>
        rw [if_neg Bool.false_ne_true]
        exact posts_ret (a := Fl.nx) a3.rel q3
end
end ZD

namespace ZD
open PySem PySem.Spec PyProof.Rows L2 GxR ZG

/-! ### the names of a block of its own -/
def wipeE (en : En) : List Nat → En
  | [] => en
  | v :: vs => (wipeE en vs).set v .no
def restE (en0 en : En) : List Nat → En
  | [] => en
  | v :: vs => (restE en0 en vs).set v (en0[v]?.getD .no)
def isPlain : Option Sl → Bool
  | some .no => true
  | some (.sh _) => true
  | _ => false
def wipeable (en : En) (vs : List Nat) : Bool := vs.all fun v => isPlain en[v]?

theorem wipe_get (sg : L2.St) : ∀ (vs : List Nat) (i : Nat), (i ∉ vs → (wipe sg vs)[i]? = sg[i]?) ∧ (i ∈ vs → ∀ v, sg[i]? = some v → (wipe sg vs)[i]? = some none)
  | [], i => ⟨fun _ => rfl, fun h => nomatch h⟩
  | v :: vs, i => by
    obtain ⟨h1, h2⟩ := wipe_get sg vs i
    unfold wipe
    by_cases e : v = i
    · refine ⟨fun h => absurd (by rw [e]; exact List.mem_cons_self) h, fun _ u hu => ?_⟩
      have hl : v < (wipe sg vs).length := by rw [wipe_length, e]; exact (List.getElem?_eq_some_iff.mp hu).1
      rw [← e, List.getElem?_set_self hl]
    · rw [List.getElem?_set_ne e]
      exact ⟨fun h => h1 fun q => h (List.mem_cons_of_mem _ q), fun h => h2 ((List.mem_cons.mp h).resolve_left fun q => e q.symm)⟩
theorem wipeE_len (en : En) : ∀ vs : List Nat, (wipeE en vs).length = en.length
  | [] => rfl
  | v :: vs => by unfold wipeE; rw [List.length_set, wipeE_len en vs]
theorem wipeE_get (en : En) : ∀ (vs : List Nat) (i : Nat), (i ∉ vs → (wipeE en vs)[i]? = en[i]?) ∧ (i ∈ vs → ∀ s, (wipeE en vs)[i]? = some s → s = .no ∧ ∃ s0, en[i]? = some s0)
  | [], i => ⟨fun _ => rfl, fun h => nomatch h⟩
  | v :: vs, i => by
    obtain ⟨h1, h2⟩ := wipeE_get en vs i
    unfold wipeE
    by_cases e : v = i
    · refine ⟨fun h => absurd (by rw [e]; exact List.mem_cons_self) h, fun _ s hs => ?_⟩
      have hl : v < (wipeE en vs).length := by
        have q := (List.getElem?_eq_some_iff.mp hs).1
        rw [List.length_set] at q
        rw [e]; exact q
      rw [← e, List.getElem?_set_self hl] at hs
      rw [wipeE_len] at hl
      exact ⟨(Option.some.inj hs).symm, en[v], by rw [← e]; exact List.getElem?_eq_getElem hl⟩
    · rw [List.getElem?_set_ne e]
      exact ⟨fun h => h1 fun q => h (List.mem_cons_of_mem _ q), fun h => h2 ((List.mem_cons.mp h).resolve_left fun q => e q.symm)⟩
theorem restE_len (en0 en : En) : ∀ vs : List Nat, (restE en0 en vs).length = en.length
  | [] => rfl
  | v :: vs => by unfold restE; rw [List.length_set, restE_len en0 en vs]
theorem restE_get (en0 en : En) : ∀ (vs : List Nat) (i : Nat), (i ∉ vs → (restE en0 en vs)[i]? = en[i]?) ∧ (i ∈ vs → ∀ s, (restE en0 en vs)[i]? = some s → s = en0[i]?.getD .no ∧ ∃ s1, en[i]? = some s1)
  | [], i => ⟨fun _ => rfl, fun h => nomatch h⟩
  | v :: vs, i => by
    obtain ⟨h1, h2⟩ := restE_get en0 en vs i
    unfold restE
    by_cases e : v = i
    · refine ⟨fun h => absurd (by rw [e]; exact List.mem_cons_self) h, fun _ s hs => ?_⟩
      have hl : v < (restE en0 en vs).length := by
        have q := (List.getElem?_eq_some_iff.mp hs).1
        rw [List.length_set] at q
        rw [e]; exact q
      rw [← e, List.getElem?_set_self hl] at hs
      rw [restE_len] at hl
      exact ⟨by rw [← e]; exact (Option.some.inj hs).symm, en[v], by rw [← e]; exact List.getElem?_eq_getElem hl⟩
    · rw [List.getElem?_set_ne e]
      exact ⟨fun h => h1 fun q => h (List.mem_cons_of_mem _ q), fun h => h2 ((List.mem_cons.mp h).resolve_left fun q => e q.symm)⟩
theorem only_wipe {L vs : List Nat} {sg sg' : L2.St} (h : Only L sg sg') (hl : ∀ i ∈ L, i ∈ vs) : wipe sg' vs = wipe sg vs := by
  refine List.ext_getElem? fun i => ?_
  by_cases hi : i ∈ vs
  · by_cases hlt : i < sg.length
    · rw [(wipe_get sg' vs i).2 hi _ (List.getElem?_eq_getElem (show i < sg'.length by rw [h.2]; exact hlt)), (wipe_get sg vs i).2 hi _ (List.getElem?_eq_getElem hlt)]
    · rw [List.getElem?_eq_none (by rw [wipe_length, h.2]; omega), List.getElem?_eq_none (by rw [wipe_length]; omega)]
  · rw [(wipe_get sg' vs i).1 hi, (wipe_get sg vs i).1 hi]
    exact h.1 i fun q => hi (hl i q)
theorem wipe_wipe {vs : List Nat} {sg : L2.St} : wipe (wipe sg vs) vs = wipe sg vs := by
  refine only_wipe (L := vs) ⟨fun j hj => (wipe_get sg vs j).1 hj, wipe_length _ _⟩ fun i h => h

section
variable {k : Kx} {E : Wish} {sg : L2.St} {H H' Z Z' : Hp} {en en' : En} {vs : List Nat}
theorem mine_wipe {a : Addr} (m : Mine (wipe sg vs) (wipeE en vs) a) : Mine sg en a := by
  obtain ⟨i, s, h1, h2, h3⟩ := m
  by_cases hi : i ∈ vs
  · obtain ⟨e, _⟩ := (wipeE_get en vs i).2 hi s h1
    rw [e] at h2; cases h2
  · exact ⟨i, s, by rw [← (wipeE_get en vs i).1 hi]; exact h1, h2, by rw [← (wipe_get sg vs i).1 hi]; exact h3⟩
theorem rel_wipe (r : Rel k sg H Z en) : Rel k (wipe sg vs) H Z (wipeE en vs) where
  sub := r.sub
  sl := fun i s h => by
    by_cases hi : i ∈ vs
    · obtain ⟨e, s0, hs0⟩ := (wipeE_get en vs i).2 hi s h
      obtain ⟨v, hv, _⟩ := r.sl i s0 hs0
      exact ⟨none, (wipe_get sg vs i).2 hi v hv, by rw [e]; trivial⟩
    · obtain ⟨v, hv, q⟩ := r.sl i s (by rw [← (wipeE_get en vs i).1 hi]; exact h)
      exact ⟨v, by rw [(wipe_get sg vs i).1 hi]; exact hv, q⟩
  dis := fun i j s t a h1 h2 h3 h4 h5 h6 => by
    by_cases hi : i ∈ vs
    · obtain ⟨e, _⟩ := (wipeE_get en vs i).2 hi s h1
      rw [e] at h3; cases h3
    · by_cases hj : j ∈ vs
      · obtain ⟨e, _⟩ := (wipeE_get en vs j).2 hj t h2
        rw [e] at h4; cases h4
      · rw [(wipeE_get en vs i).1 hi] at h1
        rw [(wipeE_get en vs j).1 hj] at h2
        rw [(wipe_get sg vs i).1 hi] at h5
        rw [(wipe_get sg vs j).1 hj] at h6
        exact r.dis i j s t a h1 h2 h3 h4 h5 h6
  tab := r.tab
theorem plain_own {o : Option Sl} {s : Sl} (h : isPlain o = true) (e : o = some s) : isOwn s = false := by
  rw [e] at h
  cases s with
  | no => rfl
  | sh d => rfl
  | ow d => cases h
  | io d => cases h
/-- within a block: the names of its own are forgotten -/
theorem aft_wipe (r : Rel k sg H Z en) (hw : wipeable en vs = true) : Aft k sg H Z en (wipe sg vs) H Z (wipeE en vs) :=
  ⟨rel_wipe r, fun _ _ h => h, fun _ _ h => .inl h, fun _ _ h _ _ => h, fun _ h => .inl (mine_wipe h), fun i d h => by
    have hi : i ∉ vs := fun q => by
      have z := plain_own (List.all_eq_true.mp hw i q) h
      cases z
    exact ⟨⟨d, by rw [(wipeE_get en vs i).1 hi]; exact h⟩, (wipe_get sg vs i).1 hi⟩⟩
/-- back from the block -/
theorem blk_back (r : Rel k sg H Z en) (hw : wipeable en vs = true) {H1 : Hp} (hk : ∀ a o, H a = some o → H1 a = some o) (hn : ∀ a, H1 a = none → H a = none) (a : Aft k (wipe sg vs) H1 Z (wipeE en vs) (wipe sg vs) H' Z' en') :
    Aft k sg H Z en sg H' Z' (restE en en' vs) := by
  have out : ∀ i, i ∉ vs → (restE en en' vs)[i]? = en'[i]? := fun i hi => (restE_get en en' vs i).1 hi
  have pl : ∀ i ∈ vs, isPlain en[i]? = true := fun i hi => List.all_eq_true.mp hw i hi
  have inn : ∀ i s, i ∈ vs → (restE en en' vs)[i]? = some s → en[i]? = some s := fun i s hi h => by
    obtain ⟨e, _⟩ := (restE_get en en' vs i).2 hi s h
    cases q : en[i]? with
    | none => have z := pl i hi; rw [q] at z; cases z
    | some s0 => rw [e, q]; rfl
  have nown : ∀ i s, i ∈ vs → (restE en en' vs)[i]? = some s → isOwn s = false := fun i s hi h => plain_own (pl i hi) (inn i s hi h)
  have mb : ∀ b, Mine sg (restE en en' vs) b → Mine (wipe sg vs) en' b := fun b ⟨i, s, h1, h2, h3⟩ => by
    by_cases hi : i ∈ vs
    · rw [nown i s hi h1] at h2; cases h2
    · exact ⟨i, s, by rw [← out i hi]; exact h1, h2, by rw [(wipe_get sg vs i).1 hi]; exact h3⟩
  refine ⟨⟨a.rel.sub, fun i s h => ?_, fun i j s t b h1 h2 h3 h4 h5 h6 => ?_, a.rel.tab⟩, a.zz, fun b o h => ?_, fun b o h m t => a.keep b o (hk b o h) (fun q => m (mine_wipe q)) t, fun b h => ?_, fun i d h => ?_⟩
  · by_cases hi : i ∈ vs
    · have e := inn i s hi h
      obtain ⟨v, hv, q⟩ := r.sl i s e
      refine ⟨v, hv, ?_⟩
      have no := nown i s hi h
      cases s with
      | no => trivial
      | sh d => obtain ⟨x, e, q⟩ := q; exact ⟨x, e, dp_mono a.zz q⟩
      | ow d => cases no
      | io d => cases no
    · obtain ⟨v, hv, q⟩ := a.rel.sl i s (by rw [← out i hi]; exact h)
      exact ⟨v, by rw [← (wipe_get sg vs i).1 hi]; exact hv, q⟩
  · by_cases hi : i ∈ vs
    · rw [nown i s hi h1] at h3; cases h3
    · by_cases hj : j ∈ vs
      · rw [nown j t hj h2] at h4; cases h4
      · exact a.rel.dis i j s t b (by rw [← out i hi]; exact h1) (by rw [← out j hj]; exact h2) h3 h4 (by rw [(wipe_get sg vs i).1 hi]; exact h5) (by rw [(wipe_get sg vs j).1 hj]; exact h6)
  · rcases a.new b o h with q | q | q
    · exact .inl q
    · exact .inr (.inl (hn b q))
    · exact .inr (.inr (mine_wipe q))
  · rcases a.own b (mb b h) with q | q
    · exact .inl (mine_wipe q)
    · exact .inr (hn b q)
  · have hi : i ∉ vs := fun q => by
      have z := plain_own (pl i q) h
      cases z
    obtain ⟨⟨d', h1⟩, h2⟩ := a.io i d (by rw [(wipeE_get en vs i).1 hi]; exact h)
    exact ⟨⟨d', by rw [out i hi]; exact h1⟩, rfl⟩
end

/-- no error leaves it -/
def nox {α : Type} (m : M α) : M α := fun en => match m en with
  | .ok a en' => .ok a en'
  | _ => .bad
def blk {α : Type} (vs : List Nat) (m : M α) : M α := fun en => if wipeable en vs = true then (match m (wipeE en vs) with
  | .ok a en' => .ok a (restE en en' vs)
  | _ => .bad) else .bad
def wp (vs : List Nat) : M Unit := fun en => if wipeable en vs = true then .ok () (wipeE en vs) else .bad
def compL (vs : List Nat) (f : TgF) (t : M Bool) (e : M PyData) : List PyData → M (List PyData)
  | [] => ret []
  | d :: ds => bnd (f d) fun fl => match fl with
    | .nx => bnd t fun b => if b = true then bnd e (fun y => bnd (wp vs) fun _ => bnd (compL vs f t e ds) fun ys => ret (y :: ys)) else bnd (wp vs) fun _ => compL vs f t e ds
    | _ => fail
/-- one turn -/
def stepC (vs : List Nat) (f : TgF) (t : M Bool) (e : M PyData) (d : PyData) : M (Option PyData) := bnd (f d) fun fl => match fl with
  | .nx => bnd t fun b => if b = true then bnd e (fun y => bnd (wp vs) fun _ => ret (some y)) else bnd (wp vs) fun _ => ret none
  | _ => fail
theorem compL_cons (vs : List Nat) (f : TgF) (t : M Bool) (e : M PyData) (d : PyData) (ds : List PyData) (en : En) :
    compL vs f t e (d :: ds) en = bnd (stepC vs f t e d) (fun oy => bnd (compL vs f t e ds) fun ys => ret (oy.toList ++ ys)) en := by
  rw [compL]
  unfold stepC bnd
  cases f d en with
  | bad => rfl
  | err c e2 => rfl
  | ok fl e2 =>
    cases fl with
    | nx =>
      dsimp only
      cases t e2 with
      | bad => rfl
      | err c e3 => rfl
      | ok b e3 =>
        cases b with
        | true =>
          simp only [if_true]
          cases e e3 with
          | bad => rfl
          | err c e4 => rfl
          | ok y e4 =>
            dsimp only
            cases wp vs e4 with
            | bad => rfl
            | err c e5 => rfl
            | ok u e5 =>
              dsimp only [ret]
              cases compL vs f t e ds e5 with
              | bad => rfl
              | err c e6 => rfl
              | ok ys e6 => rfl
        | false =>
          simp only [Bool.false_eq_true, if_false]
          cases wp vs e3 with
          | bad => rfl
          | err c e5 => rfl
          | ok u e5 =>
            dsimp only [ret]
            cases compL vs f t e ds e5 with
            | bad => rfl
            | err c e6 => rfl
            | ok ys e6 => rfl
    | rt x => rfl
    | bk => rfl
    | ct => rfl
def Cont (r full : Res (List PyData)) (dn : List PyData) : Prop := match r with
  | .ok ys en' => full = .ok (dn ++ ys) en'
  | _ => False
/-- [e for f in m if t] -/
def mcomp (vs : List Nat) (m : M (List PyData)) (f : TgF) (t : M Bool) (e : M PyData) : M Vl := bnd m fun ds => if ds.length ≤ 1000000 then bnd (blk vs (compL vs f t e ds)) (fun ys => ret (.ow (.list ys))) else fail
def mtrue : M Bool := ret true
def tTs (k : Kx) (E : Wish) (m : M Bool) : TT := tT k E m
abbrev GTs (T : List Addr) (E : Wish) (X : Cx) (es : List Expr) (m : M Bool) : Prop := PTs X es (tT ⟨X.K, T⟩ E m)
theorem gts_nil {T : List Addr} {E : Wish} {X : Cx} : GTs T E X [] mtrue := ⟨fun pins s sg H Q I ⟨en, Z, r, q⟩ => (pts_nil (X := X)).run pins s sg H Q I (post_ret (a := true) r q)⟩
theorem gts_one {T : List Addr} {E : Wish} {X : Cx} {c : Expr} {m : M Bool} (h : GT T E X c m) : GTs T E X [c] m := pts_one h

section
variable {k : Kx} {E : Wish} {sg : L2.St} {H H' Z Z' : Hp} {en en' : En} {vs : List Nat} {α β : Type}
theorem postsW {m : M α} {P : α → En → L2.St → Hp → Hp → Prop} (h : PostS k W0 sg H Z en (m en) P) : PostS k E sg H Z en (m en) P := by
  cases q : m en with
  | ok a e => rw [q] at h; exact h
  | err c e => rw [q] at h; exact fun sg' H' Z' a => (h sg' H' Z' a).elim
  | bad => rw [q] at h; exact h
/-- the names of the block are forgotten again -/
theorem wp_ok {P : Unit → En → L2.St → Hp → Hp → Prop} (r : Rel k sg H Z en) (h : PostS k E sg H Z en (wp vs en) P) : wipeable en vs = true ∧ P () (wipeE en vs) (wipe sg vs) H Z := by
  unfold wp at h
  by_cases hw : wipeable en vs = true
  · rw [if_pos hw] at h
    exact ⟨hw, h _ _ _ (aft_wipe r hw)⟩
  · rw [if_neg hw] at h
    exact h.elim
end

section
variable {T : List Addr} {E : Wish} {X : Cx} {elt tg iter : Expr} {ifs : List Expr} {scope : Scope} {pos : Pos}
theorem pos_lt {n m : Nat} (h : n ≤ m) (h2 : m < 1000000) : n < sizeLine := by rw [sizeLine_eq]; omega
theorem tLc_ok {own : List (Str × Nat)} {m : M (List PyData)} {f : TgF} {t : M Bool} {e : M PyData} {L : List Nat} (hL : ∀ i ∈ L, i ∈ own.map (·.2)) {sg : L2.St} {H : Hp} {Q : VK}
    (h : tV ⟨X.K, T⟩ E (mcomp (own.map (·.2)) m f t e) sg H Q) :
    tLc (tI ⟨X.K, T⟩ E m) (tG ⟨X.K, T⟩ W0 L f) (tT ⟨X.K, T⟩ W0 t) (tD ⟨X.K, T⟩ W0 e) (own.map (·.2)) sg H Q := by
  generalize hvs : own.map (·.2) = vs at h hL ⊢
  obtain ⟨en, Z, r, q⟩ := h
  refine ⟨en, Z, r, post_mono (post_bnd r q) fun ds en1 H1 Z1 _ ⟨a1, q1⟩ J hJ => ?_⟩
  by_cases hlen : ds.length ≤ 1000000
  · rw [if_pos hlen] at q1
    intro D hD
    unfold bnd blk at q1
    by_cases hw : wipeable en1 vs = true
    · rw [if_pos hw] at q1
      have aD : Aft ⟨X.K, T⟩ sg H1 Z1 en1 sg (upd H1 D (.lst [])) Z1 en1 := aft_new a1.rel hD
      have r0 : Rel ⟨X.K, T⟩ (wipe sg vs) (upd H1 D (.lst [])) Z1 (wipeE en1 vs) := rel_wipe aD.rel
      have hkD : ∀ a o, H1 a = some o → upd H1 D (.lst []) a = some o := fun a o h => by rw [upd_ne (ne_of_none h hD)]; exact h
      have hnD : ∀ a, upd H1 D (.lst []) a = none → H1 a = none := fun a h => by
        by_cases e : a = D
        · rw [e, upd_same] at h; cases h
        · rw [upd_ne e] at h; exact h
      have nD : ¬ Mine (wipe sg vs) (wipeE en1 vs) D := fun q => by
        obtain ⟨o, ho, _⟩ := mine_there a1.rel (mine_wipe q)
        rw [hD] at ho; cases ho
      have tD' : D ∉ T := fun q => by
        obtain ⟨⟨ps, hp, _⟩, _⟩ := a1.rel.tab D q
        rw [hD] at hp; cases hp
      -- the end
      have fin : ∀ (ys : List PyData) (en' : En) (H' Z' : Hp) (acc : List V), compL vs f t e ds (wipeE en1 vs) = .ok ys en' → Aft ⟨X.K, T⟩ (wipe sg vs) H1 Z1 (wipeE en1 vs) (wipe sg vs) H' Z' en' →
          H' D = some (.lst acc) → Z' D = none → ¬ Mine (wipe sg vs) en' D → DpAll X.K Z' acc ys → Q (.ref D) H' := by
        intro ys en' H' Z' acc hc ab hDl hDz hDm hacc
        rw [hc] at q1
        have b := blk_back a1.rel hw (fun _ _ h => h) (fun _ h => h) ab
        refine q1 H' Z' b (.ref D) ⟨D, rfl, hDz, .lst hDl hacc, fun q => ?_, free_back a1 hD⟩
        obtain ⟨i, s, h1, h2, h3⟩ := q
        by_cases hi : i ∈ vs
        · obtain ⟨e, _⟩ := (restE_get en1 en' vs i).2 hi s h1
          have z : isPlain en1[i]? = true := List.all_eq_true.mp hw i hi
          cases q0 : en1[i]? with
          | none => rw [q0] at z; cases z
          | some s0 =>
            rw [q0] at e
            have e : s = s0 := e
            have no := plain_own z q0
            rw [← e, h2] at no; cases no
        · exact hDm ⟨i, s, by rw [← (restE_get en1 en' vs i).1 hi]; exact h1, h2, by rw [(wipe_get sg vs i).1 hi]; exact h3⟩
      -- what stands between two turns
      have nb : compL vs f t e ds (wipeE en1 vs) = compL vs f t e ds (wipeE en1 vs) := rfl
      refine ⟨fun i m' H2 => m' = ds.length - i ∧ i ≤ ds.length ∧ ∃ en2 Z2 acc dn, Rel ⟨X.K, T⟩ (wipe sg vs) H2 Z2 en2 ∧ H2 D = some (.lst acc) ∧ Z2 D = none ∧ ¬ Mine (wipe sg vs) en2 D ∧ DpAll X.K Z2 acc dn ∧ dn.length ≤ i ∧
          (∀ a o, Z1 a = some o → Z2 a = some o) ∧ Aft ⟨X.K, T⟩ (wipe sg vs) H1 Z1 (wipeE en1 vs) (wipe sg vs) H2 Z2 en2 ∧
          Cont (compL vs f t e (ds.drop i) en2) (compL vs f t e ds (wipeE en1 vs)) dn, ⟨ds.length, by simp, Nat.zero_le _, wipeE en1 vs, Z1, [], [], r0, upd_same, aD.rel.sub D |> fun _ => (a1.rel.free hD), nD, .nil, Nat.le_refl _, fun _ _ h => h, aft_new (rel_wipe a1.rel) hD, ?_⟩, ?_⟩
      · rw [List.drop_zero]
        cases hc : compL vs f t e ds (wipeE en1 vs) with
        | ok ys en' => rfl
        | err c en' => rw [hc] at q1; exact q1
        | bad => rw [hc] at q1; exact q1
      · rintro i m' H2 ⟨rfl, hi', en2, Z2, acc, dn, r2, hDl, hDz, hDm, hacc, hdn, hz, a2, q2⟩
        by_cases hlt : i < ds.length
        · have hd : ds[i]? = some ds[i] := List.getElem?_eq_getElem hlt
          obtain ⟨hgo, hy⟩ := hJ.go (wipe sg vs) H2 Z2 en2 i _ r2 hz hd
          refine .inr ⟨hgo, fun H3 => ds.length - (i + 1) = ds.length - (i + 1) ∧ i + 1 ≤ ds.length ∧ ∃ en3 Z3 acc3 dn3, Rel ⟨X.K, T⟩ (wipe sg vs) H3 Z3 en3 ∧ H3 D = some (.lst acc3) ∧ Z3 D = none ∧ ¬ Mine (wipe sg vs) en3 D ∧ DpAll X.K Z3 acc3 dn3 ∧ dn3.length ≤ i + 1 ∧
            (∀ a o, Z1 a = some o → Z3 a = some o) ∧ Aft ⟨X.K, T⟩ (wipe sg vs) H1 Z1 (wipeE en1 vs) (wipe sg vs) H3 Z3 en3 ∧
            Cont (compL vs f t e (ds.drop (i + 1)) en3) (compL vs f t e ds (wipeE en1 vs)) dn3, fun H3 h => ⟨_, by omega, h⟩, fun x H3 hx => ?_⟩
          obtain ⟨Z3, a3, hdp⟩ := hy x H3 hx
          rw [List.drop_eq_getElem_cons hlt] at q2
          -- the turn as a reckoning
          rw [compL_cons] at q2
          have hall : PostS ⟨X.K, T⟩ W0 (wipe sg vs) H3 Z3 en2 (stepC vs f t e ds[i] en2) fun oy en' sg' H' Z' => Cont (compL vs f t e (ds.drop (i + 1)) en') (compL vs f t e ds (wipeE en1 vs)) (dn ++ oy.toList) := by
            unfold bnd at q2
            cases hst : stepC vs f t e ds[i] en2 with
            | bad => rw [hst] at q2; exact q2
            | err c e5 => rw [hst] at q2; exact q2.elim
            | ok oy e5 =>
              rw [hst] at q2
              dsimp only at q2
              intro sg' H' Z' _
              cases hc : compL vs f t e (ds.drop (i + 1)) e5 with
              | bad => rw [hc] at q2; exact q2
              | err c e6 => rw [hc] at q2; exact q2
              | ok ys e6 =>
                rw [hc] at q2
                have q2 : _ = Res.ok (dn ++ (oy.toList ++ ys)) e6 := q2
                show _ = Res.ok ((dn ++ oy.toList) ++ ys) e6
                rw [List.append_assoc]
                exact q2
          unfold stepC at hall
          refine ⟨en2, Z3, _, a3.rel, hdp, posts_mono (posts_bnd a3.rel hall) fun fl en4 sg4 H4 Z4 _ ⟨a4, q4⟩ he o4 => ?_⟩
          subst he
          refine ⟨(only_wipe o4 hL).trans wipe_wipe, en4, Z4, a4.rel, post_mono (posts_post (posts_bnd a4.rel q4)) fun b en5 H5 Z5 _ ⟨a5, q5⟩ => ?_⟩
          have hw4 : wipe sg4 vs = wipe sg vs := (only_wipe o4 hL).trans wipe_wipe
          have kD : ∀ {sgx : L2.St} {Hx Zx : Hp} {enx : En}, Aft ⟨X.K, T⟩ (wipe sg vs) H2 Z2 en2 sgx Hx Zx enx → Hx D = some (.lst acc) ∧ Zx D = none ∧ ¬ Mine sgx enx D := fun {sgx Hx Zx enx} ax => by
            refine ⟨ax.keep D _ hDl hDm tD', ?_, fun mq => ?_⟩
            · cases hzx : Zx D with
              | none => rfl
              | some o =>
                rcases ax.new D o hzx with z | z | z
                · rw [hDz] at z; cases z
                · rw [hDl] at z; cases z
                · exact (hDm z).elim
            · rcases ax.own D mq with z | z
              · exact hDm z
              · rw [hDl] at z; cases z
          cases b with
          | false =>
            have q5 : PostS ⟨X.K, T⟩ W0 sg4 H5 Z5 en5 (bnd (wp vs) (fun _ => ret none) en5) _ := q5
            obtain ⟨hw5, a6, q6⟩ := wp_ok a5.rel (posts_bnd a5.rel q5)
            rw [hw4] at a6 q6
            have hc := posts_ret (a := (none : Option PyData)) a6.rel q6
            rw [show (none : Option PyData).toList = [] from rfl, List.append_nil] at hc
            have aX := ((a3.trans a4 r2).trans a5 r2).trans a6 r2
            obtain ⟨d1, d2, d3⟩ := kD aX
            dsimp only
            rw [if_neg Bool.false_ne_true]
            refine ⟨rfl, hlt, wipeE en5 vs, Z5, acc, dn, a6.rel, d1, d2, d3, dpAll_mono aX.zz hacc, Nat.le_succ_of_le hdn, fun a o h => aX.zz a o (hz a o h), a2.trans aX (rel_wipe a1.rel), ?_⟩
            exact hc
          | true =>
            have q5 : PostS ⟨X.K, T⟩ W0 sg4 H5 Z5 en5 (bnd e (fun y => bnd (wp vs) fun _ => ret (some y)) en5) _ := q5
            dsimp only
            rw [if_pos rfl]
            refine ⟨en5, Z5, a5.rel, post_mono (posts_post (posts_bnd a5.rel q5)) fun y en6 H6 Z6 _ ⟨a6, q6⟩ v hv => ?_⟩
            obtain ⟨hw6, a7, q7⟩ := wp_ok a6.rel (posts_bnd a6.rel q6)
            rw [hw4] at a7 q7
            have hc := posts_ret (a := some y) a7.rel q7
            have aX := (((a3.trans a4 r2).trans a5 r2).trans a6 r2).trans a7 r2
            obtain ⟨d1, d2, d3⟩ := kD aX
            have al : acc.length = dn.length := dpa_length hacc
            have a27 := a2.trans aX (rel_wipe a1.rel)
            have r7 := a7.rel
            have up : ∀ a o, a ≠ D → H6 a = some o → upd H6 D (.lst (acc ++ [v])) a = some o := fun a o h e => by rw [upd_ne h]; exact e
            have r8 : Rel ⟨X.K, T⟩ (wipe sg vs) (upd H6 D (.lst (acc ++ [v]))) Z6 (wipeE en6 vs) := by
              refine ⟨fun a o h => up a o (fun z => by rw [z, d2] at h; cases h) (r7.sub a o h), fun j s h => ?_, r7.dis, fun P hP => ?_⟩
              · obtain ⟨w, hw, q⟩ := r7.sl j s h
                refine ⟨w, hw, ?_⟩
                have nb : ∀ b, isOwn s = true → w = some (.ref b) → b ≠ D := fun b ho hwb z => d3 ⟨j, s, h, ho, by rw [hw, hwb, z]⟩
                cases s with
                | no => trivial
                | sh d => exact q
                | ow d => obtain ⟨b, e1, h1, h2⟩ := q; exact ⟨b, e1, h1, h2.mono (fun o z => up b o (nb b rfl e1) z) fun _ _ z => z⟩
                | io d => obtain ⟨b, e1, h1, h2⟩ := q; exact ⟨b, e1, h1, h2.mono (fun o z => up b o (nb b rfl e1) z) fun _ _ z => z⟩
              · obtain ⟨⟨ps, h1, h2⟩, h3⟩ := r7.tab P hP
                exact ⟨⟨ps, up P _ (fun z => by rw [z] at hP; exact tD' hP) h1, h2⟩, h3⟩
            refine ⟨acc, d1, pos_lt (m := i) (by omega) (by omega), rfl, hlt, wipeE en6 vs, Z6, acc ++ [v], dn ++ [y], r8, upd_same, d2, d3, dpa_append (dpAll_mono aX.zz hacc) (.cons hv .nil), by rw [List.length_append, List.length_singleton]; omega, fun a o h => aX.zz a o (hz a o h), ?_, ?_⟩
            · exact ⟨r8, a27.zz, a27.new, fun a o h m tt => up a o (fun z => by rw [z, hD] at h; cases h) (a27.keep a o h m tt), a27.own, a27.io⟩
            · exact hc
        · have e : i = ds.length := by omega
          subst e
          rw [List.drop_of_length_le (Nat.le_refl _)] at q2
          refine .inl ⟨hJ.stop _ H2 Z2 en2 r2 hz, fin dn en2 H2 Z2 acc ?_ a2 hDl hDz hDm hacc⟩
          have q2 : _ = Res.ok (dn ++ []) en2 := q2
          rw [List.append_nil] at q2
          exact q2
    · rw [if_neg hw] at q1; exact q1.elim
  · rw [if_neg hlen] at q1; exact q1.elim
end
end ZD

namespace ZD
open PySem PySem.Spec PyProof.Rows L2 GxR ZG

section
variable {T : List Addr} {E : Wish} {X : Cx} {elt tg iter : Expr} {ifs : List Expr} {scope : Scope} {pos : Pos} {own : List (Str × Nat)} {m : M (List PyData)} {f : TgF} {t : M Bool} {e : M PyData} {L : List Nat}
theorem ge_lc (hL : L = own.map (·.2)) (hc : X.calm = true) (hN : X.N.Nodup) (hi : GI T E X tg iter m) (ok : BlkOk X.N X.env.scope scope own)
    (hg : ∀ (s : Shared) (H : Hp) (C : Addr) (cl : List (Str × Addr)) (fp : List Addr), GG T W0 (X.blk s H scope (compEnvC scope cl C X.env) fp) L tg f)
    (ht : ∀ (s : Shared) (H : Hp) (C : Addr) (cl : List (Str × Addr)) (fp : List Addr), GTs T W0 (X.blk s H scope (compEnvC scope cl C X.env) fp) ifs t)
    (he : ∀ (s : Shared) (H : Hp) (C : Addr) (cl : List (Str × Addr)) (fp : List Addr), GD T W0 (X.blk s H scope (compEnvC scope cl C X.env) fp) elt e) (hs : ∀ x, foldedSetIterable iter X.env x = pure x := by intro _; rfl) :
    GE T E X (.ListComp elt [⟨tg, iter, ifs, 0⟩] scope pos) (mcomp L m f t e) := by
  subst hL
  exact pe_imp (pe_lc hc hN hi ok hg ht he hs) fun sg H Q h => tLc_ok (fun i h => h) h
theorem tS_asgN {k : Kx} {i : Nat} {mv : M Vl} {D : Ends} {sg : L2.St} {H : Hp} (h : tS k E (asgN i mv) D sg H) : tV k E mv sg H fun v H1 => D.nx (sg.set i (some v)) H1 := by
  obtain ⟨en, Z, r, q⟩ := h
  refine ⟨en, Z, r, ?_⟩
  unfold asgN bnd at q
  cases hm : mv en with
  | ok x en1 =>
    rw [hm] at q
    intro H1 Z1 a1 v hv
    exact masg_ok a1 hv q
  | err c en1 => rw [hm] at q; exact fun H1 Z1 a1 => q sg H1 Z1 a1
  | bad => rw [hm] at q; exact q
theorem gs_setLc {i : Nat} {y : Str} {py spos : Pos} (hL : L = own.map (·.2)) (hc : X.calm = true) (hN : X.N.Nodup) (hy : X.N[i]? = some y) (hyl : X.env.scope.names.lookup y = some .local)
    (hsw : swapsWith (.ListComp elt [⟨tg, iter, ifs, 0⟩] scope pos) (some (.Name y py)) spos.line X.env = pure true) (hi : GI T E X tg iter m) (ok : BlkOk X.N X.env.scope scope own)
    (hg : ∀ (s : Shared) (H : Hp) (C : Addr) (cl : List (Str × Addr)) (fp : List Addr), GG T W0 (X.blk s H scope (compEnvC scope cl C X.env) fp) L tg f)
    (ht : ∀ (s : Shared) (H : Hp) (C : Addr) (cl : List (Str × Addr)) (fp : List Addr), GTs T W0 (X.blk s H scope (compEnvC scope cl C X.env) fp) ifs t)
    (he : ∀ (s : Shared) (H : Hp) (C : Addr) (cl : List (Str × Addr)) (fp : List Addr), GD T W0 (X.blk s H scope (compEnvC scope cl C X.env) fp) elt e) (hs : ∀ x, foldedSetIterable iter X.env x = pure x := by intro _; rfl) :
    GS T E X (.Assign [.Name y py] (.ListComp elt [⟨tg, iter, ifs, 0⟩] scope pos) spos) (asgN i (mcomp L m f t e)) := by
  subst hL
  exact ps_imp (ps_setLc hc hN hy hyl hsw hi ok hg ht he hs) fun D sg H h => tLc_ok (fun i h => h) (tS_asgN h)
end

/-! ### all, any of a generator expression -/
def allL (vs : List Nat) (f : TgF) (t : M Bool) (e : M PyData) : List PyData → M Bool
  | [] => ret true
  | d :: ds => bnd (stepC vs f t e d) fun oy => match oy with
    | none => allL vs f t e ds
    | some (.bool true) => allL vs f t e ds
    | some (.bool false) => ret false
    | _ => fail
def anyL (vs : List Nat) (f : TgF) (t : M Bool) (e : M PyData) : List PyData → M Bool
  | [] => ret false
  | d :: ds => bnd (stepC vs f t e d) fun oy => match oy with
    | none => anyL vs f t e ds
    | some (.bool false) => anyL vs f t e ds
    | some (.bool true) => ret true
    | _ => fail
def mall (vs : List Nat) (m : M (List PyData)) (f : TgF) (t : M Bool) (e : M PyData) : M PyData := bnd m fun ds => bnd (blk vs (allL vs f t e ds)) fun b => ret (.bool b)
def many (vs : List Nat) (m : M (List PyData)) (f : TgF) (t : M Bool) (e : M PyData) : M PyData := bnd m fun ds => bnd (blk vs (anyL vs f t e ds)) fun b => ret (.bool b)

theorem aft_tab {k : Kx} {sg : L2.St} {H H2 Z : Hp} {en : En} {P : Addr} (r : Rel k sg H Z en) (hP : P ∈ k.T) (h : Tabbed P H H2) : Aft k sg H Z en sg H2 Z en := by
  obtain ⟨hg, hb⟩ := h
  have zP : Z P = none := (r.tab P hP).2
  have up : ∀ a o, a ∉ k.T → H a = some o → H2 a = some o := fun a o n e => by rw [hb a (fun z => n (z ▸ hP))]; exact e
  refine ⟨⟨fun a o e => ?_, fun i s e => ?_, r.dis, fun P' hP' => ?_⟩, fun _ _ e => e, fun _ _ e => .inl e, fun a o e _ n => up a o n e, fun _ m => .inl m, fun i d e => ⟨⟨d, e⟩, rfl⟩⟩
  · rw [hb a (fun z => by rw [z, zP] at e; cases e)]; exact r.sub a o e
  · obtain ⟨v, hv, q⟩ := r.sl i s e
    refine ⟨v, hv, ?_⟩
    have go : ∀ a d, isOwn s = true → v = some (.ref a) → Own k.K H Z a d → Own k.K H2 Z a d := fun a d ho ha hd => by
      obtain ⟨_, _, n⟩ := mine_there r ⟨i, s, e, ho, by rw [hv, ha]⟩
      exact hd.mono (fun o => up a o n) fun _ _ z => z
    cases s with
    | no => trivial
    | sh d => exact q
    | ow d => obtain ⟨a, e1, h1, h2⟩ := q; exact ⟨a, e1, h1, go a d rfl e1 h2⟩
    | io d => obtain ⟨a, e1, h1, h2⟩ := q; exact ⟨a, e1, h1, go a d rfl e1 h2⟩
  · by_cases e : P' = P
    · rw [e]; exact ⟨hg, zP⟩
    · obtain ⟨⟨ps, h1, h2⟩, h3⟩ := r.tab P' hP'
      exact ⟨⟨ps, by rw [hb P' e]; exact h1, h2⟩, h3⟩

section
variable {T : List Addr} {E : Wish} {X : Cx} {elt tg iter : Expr} {ifs : List Expr} {scope : Scope} {own : List (Str × Nat)} {m : M (List PyData)} {f : TgF} {t : M Bool} {e : M PyData} {L : List Nat} {P : Addr}
/-- the two results of a turn, for all and any: go on (true), or end -/
theorem tGen_ok {vs : List Nat} (b0 : Bool) {lp : List PyData → M Bool} (h0 : lp [] = ret b0)
    (hl : ∀ d ds, lp (d :: ds) = bnd (stepC vs f t e d) fun oy => match oy with
      | none => lp ds
      | some (.bool b) => if b = b0 then lp ds else ret (!b0)
      | _ => fail)
    (hL : ∀ i ∈ L, i ∈ vs) (hP : P ∈ T) {sg : L2.St} {H : Hp} {Q : VK}
    (h : tD ⟨X.K, T⟩ E (bnd m fun ds => bnd (blk vs (lp ds)) fun b => ret (.bool b)) sg H Q) :
    tGen P (tI ⟨X.K, T⟩ E m) (tG ⟨X.K, T⟩ W0 L f) (tT ⟨X.K, T⟩ W0 t) (tD ⟨X.K, T⟩ W0 e) vs (fun y H Nx => ∃ b : Bool, y = .bl b ∧ if b = b0 then Nx H else Q (.bl (!b0)) H) (fun H => Q (.bl b0) H) sg H := by
  obtain ⟨en, Z, r, q⟩ := h
  refine ⟨en, Z, r, post_mono (post_bnd r q) fun ds en1 H1 Z1 _ ⟨a1, q1⟩ J hJ => ⟨(a1.rel.tab P hP).1, fun Ht htb => ?_⟩⟩
  have at1 := aft_tab a1.rel hP htb
  unfold bnd blk at q1
  by_cases hw : wipeable en1 vs = true
  · rw [if_pos hw] at q1
    have r0 : Rel ⟨X.K, T⟩ (wipe sg vs) H1 Z1 (wipeE en1 vs) := rel_wipe a1.rel
    have r0t : Rel ⟨X.K, T⟩ (wipe sg vs) Ht Z1 (wipeE en1 vs) := rel_wipe at1.rel
    have fin : ∀ (b : Bool) (en' : En) (H' Z' : Hp), lp ds (wipeE en1 vs) = .ok b en' → Aft ⟨X.K, T⟩ (wipe sg vs) Ht Z1 (wipeE en1 vs) (wipe sg vs) H' Z' en' → Q (.bl b) H' := by
      intro b en' H' Z' hc ab
      rw [hc] at q1
      have b' := blk_back at1.rel hw (fun _ _ h => h) (fun _ h => h) ab
      exact q1 H' Z' (at1.trans b' a1.rel) (.bl b) (.bl b)
    refine ⟨fun i m' H2 => m' = ds.length - i ∧ i ≤ ds.length ∧ ∃ en2 Z2, Rel ⟨X.K, T⟩ (wipe sg vs) H2 Z2 en2 ∧ (∀ a o, Z1 a = some o → Z2 a = some o) ∧ Aft ⟨X.K, T⟩ (wipe sg vs) Ht Z1 (wipeE en1 vs) (wipe sg vs) H2 Z2 en2 ∧
      lp ds (wipeE en1 vs) = lp (ds.drop i) en2 ∧ (∃ b en', lp (ds.drop i) en2 = .ok b en'), ⟨ds.length, by simp, Nat.zero_le _, wipeE en1 vs, Z1, r0t, fun _ _ h => h, Aft.refl r0t, rfl, ?_⟩, ?_⟩
    · rw [List.drop_zero]
      cases hc : lp ds (wipeE en1 vs) with
      | ok b en' => exact ⟨b, en', rfl⟩
      | err c en' => rw [hc] at q1; exact q1.elim
      | bad => rw [hc] at q1; exact q1.elim
    · rintro i m' H2 ⟨rfl, hi', en2, Z2, r2, hz, a2, hfull, b9, en9, hok⟩
      by_cases hlt : i < ds.length
      · have hd : ds[i]? = some ds[i] := List.getElem?_eq_getElem hlt
        obtain ⟨hgo, hy⟩ := hJ.go (wipe sg vs) H2 Z2 en2 i _ r2 hz hd
        refine .inr ⟨hgo, fun H3 => ds.length - (i + 1) = ds.length - (i + 1) ∧ i + 1 ≤ ds.length ∧ ∃ en3 Z3, Rel ⟨X.K, T⟩ (wipe sg vs) H3 Z3 en3 ∧ (∀ a o, Z1 a = some o → Z3 a = some o) ∧ Aft ⟨X.K, T⟩ (wipe sg vs) Ht Z1 (wipeE en1 vs) (wipe sg vs) H3 Z3 en3 ∧
          lp ds (wipeE en1 vs) = lp (ds.drop (i + 1)) en3 ∧ (∃ b en', lp (ds.drop (i + 1)) en3 = .ok b en'), fun H3 h => ⟨_, by omega, h⟩, fun x H3 hx => ?_⟩
        obtain ⟨Z3, a3, hdp⟩ := hy x H3 hx
        rw [List.drop_eq_getElem_cons hlt, hl] at hfull hok
        have hall : PostS ⟨X.K, T⟩ W0 (wipe sg vs) H3 Z3 en2 (stepC vs f t e ds[i] en2) fun oy en' sg' H' Z' => match oy with
            | none => lp ds (wipeE en1 vs) = lp (ds.drop (i + 1)) en' ∧ (∃ b en9, lp (ds.drop (i + 1)) en' = .ok b en9)
            | some (.bool b) => if b = b0 then (lp ds (wipeE en1 vs) = lp (ds.drop (i + 1)) en' ∧ (∃ b en9, lp (ds.drop (i + 1)) en' = .ok b en9)) else lp ds (wipeE en1 vs) = .ok (!b0) en'
            | _ => False := by
          unfold bnd at hfull hok
          cases hst : stepC vs f t e ds[i] en2 with
          | bad => rw [hst] at hok; cases hok
          | err c e5 => rw [hst] at hok; cases hok
          | ok oy e5 =>
            rw [hst] at hfull hok
            intro sg' H' Z' _
            cases oy with
            | none => exact ⟨hfull, b9, en9, hok⟩
            | some y =>
              cases y with
              | bool b =>
                by_cases hb : b = b0
                · simp only [hb, if_true] at hfull hok ⊢
                  exact ⟨hfull, b9, en9, hok⟩
                · simp only [hb, if_false] at hfull hok ⊢
                  exact hfull
              | _ => cases hok
        unfold stepC at hall
        refine ⟨en2, Z3, _, a3.rel, hdp, posts_mono (posts_bnd a3.rel hall) fun fl en4 sg4 H4 Z4 _ ⟨a4, q4⟩ he o4 => ?_⟩
        subst he
        have hw4 : wipe sg4 vs = wipe sg vs := (only_wipe o4 hL).trans wipe_wipe
        refine ⟨hw4, en4, Z4, a4.rel, post_mono (posts_post (posts_bnd a4.rel q4)) fun b en5 H5 Z5 _ ⟨a5, q5⟩ => ?_⟩
        cases b with
        | false =>
          have q5 : PostS ⟨X.K, T⟩ W0 sg4 H5 Z5 en5 (bnd (wp vs) (fun _ => ret none) en5) _ := q5
          obtain ⟨hw5, a6, q6⟩ := wp_ok a5.rel (posts_bnd a5.rel q5)
          rw [hw4] at a6 q6
          obtain ⟨hc1, hc2⟩ := posts_ret (a := (none : Option PyData)) a6.rel q6
          have aX := ((a3.trans a4 r2).trans a5 r2).trans a6 r2
          dsimp only
          rw [if_neg Bool.false_ne_true]
          exact ⟨rfl, hlt, wipeE en5 vs, Z5, a6.rel, fun a o h => aX.zz a o (hz a o h), a2.trans aX r0t, hc1, hc2⟩
        | true =>
          have q5 : PostS ⟨X.K, T⟩ W0 sg4 H5 Z5 en5 (bnd e (fun y => bnd (wp vs) fun _ => ret (some y)) en5) _ := q5
          dsimp only
          rw [if_pos rfl]
          refine ⟨en5, Z5, a5.rel, post_mono (posts_post (posts_bnd a5.rel q5)) fun y en6 H6 Z6 _ ⟨a6, q6⟩ v hv => ?_⟩
          obtain ⟨hw6, a7, q7⟩ := wp_ok a6.rel (posts_bnd a6.rel q6)
          rw [hw4] at a7 q7
          have hc := posts_ret (a := some y) a7.rel q7
          have aX := (((a3.trans a4 r2).trans a5 r2).trans a6 r2).trans a7 r2
          cases y with
          | bool b =>
            cases hv
            refine ⟨b, rfl, ?_⟩
            by_cases hb : b = b0
            · simp only [hb, if_true] at hc ⊢
              exact ⟨trivial, hlt, wipeE en6 vs, Z6, a7.rel, fun a o h => aX.zz a o (hz a o h), a2.trans aX r0t, hc.1, hc.2⟩
            · simp only [hb, if_false] at hc ⊢
              exact fin (!b0) _ H6 Z6 hc (a2.trans aX r0t)
          | _ => exact hc.elim
      · have e : i = ds.length := by omega
        subst e
        rw [List.drop_of_length_le (Nat.le_refl _), h0] at hfull
        exact .inl ⟨hJ.stop _ H2 Z2 en2 r2 hz, fin b0 en2 H2 Z2 hfull a2⟩
  · rw [if_neg hw] at q1; exact q1.elim

theorem allL_cons (vs : List Nat) (f : TgF) (t : M Bool) (e : M PyData) (d : PyData) (ds : List PyData) : allL vs f t e (d :: ds) = bnd (stepC vs f t e d) fun oy => match oy with
      | none => allL vs f t e ds
      | some (.bool b) => if b = true then allL vs f t e ds else ret (!true)
      | _ => fail := by
  rw [allL]
  congr 1
  funext oy
  cases oy with
  | none => rfl
  | some y =>
    cases y with
    | bool b => cases b <;> rfl
    | _ => rfl
theorem anyL_cons (vs : List Nat) (f : TgF) (t : M Bool) (e : M PyData) (d : PyData) (ds : List PyData) : anyL vs f t e (d :: ds) = bnd (stepC vs f t e d) fun oy => match oy with
      | none => anyL vs f t e ds
      | some (.bool b) => if b = false then anyL vs f t e ds else ret (!false)
      | _ => fail := by
  rw [anyL]
  congr 1
  funext oy
  cases oy with
  | none => rfl
  | some y =>
    cases y with
    | bool b => cases b <;> rfl
    | _ => rfl
variable {k : Nat} {c : Addr} {p pos gpos : Pos}
theorem gd_all (hL : L = own.map (·.2)) (hP : P ∈ T) (hr : Room (k + 2) X.A) (hN : X.N.Nodup) (hc : X.calm = true) (hgl : Gl X "all") (hm : X.mg "all" = none) (TB : TabB X.base X.mg c P) (hcode : X.env.code = .ref c)
    (hco : scope.isCoroutine = false) (h0 : scope.names.lookup (".0" : Str) = some NameKind.local) (ok : BlkOk X.N X.env.scope scope own) (hi : GI T E X tg iter m)
    (hg : ∀ (A : Around) (s : Shared) (H : Hp) (L' : Addr) (code : Value) (fp : List Addr), Room k A → GG T W0 (gcx X A s H scope (gxEnv X scope L' code) fp) L tg f)
    (ht : ∀ (A : Around) (s : Shared) (H : Hp) (L' : Addr) (code : Value) (fp : List Addr), Room k A → GTs T W0 (gcx X A s H scope (gxEnv X scope L' code) fp) ifs t)
    (he : ∀ (A : Around) (s : Shared) (H : Hp) (L' : Addr) (code : Value) (fp : List Addr), Room k A → GD T W0 (gcx X A s H scope (gxEnv X scope L' code) fp) elt e)
    (hs : ∀ v, genFold iter X.env v = pure v := by intro _; rfl) (hb : bootBuiltins "all" = some (.builtin "all") := by decide +kernel)
    (hse : starEach [.GeneratorExp elt [⟨tg, iter, ifs, 0⟩] scope gpos] X.env = (false, eval (.GeneratorExp elt [⟨tg, iter, ifs, 0⟩] scope gpos) X.env) :: starEach [] X.env := by rfl) :
    GD T E X (.Call (.Name "all" p) [.GeneratorExp elt [⟨tg, iter, ifs, 0⟩] scope gpos] [] pos) (mall L m f t e) := by
  subst hL
  refine pe_imp (pe_allG (own := own) (wi := tI ⟨X.K, T⟩ E m) (g := tG ⟨X.K, T⟩ W0 (own.map (·.2)) f) (tt := tT ⟨X.K, T⟩ W0 t) (te := tD ⟨X.K, T⟩ W0 e) hr hN hc hgl hm TB hcode hco h0 ok hi hg ht he hs hb hse) fun sg H Q h => ?_
  exact tGen_ok (X := X) true (lp := allL (own.map (·.2)) f t e) rfl (allL_cons _ f t e) (fun i h => h) hP h
theorem gd_any (hL : L = own.map (·.2)) (hP : P ∈ T) (hr : Room (k + 2) X.A) (hN : X.N.Nodup) (hc : X.calm = true) (hgl : Gl X "any") (hm : X.mg "any" = none) (TB : TabB X.base X.mg c P) (hcode : X.env.code = .ref c)
    (hco : scope.isCoroutine = false) (h0 : scope.names.lookup (".0" : Str) = some NameKind.local) (ok : BlkOk X.N X.env.scope scope own) (hi : GI T E X tg iter m)
    (hg : ∀ (A : Around) (s : Shared) (H : Hp) (L' : Addr) (code : Value) (fp : List Addr), Room k A → GG T W0 (gcx X A s H scope (gxEnv X scope L' code) fp) L tg f)
    (ht : ∀ (A : Around) (s : Shared) (H : Hp) (L' : Addr) (code : Value) (fp : List Addr), Room k A → GTs T W0 (gcx X A s H scope (gxEnv X scope L' code) fp) ifs t)
    (he : ∀ (A : Around) (s : Shared) (H : Hp) (L' : Addr) (code : Value) (fp : List Addr), Room k A → GD T W0 (gcx X A s H scope (gxEnv X scope L' code) fp) elt e)
    (hs : ∀ v, genFold iter X.env v = pure v := by intro _; rfl) (hb : bootBuiltins "any" = some (.builtin "any") := by decide +kernel)
    (hse : starEach [.GeneratorExp elt [⟨tg, iter, ifs, 0⟩] scope gpos] X.env = (false, eval (.GeneratorExp elt [⟨tg, iter, ifs, 0⟩] scope gpos) X.env) :: starEach [] X.env := by rfl) :
    GD T E X (.Call (.Name "any" p) [.GeneratorExp elt [⟨tg, iter, ifs, 0⟩] scope gpos] [] pos) (many L m f t e) := by
  subst hL
  refine pe_imp (pe_anyG (own := own) (wi := tI ⟨X.K, T⟩ E m) (g := tG ⟨X.K, T⟩ W0 (own.map (·.2)) f) (tt := tT ⟨X.K, T⟩ W0 t) (te := tD ⟨X.K, T⟩ W0 e) hr hN hc hgl hm TB hcode hco h0 ok hi hg ht he hs hb hse) fun sg H Q h => ?_
  have z := tGen_ok (X := X) false (lp := anyL (own.map (·.2)) f t e) rfl (anyL_cons _ f t e) (fun i h => h) hP h
  have ec : (fun (y : V) (H : Hp) (Nx : Hp → Prop) => ∃ b : Bool, y = .bl b ∧ if b = false then Nx H else Q (.bl (!false)) H) = cAny fun H => Q (.bl true) H := by
    funext y H Nx
    unfold cAny
    refine propext ⟨fun ⟨b, e, h⟩ => ⟨b, e, ?_⟩, fun ⟨b, e, h⟩ => ⟨b, e, ?_⟩⟩
    · cases b <;> exact h
    · cases b <;> exact h
  rw [ec] at z
  exact z
end
end ZD

namespace ZD
open PySem PySem.Spec PyProof.Rows L2 GxR ZG

/-! ### a def as a function of trees -/
abbrev Fn := List Sl → Res Vl
def run (n : Nat) (m : M Fl) (ps : List Sl) : Res Vl := match m (ps ++ List.replicate (n - ps.length) .no) with
  | .ok (.rt x) en => .ok x en
  | .ok .nx en => .ok (.sh .none) en
  | .ok _ _ => .bad
  | .err c en => .err c en
  | .bad => .bad
def okP : Sl → Bool
  | .sh _ => true
  | .io _ => true
  | _ => false
/-- the parameters behind the call: what is changed here has its new tree -/
def outP : List Sl → En → List Sl
  | .io d :: ps, en => (match en with
      | .io d' :: _ => .io d'
      | _ => .io d) :: outP ps en.tail
  | s :: ps, en => s :: outP ps en.tail
  | [], _ => []
theorem outP_len : ∀ (ps : List Sl) (en : En), (outP ps en).length = ps.length
  | [], _ => rfl
  | .io d :: ps, en => by simp [outP, outP_len ps]
  | .no :: ps, en => by simp [outP, outP_len ps]
  | .sh d :: ps, en => by simp [outP, outP_len ps]
  | .ow d :: ps, en => by simp [outP, outP_len ps]
theorem outP_get : ∀ (ps : List Sl) (en : En) (i : Nat) (s : Sl), (outP ps en)[i]? = some s → ∃ s0, ps[i]? = some s0 ∧ ((∃ d d', s0 = .io d ∧ s = .io d' ∧ (en[i]? = some (.io d') ∨ ∀ d'', en[i]? ≠ some (.io d''))) ∨ ((∀ d, s0 ≠ .io d) ∧ s = s0))
  | [], _, i, s, h => by simp [outP] at h
  | p :: ps, en, 0, s, h => by
    refine ⟨p, rfl, ?_⟩
    cases p with
    | io d =>
      cases en with
      | nil => simp [outP] at h; exact .inl ⟨d, d, rfl, h.symm, .inr fun _ z => by simp at z⟩
      | cons e en =>
        cases e with
        | io d' => simp [outP] at h; exact .inl ⟨d, d', rfl, h.symm, .inl rfl⟩
        | no => simp [outP] at h; exact .inl ⟨d, d, rfl, h.symm, .inr fun _ z => by simp at z⟩
        | sh x => simp [outP] at h; exact .inl ⟨d, d, rfl, h.symm, .inr fun _ z => by simp at z⟩
        | ow x => simp [outP] at h; exact .inl ⟨d, d, rfl, h.symm, .inr fun _ z => by simp at z⟩
    | no => simp [outP] at h; exact .inr ⟨(fun _ z => by cases z), h.symm⟩
    | sh d => simp [outP] at h; exact .inr ⟨(fun _ z => by cases z), h.symm⟩
    | ow d => simp [outP] at h; exact .inr ⟨(fun _ z => by cases z), h.symm⟩
  | p :: ps, en, i + 1, s, h => by
    have h' : (outP ps en.tail)[i]? = some s := by
      cases p <;> simpa [outP] using h
    obtain ⟨s0, h1, h2⟩ := outP_get ps en.tail i s h'
    refine ⟨s0, by simpa using h1, ?_⟩
    have e : en.tail[i]? = en[i + 1]? := by cases en <;> simp
    rw [e] at h2
    exact h2
/-- the promise of a def: called with ps it gives what F says -/
def spF (k : Kx) (np : Nat) (F : Fn) : Sp := fun vs H Q E => vs.length = np ∧ ∃ ps Z, ps.length = np ∧ ps.all okP = true ∧ Rel k (vs.map some) H Z ps ∧
  match F ps with
  | .ok x en' => ∀ v H' Z', Aft k (vs.map some) H Z ps (vs.map some) H' Z' (outP ps en') → VlOk k (vs.map some) H ps (vs.map some) H' Z' (outP ps en') v x → Q v H'
  | _ => False

section
variable {k : Kx} {H H' Z Z' : Hp} {ps : List Sl} {vs : List V} {N : List Str} {en' : En} {sg' : L2.St}
theorem start_get {i : Nat} (h : i < vs.length) : (start N vs)[i]? = (vs.map some)[i]? := by
  unfold L2.start
  rw [List.getElem?_append_left (by simpa using h)]
theorem ps_get {i : Nat} {n : Nat} {s : Sl} (h : (ps ++ List.replicate n Sl.no)[i]? = some s) : (i < ps.length ∧ ps[i]? = some s) ∨ (ps.length ≤ i ∧ i < ps.length + n ∧ s = .no) := by
  by_cases hi : i < ps.length
  · rw [List.getElem?_append_left hi] at h; exact .inl ⟨hi, h⟩
  · rw [List.getElem?_append_right (by omega), List.getElem?_replicate] at h
    split at h
    · cases h; exact .inr ⟨by omega, by omega, rfl⟩
    · cases h
theorem mine_ps {a : Addr} {n : Nat} (hl : ps.length = vs.length) (m : Mine (start N vs) (ps ++ List.replicate n .no) a) : Mine (vs.map some) ps a := by
  obtain ⟨i, s, h1, h2, h3⟩ := m
  rcases ps_get h1 with ⟨h4, h5⟩ | ⟨_, _, rfl⟩
  · exact ⟨i, s, h5, h2, by rw [← start_get (N := N) (by omega)]; exact h3⟩
  · cases h2
theorem rel_start (hl : ps.length = vs.length) (hN : vs.length ≤ N.length) (r : Rel k (vs.map some) H Z ps) : Rel k (start N vs) H Z (ps ++ List.replicate (N.length - ps.length) .no) where
  sub := r.sub
  sl := fun i s h => by
    rcases ps_get h with ⟨h4, h5⟩ | ⟨h4, h5, rfl⟩
    · obtain ⟨v, hv, q⟩ := r.sl i s h5
      exact ⟨v, by rw [start_get (by omega)]; exact hv, q⟩
    · refine ⟨none, ?_, trivial⟩
      unfold L2.start
      rw [List.getElem?_append_right (by simp; omega), List.getElem?_replicate, if_pos (by simp; omega)]
  dis := fun i j s t a h1 h2 h3 h4 h5 h6 => by
    rcases ps_get h1 with ⟨g1, g2⟩ | ⟨_, _, rfl⟩
    · rcases ps_get h2 with ⟨g3, g4⟩ | ⟨_, _, rfl⟩
      · rw [start_get (by omega)] at h5 h6
        exact r.dis i j s t a g2 g4 h3 h4 h5 h6
      · cases h4
    · cases h3
  tab := r.tab
theorem okP_io {s : Sl} (h : okP s = true) (ho : isOwn s = true) : ∃ d, s = .io d := by
  cases s with
  | io d => exact ⟨d, rfl⟩
  | no => cases ho
  | sh d => cases ho
  | ow d => cases h
/-- behind the body, as the caller sees it -/
theorem aft_out (hl : ps.length = vs.length) (hN : vs.length ≤ N.length) (hp : ps.all okP = true) (r : Rel k (vs.map some) H Z ps) (a : Aft k (start N vs) H Z (ps ++ List.replicate (N.length - ps.length) .no) sg' H' Z' en') :
    Aft k (vs.map some) H Z ps (vs.map some) H' Z' (outP ps en') ∧ ∀ b, Mine (vs.map some) (outP ps en') b → Mine sg' en' b := by
  have key : ∀ (i : Nat) (s : Sl), (outP ps en')[i]? = some s → (∃ d d', ps[i]? = some (.io d) ∧ s = .io d' ∧ en'[i]? = some (.io d') ∧ sg'[i]? = (vs.map some)[i]?) ∨ (isOwn s = false ∧ ps[i]? = some s) := fun i s h => by
    obtain ⟨s0, h1, h2⟩ := outP_get ps en' i s h
    have hi : i < ps.length := (List.getElem?_eq_some_iff.mp h1).1
    rcases h2 with ⟨d, d', rfl, rfl, h3⟩ | ⟨h3, rfl⟩
    · have hio : (ps ++ List.replicate (N.length - ps.length) Sl.no)[i]? = some (.io d) := by rw [List.getElem?_append_left hi]; exact h1
      obtain ⟨⟨d'', h4⟩, h5⟩ := a.io i d hio
      rw [start_get (by omega)] at h5
      rcases h3 with h3 | h3
      · exact .inl ⟨d, d', h1, rfl, h3, h5⟩
      · exact absurd h4 (h3 d'')
    · refine .inr ⟨?_, h1⟩
      have ho := List.all_eq_true.mp hp s (List.mem_of_getElem? h1)
      cases hs : isOwn s with
      | false => rfl
      | true =>
        obtain ⟨d, e⟩ := okP_io ho hs
        exact absurd e (h3 d)
  have mo : ∀ b, Mine (vs.map some) (outP ps en') b → Mine sg' en' b := fun b ⟨i, s, h1, h2, h3⟩ => by
    rcases key i s h1 with ⟨d, d', _, rfl, h6, h7⟩ | ⟨h4, _⟩
    · exact ⟨i, _, h6, rfl, by rw [h7]; exact h3⟩
    · rw [h4] at h2; cases h2
  refine ⟨⟨⟨a.rel.sub, fun i s h => ?_, fun i j s t b h1 h2 h3 h4 h5 h6 => ?_, a.rel.tab⟩, a.zz, fun b o h => ?_, fun b o h m t => a.keep b o h (fun q => m (mine_ps hl q)) t, fun b h => ?_, fun i d h => ?_⟩, mo⟩
  · rcases key i s h with ⟨d, d', _, rfl, h6, h7⟩ | ⟨h4, h5⟩
    · obtain ⟨v, hv, q⟩ := a.rel.sl i _ h6
      exact ⟨v, by rw [← h7]; exact hv, q⟩
    · obtain ⟨v, hv, q⟩ := r.sl i s h5
      refine ⟨v, hv, ?_⟩
      cases s with
      | no => trivial
      | sh d => obtain ⟨x, e, q⟩ := q; exact ⟨x, e, dp_mono a.zz q⟩
      | ow d => cases h4
      | io d => cases h4
  · rcases key i s h1 with ⟨d, d', _, rfl, h7, h8⟩ | ⟨h7, _⟩
    · rcases key j t h2 with ⟨e, e', _, rfl, h9, h10⟩ | ⟨h9, _⟩
      · exact a.rel.dis i j _ _ b h7 h9 rfl rfl (by rw [h8]; exact h5) (by rw [h10]; exact h6)
      · rw [h9] at h4; cases h4
    · rw [h7] at h3; cases h3
  · rcases a.new b o h with q | q | q
    · exact .inl q
    · exact .inr (.inl q)
    · exact .inr (.inr (mine_ps hl q))
  · rcases a.own b (mo b h) with q | q
    · exact .inl (mine_ps hl q)
    · exact .inr q
  · have hi : i < ps.length := (List.getElem?_eq_some_iff.mp h).1
    have hlt : i < (outP ps en').length := by rw [outP_len]; exact hi
    have hg := List.getElem?_eq_getElem hlt
    rcases key i _ hg with ⟨_, d', _, e, _, _⟩ | ⟨h4, h5⟩
    · exact ⟨⟨d', by rw [hg, e]⟩, rfl⟩
    · rw [h] at h5
      rw [← Option.some.inj h5] at h4
      cases h4
end

section
variable {P : Program} {w : World} {K : PySem.W.Frag} {mg : Str → Option Value} {base : Heap} {T : List Addr}
/-- THE RULE for a def: its body gives its function -/
theorem fn_ok {x qual : Str} {st : Stmt} {f : Addr} {fd : FuncData} {N ps : List Str} {k : Nat} {m : M Fl} (F : Fun K x qual st f fd) (S : FnScope N ps (defScope st))
    (hb : ∀ (cdv : Value) (A : Around) (outer : List Env) (s : Shared) (H : Hp) (E : XK), PySem.W.codeIn K cdv qual = true → Room k (A.deeper (envOfC qual (defScope st) s.heap.objs.size f cdv)) →
      GSs T W0 (cxOf CX0 P w K mg base N qual (defScope st) f cdv A outer s H E).nox (defBody st) m) :
    FnOk P w K mg base CX0 (k + 1) f fd ps (spF ⟨K, T⟩ ps.length (run N.length m)) := by
  obtain ⟨oc, od, kV, doc, pm, an, cdv, ct, osl, rfl, lk, hcd⟩ := F.ex
  refine fn_of lk hcd S (fun vs H Q E h => h.1) fun A outer s H vs Q E hr hsp => ?_
  refine ⟨_, (hb cdv A outer s H E hcd hr).nox, ?_⟩
  obtain ⟨hl, pp, Z, hpl, hok, r, q⟩ := hsp
  have hN : vs.length ≤ N.length := by
    have e := congrArg List.length S.pre
    rw [List.length_take] at e
    omega
  have e1 : pp.length = vs.length := by omega
  refine ⟨_, Z, rel_start e1 hN r, ?_⟩
  unfold run at q
  cases hm : m (pp ++ List.replicate (N.length - pp.length) .no) with
  | bad => rw [hm] at q; exact q
  | err c en => rw [hm] at q; exact q.elim
  | ok fl en =>
    rw [hm] at q
    intro sg' H' Z' a
    obtain ⟨a2, mo⟩ := aft_out e1 hN hok r a
    cases fl with
    | nx => exact q .non H' Z' a2 .non
    | bk => exact q.elim
    | ct => exact q.elim
    | rt y =>
      intro v hv
      refine q v H' Z' a2 ?_
      cases y with
      | sh d => exact hv
      | ow d =>
        obtain ⟨p, h1, h2, h3, h4, h5⟩ := hv
        exact ⟨p, h1, h2, h3, fun z => h4 (mo p z), h5.imp id (mine_ps e1)⟩
end

/-! ### a def is called -/
def mcall (np : Nat) (F : Fn) (ms : M (List PyData)) : M Vl := bnd ms fun ds en => if ds.length = np then (match F (ds.map .sh) with
  | .ok x _ => .ok x en
  | _ => .bad) else .bad
/-- the first argument is a name whose thing is changed -/
def mcallI (np : Nat) (F : Fn) (i : Nat) (ms : M (List PyData)) : M Vl := fun en => if (en[i]?.map isOwn).getD false then bnd ms (fun ds en => if ds.length + 1 = np then (match en[i]? with
    | some (.ow d) => (match F (.io d :: ds.map .sh) with
      | .ok x (.io d' :: _) => .ok x (en.set i (.ow d'))
      | _ => .bad)
    | some (.io d) => (match F (.io d :: ds.map .sh) with
      | .ok x (.io d' :: _) => .ok x (en.set i (.io d'))
      | _ => .bad)
    | _ => .bad) else .bad) en else .bad

section
variable {T : List Addr} {E : Wish} {X : Cx} {f : Addr} {fd : FuncData} {ps : List Str} {x : Str} {p pos : Pos} {e : Expr} {es : List Expr} {k : Nat} {np : Nat} {F : Fn}
theorem all_sh : ∀ ds : List PyData, (ds.map Sl.sh).all okP = true
  | [] => rfl
  | d :: ds => by rw [List.map_cons, List.all_cons, all_sh ds]; rfl
theorem rel_sh {kk : Kx} {sg : L2.St} {H Z : Hp} {en : En} {vs : List V} {ds : List PyData} (r : Rel kk sg H Z en) (h : DpAll kk.K Z vs ds) : Rel kk (vs.map some) H Z (ds.map .sh) where
  sub := r.sub
  sl := fun i s hi => by
    rw [List.getElem?_map] at hi
    cases q : ds[i]? with
    | none => rw [q] at hi; cases hi
    | some d =>
      rw [q] at hi
      cases hi
      obtain ⟨v, hv, hd⟩ := dpa_get h q
      exact ⟨some v, by rw [List.getElem?_map, hv]; rfl, v, rfl, hd⟩
  dis := fun i j s t a h1 h2 h3 h4 h5 h6 => by
    rw [List.getElem?_map] at h1
    cases q : ds[i]? with
    | none => rw [q] at h1; cases h1
    | some d => rw [q] at h1; cases h1; cases h3
  tab := r.tab
theorem mine_sh {vs : List V} {ds : List PyData} {a : Addr} : ¬ Mine (vs.map some) (ds.map Sl.sh) a := fun ⟨i, s, h1, h2, h3⟩ => by
  rw [List.getElem?_map] at h1
  cases q : ds[i]? with
  | none => rw [q] at h1; cases h1
  | some d => rw [q] at h1; cases h1; cases h2
theorem outP_sh : ∀ (ds : List PyData) (en : En), outP (ds.map Sl.sh) en = ds.map Sl.sh
  | [], _ => rfl
  | d :: ds, en => by simp [outP, outP_sh ds]
/-- the caller's state behind a call that changes nothing of its own -/
theorem aft_call {kk : Kx} {sg : L2.St} {H Z H' Z' : Hp} {en : En} {sp : L2.St} {ps ps' : List Sl} (r : Rel kk sg H Z en) (nm : ∀ a, ¬ Mine sp ps a) (a : Aft kk sp H Z ps sp H' Z' ps') : Aft kk sg H Z en sg H' Z' en := by
  have own : ∀ b, Mine sg en b → ∃ d o, Own kk.K H Z b d ∧ Own kk.K H' Z' b d ∧ Z' b = none := fun b m => by
    obtain ⟨hz, d, ho⟩ := r.mine m
    obtain ⟨o, h1, h2⟩ := mine_there r m
    refine ⟨d, o, ho, ho.mono (fun o' q => a.keep b o' q (nm b) h2) a.zz, ?_⟩
    cases q : Z' b with
    | none => rfl
    | some u =>
      rcases a.new b u q with z | z | z
      · rw [hz] at z; cases z
      · rw [h1] at z; cases z
      · exact (nm b z).elim
  refine ⟨⟨a.rel.sub, fun i s h => ?_, r.dis, a.rel.tab⟩, a.zz, fun b o h => ?_, fun b o h m t => a.keep b o h (nm b) t, fun b h => .inl h, fun i d h => ⟨⟨d, h⟩, rfl⟩⟩
  · obtain ⟨v, hv, q⟩ := r.sl i s h
    refine ⟨v, hv, ?_⟩
    cases s with
    | no => trivial
    | sh d => obtain ⟨y, e, q⟩ := q; exact ⟨y, e, dp_mono a.zz q⟩
    | ow d =>
      obtain ⟨b, e, h1, h2⟩ := q
      obtain ⟨_, h3, h4⟩ := mine_there r ⟨i, _, h, rfl, by rw [hv, e]⟩
      obtain ⟨_, _, _, _, h5⟩ := own b ⟨i, _, h, rfl, by rw [hv, e]⟩
      exact ⟨b, e, h5, h2.mono (fun o q => a.keep b o q (nm b) h4) a.zz⟩
    | io d =>
      obtain ⟨b, e, h1, h2⟩ := q
      obtain ⟨_, h3, h4⟩ := mine_there r ⟨i, _, h, rfl, by rw [hv, e]⟩
      obtain ⟨_, _, _, _, h5⟩ := own b ⟨i, _, h, rfl, by rw [hv, e]⟩
      exact ⟨b, e, h5, h2.mono (fun o q => a.keep b o q (nm b) h4) a.zz⟩
  · rcases a.new b o h with q | q | q
    · exact .inl q
    · exact .inr (.inl q)
    · exact (nm b q).elim
theorem call_post {sg : L2.St} {H : Hp} {Q : VK} {ms : M (List PyData)} (h : tV ⟨X.K, T⟩ E (mcall np F ms) sg H Q) :
    tA ⟨X.K, T⟩ E ms sg H fun vs H1 => spF ⟨X.K, T⟩ np F (vs ++ []) H1 Q E0 := by
  obtain ⟨en, Z, r, q⟩ := h
  refine ⟨en, Z, r, post_mono (post_bnd r q) fun ds en1 H1 Z1 _ ⟨a1, q1⟩ vs hvs => ?_⟩
  show spF ⟨X.K, T⟩ np F (vs ++ []) H1 Q E0
  rw [List.append_nil]
  by_cases hnp : ds.length = np
  · rw [if_pos hnp] at q1
    refine ⟨(dpa_length hvs).trans hnp, ds.map .sh, Z1, by rw [List.length_map]; exact hnp, all_sh ds, rel_sh a1.rel hvs, ?_⟩
    cases hF : F (ds.map .sh) with
    | bad => simp only [hF] at q1; exact q1.elim
    | err c en2 => simp only [hF] at q1; exact q1.elim
    | ok y en2 =>
      simp only [hF] at q1
      intro v H' Z' a hv
      have a2 := aft_call a1.rel (fun b => mine_sh) a
      refine q1 H' Z' a2 v ?_
      cases y with
      | sh d => exact hv
      | ow d =>
        obtain ⟨b, h1, h2, h3, h4, h5⟩ := hv
        have hb : H1 b = none := h5.resolve_right mine_sh
        refine ⟨b, h1, h2, h3, fun m => ?_, free_back a1 hb⟩
        obtain ⟨o, ho, _⟩ := mine_there a1.rel m
        rw [hb] at ho; cases ho
  · rw [if_neg hnp] at q1; exact q1.elim
theorem ge_call {ms : M (List PyData)} (G : FnOk X.prog X.w X.K X.mg X.base CX0 k f fd ps (spF ⟨X.K, T⟩ np F)) (hr : Room k X.A) (hg : Gl X x) (hm : X.mg x = some (.ref f)) (hk : PySem.W.keepIn X.K (.ref f) = true) (hb : Binds X.K fd ps [])
    (ha : GA T E X (e :: es) ms) (hdb : (x == ("__debug__" : Str)) = false := by decide) (he : starEach (e :: es) X.env = (false, eval e X.env) :: starEach es X.env := by rfl) (hpl : (backTo pos (starEach es X.env)).any (·.1) = false := by rfl) :
    GE T E X (.Call (.Name x p) (e :: es) [] pos) (mcall np F ms) :=
  pe_imp (pe_call G hr hg hm hk hb .nil pass0 ha hdb he hpl) fun sg H Q h => call_post h
theorem ge_call0 (G : FnOk X.prog X.w X.K X.mg X.base CX0 k f fd ps (spF ⟨X.K, T⟩ np F)) (hr : Room k X.A) (hg : Gl X x) (hm : X.mg x = some (.ref f)) (hk : PySem.W.keepIn X.K (.ref f) = true) (hb : Binds X.K fd ps [])
    (hdb : (x == ("__debug__" : Str)) = false := by decide) : GE T E X (.Call (.Name x p) [] [] pos) (mcall np F manil) :=
  pe_imp (pe_call0 G hr hg hm hk hb .nil pass0 hdb) fun sg H Q h => by
    obtain ⟨en, Z, r, q⟩ := call_post h
    exact post_ret r q [] .nil
/-- a name's thing is changed by the callee -/
theorem callI_post {sg : L2.St} {H : Hp} {Q : VK} {i : Nat} {ms : M (List PyData)} (h : tV ⟨X.K, T⟩ E (mcallI np F i ms) sg H Q) :
    tVar i sg H fun v H1 => tA ⟨X.K, T⟩ E ms sg H1 fun vs H2 => spF ⟨X.K, T⟩ np F ((v :: vs) ++ []) H2 Q E0 := by
  obtain ⟨en1, Z1, r, q⟩ := h
  unfold mcallI at q
  cases hi : en1[i]? with
  | none => rw [hi] at q; exact q.elim
  | some s00 =>
    cases ho : isOwn s00 with
    | false => rw [hi, Option.map_some, Option.getD_some, ho] at q; exact q.elim
    | true =>
    rw [hi, Option.map_some, Option.getD_some, ho, if_pos rfl] at q
    obtain ⟨v, hv⟩ : ∃ v, sg[i]? = some (some v) := by
      obtain ⟨u, hu, hs⟩ := r.sl i s00 hi
      cases s00 with
      | no => cases ho
      | sh d => cases ho
      | ow d => obtain ⟨a, e, _⟩ := hs; exact ⟨_, by rw [hu, e]⟩
      | io d => obtain ⟨a, e, _⟩ := hs; exact ⟨_, by rw [hu, e]⟩
    refine ⟨v, hv, en1, Z1, r, post_mono (post_bnd r q) fun ds en2 H2 Z2 _ ⟨a2, q2⟩ vs hvs => ?_⟩
    show spF ⟨X.K, T⟩ np F ((v :: vs) ++ []) H2 Q E0
    rw [List.append_nil]
    have a1 := Aft.refl r
    by_cases hnp : ds.length + 1 = np
    · rw [if_pos hnp] at q2
      -- the two kinds of places are alike
      have main : ∀ (d : PyData) (mk : PyData → Sl) (he : en2[i]? = some (mk d)) (hmk : mk = Sl.ow ∨ mk = Sl.io),
          (match F (.io d :: ds.map .sh) with
            | .ok x (.io d' :: _) => Post ⟨X.K, T⟩ E sg H2 Z2 en2 (.ok x (en2.set i (mk d'))) fun x en' H' Z' => ∀ v, VlOk ⟨X.K, T⟩ sg H en1 sg H' Z' en' v x → Q v H'
            | _ => False) → spF ⟨X.K, T⟩ np F (v :: vs) H2 Q E0 := by
        intro d mk he hmk q3
        have own : isOwn (mk d) = true := by rcases hmk with rfl | rfl <;> rfl
        have r2 := a2.rel
        obtain ⟨a, hva, haz, hao⟩ : ∃ a, v = .ref a ∧ Z2 a = none ∧ Own X.K H2 Z2 a d := by
          obtain ⟨u, hu, hs⟩ := r2.sl i _ he
          rw [hv] at hu
          cases hu
          rcases hmk with rfl | rfl
          · obtain ⟨a, e, h1, h2⟩ := hs; cases e; exact ⟨a, rfl, h1, h2⟩
          · obtain ⟨a, e, h1, h2⟩ := hs; cases e; exact ⟨a, rfl, h1, h2⟩
        subst hva
        have hm0 : Mine sg en2 a := ⟨i, _, he, own, hv⟩
        obtain ⟨oa, hoa, hat⟩ := mine_there r2 hm0
        have hps : Rel ⟨X.K, T⟩ ((V.ref a :: vs).map some) H2 Z2 (.io d :: ds.map .sh) := by
          have rs := rel_sh r2 hvs
          refine ⟨r2.sub, fun l s hl => ?_, fun l1 l2 s t b h1 h2 h3 h4 h5 h6 => ?_, r2.tab⟩
          · cases l with
            | zero => cases hl; exact ⟨_, rfl, a, rfl, haz, hao⟩
            | succ l =>
              obtain ⟨u, hu, hs⟩ := rs.sl l s (by simpa using hl)
              exact ⟨u, by simpa using hu, hs⟩
          · cases l1 with
            | zero =>
              cases l2 with
              | zero => rfl
              | succ l2 => exact absurd ⟨l2, t, by simpa using h2, h4, by simpa using h6⟩ (mine_sh (vs := vs) (ds := ds) (a := b))
            | succ l1 => exact absurd ⟨l1, s, by simpa using h1, h3, by simpa using h5⟩ (mine_sh (vs := vs) (ds := ds) (a := b))
        have onlyA : ∀ b, Mine ((V.ref a :: vs).map some) (.io d :: ds.map .sh) b → b = a := fun b ⟨l, s, h1, h2, h3⟩ => by
          cases l with
          | zero => cases h3; rfl
          | succ l => exact absurd ⟨l, s, by simpa using h1, h2, by simpa using h3⟩ (mine_sh (vs := vs) (ds := ds) (a := b))
        refine ⟨by rw [List.length_cons, dpa_length hvs]; exact hnp, .io d :: ds.map .sh, Z2, by simp [hnp], by rw [List.all_cons, all_sh]; rfl, hps, ?_⟩
        cases hF : F (.io d :: ds.map .sh) with
        | bad => rw [hF] at q3; exact q3
        | err c en3 => rw [hF] at q3; exact q3
        | ok y en3 =>
          rw [hF] at q3
          cases en3 with
          | nil => exact q3.elim
          | cons s0 en3 =>
            cases s0 with
            | io d' =>
              intro v' H' Z' a3 hv'
              have e3 : outP (.io d :: ds.map .sh) (.io d' :: en3) = .io d' :: ds.map .sh := by simp [outP, outP_sh]
              rw [e3] at a3 hv'
              -- the caller's state
              have hii : i < en2.length := (List.getElem?_eq_some_iff.mp he).1
              obtain ⟨a', ha', haz', hao'⟩ : ∃ a', some (V.ref a) = some (V.ref a') ∧ Z' a' = none ∧ Own X.K H' Z' a' d' := by
                obtain ⟨u, hu, hs⟩ := a3.rel.sl 0 (.io d') rfl
                cases hu
                obtain ⟨b, e, h1, h2⟩ := hs
                exact ⟨b, e, h1, h2⟩
              cases ha'
              have own' : isOwn (mk d') = true := by rcases hmk with rfl | rfl <;> rfl
              have at_ : ∀ (l : Nat) (s : Sl), (en2.set i (mk d'))[l]? = some s → (l = i ∧ s = mk d') ∨ (l ≠ i ∧ en2[l]? = some s) := fun l s h => by
                by_cases e : l = i
                · rw [e, List.getElem?_set_self hii] at h; cases h; exact .inl ⟨e, rfl⟩
                · rw [List.getElem?_set_ne (Ne.symm e)] at h; exact .inr ⟨e, h⟩
              have mset : ∀ b, Mine sg (en2.set i (mk d')) b → Mine sg en2 b := fun b ⟨l, s, h1, h2, h3⟩ => by
                rcases at_ l s h1 with ⟨rfl, _⟩ | ⟨_, e⟩
                · exact ⟨l, _, he, own, h3⟩
                · exact ⟨l, s, e, h2, h3⟩
              have oth : ∀ b, Mine sg en2 b → b ≠ a → ∀ dd, Own X.K H2 Z2 b dd → Own X.K H' Z' b dd ∧ Z' b = none := fun b m hb dd ho => by
                obtain ⟨ob, hob, hbt⟩ := mine_there r2 m
                have nmb : ¬ Mine ((V.ref a :: vs).map some) (.io d :: ds.map .sh) b := fun z => hb (onlyA b z)
                refine ⟨ho.mono (fun o q => a3.keep b o q nmb hbt) a3.zz, ?_⟩
                cases q : Z' b with
                | none => rfl
                | some u =>
                  rcases a3.new b u q with z | z | z
                  · rw [(r2.mine m).1] at z; cases z
                  · rw [hob] at z; cases z
                  · exact absurd z nmb
              have aC : Aft ⟨X.K, T⟩ sg H2 Z2 en2 sg H' Z' (en2.set i (mk d')) := by
                refine ⟨⟨a3.rel.sub, fun l s h => ?_, fun l1 l2 s t b h1 h2 h3 h4 h5 h6 => ?_, a3.rel.tab⟩, a3.zz, fun b o h => ?_, fun b o h m t => a3.keep b o h (fun z => m ((onlyA b z) ▸ hm0)) t, fun b h => .inl (mset b h), fun l dd h => ?_⟩
                · rcases at_ l s h with ⟨rfl, rfl⟩ | ⟨hl, e⟩
                  · refine ⟨_, hv, ?_⟩
                    rcases hmk with rfl | rfl
                    · exact ⟨a, rfl, haz', hao'⟩
                    · exact ⟨a, rfl, haz', hao'⟩
                  · obtain ⟨u, hu, hs⟩ := r2.sl l s e
                    refine ⟨u, hu, ?_⟩
                    have go : ∀ b dd, isOwn s = true → u = some (.ref b) → Own X.K H2 Z2 b dd → Own X.K H' Z' b dd ∧ Z' b = none := fun b dd ho hub hd => by
                      refine oth b ⟨l, s, e, ho, by rw [hu, hub]⟩ (fun z => ?_) dd hd
                      exact hl (r2.dis l i s _ a e he ho own (by rw [hu, hub, z]) hv)
                    cases s with
                    | no => trivial
                    | sh dd => obtain ⟨y, e1, hd⟩ := hs; exact ⟨y, e1, dp_mono a3.zz hd⟩
                    | ow dd =>
                      obtain ⟨b, e1, h1, h2⟩ := hs
                      obtain ⟨g1, g2⟩ := go b dd rfl e1 h2
                      exact ⟨b, e1, g2, g1⟩
                    | io dd =>
                      obtain ⟨b, e1, h1, h2⟩ := hs
                      obtain ⟨g1, g2⟩ := go b dd rfl e1 h2
                      exact ⟨b, e1, g2, g1⟩
                · rcases at_ l1 s h1 with ⟨rfl, rfl⟩ | ⟨g1, e1⟩
                  · rcases at_ l2 t h2 with ⟨rfl, rfl⟩ | ⟨g2, e2⟩
                    · rfl
                    · exact r2.dis l1 l2 _ t b he e2 own h4 h5 h6
                  · rcases at_ l2 t h2 with ⟨rfl, rfl⟩ | ⟨g2, e2⟩
                    · exact r2.dis l1 l2 s _ b e1 he h3 own h5 h6
                    · exact r2.dis l1 l2 s t b e1 e2 h3 h4 h5 h6
                · rcases a3.new b o h with z | z | z
                  · exact .inl z
                  · exact .inr (.inl z)
                  · exact .inr (.inr ((onlyA b z) ▸ hm0))
                · by_cases hl : l = i
                  · subst hl
                    rw [he] at h
                    rcases hmk with rfl | rfl
                    · cases h
                    · exact ⟨⟨d', List.getElem?_set_self hii⟩, rfl⟩
                  · exact ⟨⟨dd, by rw [List.getElem?_set_ne (Ne.symm hl)]; exact h⟩, rfl⟩
              refine q3 H' Z' aC v' ?_
              cases y with
              | sh dd => exact hv'
              | ow dd =>
                obtain ⟨b, h1, h2, h3, h4, h5⟩ := hv'
                have hb : H2 b = none := by
                  rcases h5 with z | z
                  · exact z
                  · have e := onlyA b z
                    rw [e] at h4
                    exact absurd ⟨0, .io d', rfl, rfl, rfl⟩ h4
                refine ⟨b, h1, h2, h3, fun m => ?_, ?_⟩
                · obtain ⟨o, ho, _⟩ := mine_there r2 (mset b m)
                  rw [hb] at ho; cases ho
                · exact free_back (a1.trans a2 r) hb
            | no => exact q3.elim
            | sh _ => exact q3.elim
            | ow _ => exact q3.elim
      cases he : en2[i]? with
      | none => rw [he] at q2; exact False.elim q2
      | some s0 =>
        rw [he] at q2
        cases s0 with
        | no => exact False.elim q2
        | sh _ => exact False.elim q2
        | ow d =>
          refine main d .ow he (.inl rfl) ?_
          dsimp only at q2
          revert q2
          cases F (.io d :: ds.map .sh) with
          | bad => exact fun q => q
          | err c en3 => exact fun q => False.elim q
          | ok y en3 =>
            cases en3 with
            | nil => exact fun q => False.elim q
            | cons s1 en3 => cases s1 <;> first | exact fun q => q | exact fun q => False.elim q
        | io d =>
          refine main d .io he (.inr rfl) ?_
          dsimp only at q2
          revert q2
          cases F (.io d :: ds.map .sh) with
          | bad => exact fun q => q
          | err c en3 => exact fun q => False.elim q
          | ok y en3 =>
            cases en3 with
            | nil => exact fun q => False.elim q
            | cons s1 en3 => cases s1 <;> first | exact fun q => q | exact fun q => False.elim q
    · rw [if_neg hnp] at q2; exact q2.elim
theorem ge_callI {i : Nat} {y : Str} {py : Pos} {ms : M (List PyData)} (G : FnOk X.prog X.w X.K X.mg X.base CX0 k f fd ps (spF ⟨X.K, T⟩ np F)) (hr : Room k X.A) (hg : Gl X x) (hm : X.mg x = some (.ref f)) (hk : PySem.W.keepIn X.K (.ref f) = true) (hb : Binds X.K fd ps [])
    (hv : PE X (.Name y py) (tVar i)) (ha : GA T E X es ms) (hdb : (x == ("__debug__" : Str)) = false := by decide) (he : starEach (.Name y py :: es) X.env = (false, eval (.Name y py) X.env) :: starEach es X.env := by rfl) (hpl : (backTo pos (starEach (.Name y py :: es) X.env)).any (·.1) = false := by rfl) :
    GE T E X (.Call (.Name x p) (.Name y py :: es) [] pos) (mcallI np F i ms) :=
  pe_imp (pe_call G hr hg hm hk hb .nil pass0 (pa_cons hv ha rfl) hdb he hpl) fun sg H Q h => callI_post h
end
end ZD

namespace ZD
open PySem PySem.Spec PyProof.Rows L2 GxR ZG

theorem million : 1000000 ≤ sizeLine := by rw [sizeLine_eq]; decide
/-! ### whole numbers -/
def oInt (c : Int → Int → Bool) (g : Int → Int → Int) : PyData → PyData → Out
  | .int i, .int j => if c i j = true then .d (.int (g i j)) else .bad
  | _, _ => .bad
def oCmp (g : Int → Int → Bool) : PyData → PyData → Out
  | .int i, .int j => .d (.bool (g i j))
  | _, _ => .bad
section
variable {T : List Addr} {E : Wish} {X : Cx} {a b : Expr} {pos : Pos} {p q : M Od} {k : Nat}
theorem says_int {C : Int → Int → Prop} {c : Int → Int → Bool} {g : Int → Int → Int} (h : ∀ i j, c i j = true → C i j) : Says2 X.K (oInt c g) (rI C fun i j => .int (g i j)) := by
  intro H Z v w d e Q hz hv hw ho
  cases d with
  | int i =>
    cases e with
    | int j =>
      cases hv.int
      cases hw.int
      simp only [oInt] at ho
      by_cases hc : c i j = true
      · rw [if_pos hc] at ho
        exact ⟨i, j, rfl, rfl, h i j hc, ho _ (.int _)⟩
      · rw [if_neg hc] at ho; exact ho.elim
    | _ => exact False.elim ho
  | _ => exact False.elim ho
theorem says_int0 {g : Int → Int → Int} : Says2 X.K (oInt (fun _ _ => true) g) (rI0 fun i j => .int (g i j)) := by
  intro H Z v w d e Q hz hv hw ho
  cases d with
  | int i =>
    cases e with
    | int j =>
      cases hv.int
      cases hw.int
      exact ⟨i, j, rfl, rfl, (show OutOk X.K H Z Q (.d (.int (g i j))) from ho) _ (.int _)⟩
    | _ => exact False.elim ho
  | _ => exact False.elim ho
theorem says_cmp {g : Int → Int → Bool} : Says2 X.K (oCmp g) (rI0 fun i j => .bl (g i j)) := by
  intro H Z v w d e Q hz hv hw ho
  cases d with
  | int i =>
    cases e with
    | int j =>
      cases hv.int
      cases hw.int
      exact ⟨i, j, rfl, rfl, (show OutOk X.K H Z Q (.d (.bool (g i j))) from ho) _ (.bl _)⟩
    | _ => exact False.elim ho
  | _ => exact False.elim ho

/-! ### + -/
def oAdd : PyData → PyData → Out
  | .int i, .int j => .d (.int (i + j))
  | .str x, .str y => if x.length + y.length ≤ 1000000 then .d (.str (x ++ y)) else .bad
  | .list x, .list y => if x.length + y.length ≤ 1000000 then .nl (x ++ y) else .bad
  | .tuple x, .tuple y => if x.length + y.length ≤ 1000000 then .nt (x ++ y) else .bad
  | _, _ => .bad
def rCatL (K : PySem.W.Frag) : R2 := fun x y H Q => ∃ l b xs zs, x = .ref l ∧ y = .ref b ∧ SqL K H l xs ∧ SqL K H b zs ∧ xs.length + zs.length ≤ sizeLine ∧ ∀ p, H p = none → Q (.ref p) (upd H p (.lst (xs ++ zs)))
theorem op_catL : OpR X (binaryOp .Add) (rCatL X.K) := by
  intro pins s σ H x y v u Q I rx ry h
  obtain ⟨l, b, xs, zs, rfl, rfl, hH, hB, hz, q⟩ := h
  cases rx
  cases ry
  obtain ⟨its, r, ⟨⟨cls, dd, data, sl⟩, n, ho, hc, hd0, hd⟩, z⟩ := I.list hH
  obtain ⟨its2, r2, ⟨⟨cls2, dd2, data2, sl2⟩, n2, ho2, hc2, hd02, hd2⟩, z2⟩ := I.list hB
  simp only at hc hd hc2 hd2
  subst hc hd hc2 hd2
  have e : its.toArray ++ its2.toArray = (its ++ its2).toArray := by simp
  have hl := r.length
  have hl2 := r2.length
  refine concat_meets ⟨_, ho, rfl⟩ ⟨_, ho2, rfl⟩ noFill_list_add seq_list_add PySem.F.slot_list_add PySem.F.entry_list_add (PySem.F.args_list_add_2 _ _) (list_addW l b its.toArray its2.toArray n n2 dd dd2 sl sl2 (by simp only [List.size_toArray]; omega)) ⟨ho, ho2, ?_⟩
  rw [e]
  exact ⟨.ref _, _, I.lnew (t' := s.toks) (r.append r2) (by rw [List.length_append]; omega), rfl, q _ I.fresh⟩
def rAdd (K : PySem.W.Frag) : R2 := fun x y H Q => (rI0 (fun i j => .int (i + j)) x y H Q ∨ (∃ i j, x = .str i ∧ y = .str j ∧ i.length + j.length ≤ sizeLine ∧ Q (.str (i ++ j)) H)) ∨ (rCatL K x y H Q ∨ rCatA K x y H Q)
theorem op_addD : OpR X (binaryOp .Add) (rAdd X.K) := .or (.or op_add op_add_str) (.or op_catL op_catA)
theorem says_add : Says2 X.K oAdd (rAdd X.K) := by
  intro H Z v w d e Q hz hv hw ho
  have hm := million
  cases d with
  | int i =>
    cases e with
    | int j =>
      cases hv.int
      cases hw.int
      exact .inl (.inl ⟨i, j, rfl, rfl, (show OutOk X.K H Z Q (.d (.int (i + j))) from ho) _ (.int _)⟩)
    | _ => exact False.elim ho
  | str i =>
    cases e with
    | str j =>
      cases hv.str
      cases hw.str
      simp only [oAdd] at ho
      by_cases hc : i.length + j.length ≤ 1000000
      · rw [if_pos hc] at ho
        exact .inl (.inr ⟨i, j, rfl, rfl, by omega, ho _ (.str _)⟩)
      · rw [if_neg hc] at ho; exact ho.elim
    | _ => exact False.elim ho
  | list x =>
    cases e with
    | list y =>
      obtain ⟨l, xs, rfl, h1, h2⟩ := hv.list hz
      obtain ⟨b, ys, rfl, h3, h4⟩ := hw.list hz
      simp only [oAdd] at ho
      by_cases hc : x.length + y.length ≤ 1000000
      · rw [if_pos hc] at ho
        have e1 := dpa_length h2
        have e2 := dpa_length h4
        exact .inr (.inl ⟨l, b, xs, ys, rfl, rfl, h1, h3, by omega, fun p hp => ho p _ hp (dpa_append h2 h4)⟩)
      · rw [if_neg hc] at ho; exact ho.elim
    | _ => exact False.elim ho
  | tuple x =>
    cases e with
    | tuple y =>
      have hv0 := hv
      have hw0 := hw
      obtain ⟨l, xs, rfl, h1, h2⟩ := hv.tup hz
      obtain ⟨b, ys, rfl, h3, h4⟩ := hw.tup hz
      simp only [oAdd] at ho
      by_cases hc : x.length + y.length ≤ 1000000
      · rw [if_pos hc] at ho
        have e1 := dpa_length h2
        have e2 := dpa_length h4
        have dv : Dp X.K Z (.ref l) (.tuple x) := by rcases hv0 with z | ⟨a, _, z⟩; exact z; cases z
        have dw : Dp X.K Z (.ref b) (.tuple y) := by rcases hw0 with z | ⟨a, _, z⟩; exact z; cases z
        refine .inr (.inr ⟨l, b, xs, ys, rfl, rfl, h1, h3, by omega, fun z => ho.1 _ ?_, fun _ z => ho.1 _ ?_, fun _ _ p hp => ho.2 p _ hp (dpa_append h2 h4)⟩)
        · subst z
          cases h2
          exact dw
        · subst z
          cases h4
          rw [List.append_nil]
          exact dv
      · rw [if_neg hc] at ho; exact ho.elim
    | _ => exact False.elim ho
  | _ => exact False.elim ho
theorem ge_add (ha : GO T E X a p) (hb : GO T E X b q) : GE T E X (.BinOp a .Add b pos) (op2 oAdd p q) := ge_op2 ha hb (fun _ _ h1 h2 => pe_op op_addD h1 h2) says_add
def oSub := oInt (fun _ _ => true) (fun i j => i - j)
theorem ge_sub (ha : GO T E X a p) (hb : GO T E X b q) : GE T E X (.BinOp a .Sub b pos) (op2 oSub p q) := ge_op2 ha hb (fun _ _ h1 h2 => pe_op op_sub h1 h2) says_int0
def oMul := oInt (fun i j => decide (i.natAbs.log2 + j.natAbs.log2 < 1000000)) (fun i j => i * j)
theorem ge_mul (ha : GO T E X a p) (hb : GO T E X b q) : GE T E X (.BinOp a .Mult b pos) (op2 oMul p q) := ge_op2 ha hb (fun _ _ h1 h2 => pe_op op_mulW h1 h2) (says_int fun i j h => by have h2 := of_decide_eq_true h; exact h2)
def oDiv := oInt (fun i j => decide (0 < j ∧ j.natAbs.log2 < 9000)) (fun i j => i / j)
theorem ge_div (ha : GO T E X a p) (hb : GO T E X b q) : GE T E X (.BinOp a .FloorDiv b pos) (op2 oDiv p q) := ge_op2 ha hb (fun _ _ h1 h2 => pe_op op_fdivW h1 h2) (says_int fun i j h => by have h2 := of_decide_eq_true h; exact h2)
def oMod := oInt (fun i j => decide (0 < j)) (fun i j => i % j)
theorem ge_mod (ha : GO T E X a p) (hb : GO T E X b q) : GE T E X (.BinOp a .Mod b pos) (op2 oMod p q) := ge_op2 ha hb (fun _ _ h1 h2 => pe_op op_mod h1 h2) (says_int fun i j h => by have h2 := of_decide_eq_true h; exact h2)
def oPow := oInt (fun i j => decide (0 ≤ j ∧ j ≤ 1000000 ∧ i.natAbs < 2 ^ 64)) (fun i j => i ^ j.toNat)
theorem ge_pow (ha : GO T E X a p) (hb : GO T E X b q) : GE T E X (.BinOp a .Pow b pos) (op2 oPow p q) := ge_op2 ha hb (fun _ _ h1 h2 => pe_op op_pow h1 h2) (says_int fun i j h => by have h2 := of_decide_eq_true h; exact h2)
def oShr := oInt (fun i j => decide (0 ≤ j)) (fun i j => i / 2 ^ j.toNat)
theorem ge_shr (ha : GO T E X a p) (hb : GO T E X b q) : GE T E X (.BinOp a .RShift b pos) (op2 oShr p q) := ge_op2 ha hb (fun _ _ h1 h2 => pe_op op_shr h1 h2) (says_int fun i j h => by have h2 := of_decide_eq_true h; exact h2)
def oXor := oInt (fun _ _ => true) (fun i j => Builtin.bitXor i j)
theorem ge_xor (ha : GO T E X a p) (hb : GO T E X b q) : GE T E X (.BinOp a .BitXor b pos) (op2 oXor p q) := ge_op2 ha hb (fun _ _ h1 h2 => pe_op op_xor h1 h2) says_int0

/-! ### comparisons, as operations on two things -/
abbrev CmpOk (X : Cx) (op : CmpOp) (f : PyData → PyData → Out) : Prop := ∃ r : R2, OpR X (compareOp op) r ∧ Says2 X.K f r
def oEq : PyData → PyData → Out := fun d e => if (SeqAt.shaped d && SeqAt.shaped e) = true then .d (.bool (PyData.eqv d e)) else .bad
def oNe : PyData → PyData → Out := fun d e => if (SeqAt.shaped d && SeqAt.shaped e) = true then .d (.bool (!PyData.eqv d e)) else .bad
theorem shaped_nodict {d : PyData} (h : SeqAt.shaped d = true) : ∀ kv, d ≠ .dict kv := fun kv e => by
  subst e
  have := SeqAt.canLay_of_shaped h
  simp [PyData.canLay0] at this
theorem c_eq (hr : Room k X.A) : CmpOk X .Eq oEq := ⟨_, op_eqD hr.units, by
  intro H Z v w d e Q hz hv hw ho
  unfold oEq at ho
  by_cases hc : (SeqAt.shaped d && SeqAt.shaped e) = true
  · rw [if_pos hc] at ho
    rw [Bool.and_eq_true] at hc
    exact ⟨d, e, hv.dp hz (shaped_nodict hc.1), hw.dp hz (shaped_nodict hc.2), hc.1, hc.2, ho _ (.bl _)⟩
  · rw [if_neg hc] at ho; exact ho.elim⟩
theorem c_ne (hr : Room k X.A) : CmpOk X .NotEq oNe := ⟨_, op_neD hr.units, by
  intro H Z v w d e Q hz hv hw ho
  unfold oNe at ho
  by_cases hc : (SeqAt.shaped d && SeqAt.shaped e) = true
  · rw [if_pos hc] at ho
    rw [Bool.and_eq_true] at hc
    exact ⟨d, e, hv.dp hz (shaped_nodict hc.1), hw.dp hz (shaped_nodict hc.2), hc.1, hc.2, ho _ (.bl _)⟩
  · rw [if_neg hc] at ho; exact ho.elim⟩
def oOrd (g : Int → Int → Bool) (s : Str → Str → Bool) : PyData → PyData → Out
  | .int i, .int j => .d (.bool (g i j))
  | .str i, .str j => .d (.bool (s i j))
  | _, _ => .bad
theorem says_ord {g : Int → Int → Bool} {s : Str → Str → Bool} : Says2 X.K (oOrd g s) (fun x y H Q => rI0 (fun i j => .bl (g i j)) x y H Q ∨ ∃ i j, x = .str i ∧ y = .str j ∧ Q (.bl (s i j)) H) := by
  intro H Z v w d e Q hz hv hw ho
  cases d with
  | int i =>
    cases e with
    | int j =>
      cases hv.int
      cases hw.int
      exact .inl ⟨i, j, rfl, rfl, (show OutOk X.K H Z Q (.d (.bool (g i j))) from ho) _ (.bl _)⟩
    | _ => exact False.elim ho
  | str i =>
    cases e with
    | str j =>
      cases hv.str
      cases hw.str
      exact .inr ⟨i, j, rfl, rfl, (show OutOk X.K H Z Q (.d (.bool (s i j))) from ho) _ (.bl _)⟩
    | _ => exact False.elim ho
  | _ => exact False.elim ho
def sLt (i j : Str) : Bool := decide (i.cps.toList < j.cps.toList)
def oLt := oOrd (fun i j => decide (i < j)) (fun i j => sLt i j)
def oLe := oOrd (fun i j => decide (i ≤ j)) (fun i j => !sLt j i)
def oGt := oOrd (fun i j => decide (j < i)) (fun i j => sLt j i)
def oGe := oOrd (fun i j => decide (j ≤ i)) (fun i j => !sLt i j)
theorem c_lt : CmpOk X .Lt oLt := ⟨_, .or op_lt op_lt_str, says_ord⟩
theorem c_le : CmpOk X .LtE oLe := ⟨_, .or op_le op_le_str, says_ord⟩
theorem c_gt : CmpOk X .Gt oGt := ⟨_, .or op_gt op_gt_str, says_ord⟩
theorem c_ge : CmpOk X .GtE oGe := ⟨_, .or op_ge op_ge_str, says_ord⟩
/-- is: a truth value or none on the right -/
def oIs (n : Bool) : PyData → PyData → Out
  | .bool i, .bool j => .d (.bool (xor n (decide (i = j))))
  | .none, .none => .d (.bool (xor n true))
  | _, .none => .d (.bool (xor n false))
  | _, .bool _ => .d (.bool (xor n false))
  | _, _ => .bad
theorem top_non {K : PySem.W.Frag} {H Z : Hp} {v : V} {d : PyData} (h : Top K H Z v d) (n : d ≠ .none) : v ≠ .non := fun e => by
  subst e
  rcases h with h | ⟨a, e, _⟩
  · cases h; exact n rfl
  · cases e
/-- a value that is no truth value and no type -/
def NoBl (x : V) : Prop := x = .non ∨ (∃ i, x = .int i) ∨ (∃ z, x = .str z) ∨ ∃ a, x = .ref a
theorem nobl_rel {x : V} {v : Value} (h : NoBl x) (r : RelV x v) (j : Bool) : plainIs v (.bool j) = true ∧ v ≠ .bool j := by
  rcases h with rfl | ⟨i, rfl⟩ | ⟨z, rfl⟩ | ⟨a, rfl⟩
  · cases r; exact ⟨rfl, fun e => nomatch e⟩
  · obtain ⟨t, rfl⟩ := r; exact ⟨rfl, fun e => nomatch e⟩
  · obtain ⟨t, rfl⟩ := r; exact ⟨rfl, fun e => nomatch e⟩
  · cases r; exact ⟨rfl, fun e => nomatch e⟩
theorem op_isOth : OpR X (compareOp .Is) (fun x y H Q => ∃ j, NoBl x ∧ y = .bl j ∧ Q (.bl false) H) := by
  intro pins s σ H x y v u Q I rx ry h
  obtain ⟨j, nb, rfl, q⟩ := h
  obtain ⟨h1, h2⟩ := nobl_rel nb rx j
  cases (show u = Value.bool j from ry)
  exact wpAny_is_other h1 h2 ⟨.bl false, H, I, rfl, q⟩
theorem op_notOth : OpR X (compareOp .IsNot) (fun x y H Q => ∃ j, NoBl x ∧ y = .bl j ∧ Q (.bl true) H) := by
  intro pins s σ H x y v u Q I rx ry h
  obtain ⟨j, nb, rfl, q⟩ := h
  obtain ⟨h1, h2⟩ := nobl_rel nb rx j
  cases (show u = Value.bool j from ry)
  exact wpAny_isNot_other h1 h2 ⟨.bl true, H, I, rfl, q⟩
theorem nobl_top {K : PySem.W.Frag} {H Z : Hp} {v : V} {d : PyData} (h : Top K H Z v d) (n : ∀ b, d ≠ .bool b) : NoBl v := by
  rcases h with h | ⟨a, e, _⟩
  · cases h with
    | non => exact .inl rfl
    | bl b => exact absurd rfl (n b)
    | int i => exact .inr (.inl ⟨i, rfl⟩)
    | str z => exact .inr (.inr (.inl ⟨z, rfl⟩))
    | lst _ _ => exact .inr (.inr (.inr ⟨_, rfl⟩))
    | tup _ _ => exact .inr (.inr (.inr ⟨_, rfl⟩))
  · exact .inr (.inr (.inr ⟨a, e⟩))
theorem says_is {n : Bool} : Says2 X.K (oIs n) (fun x y H Q => ((∃ a b, x = .bl a ∧ y = .bl b ∧ Q (.bl (xor n (decide (a = b)))) H) ∨ (y = .non ∧ Q (.bl (xor n (decide (x = .non)))) H)) ∨ ∃ j, NoBl x ∧ y = .bl j ∧ Q (.bl (xor n false)) H) := by
  intro H Z v w d e Q hz hv hw ho
  cases e with
  | none =>
    cases hw.none
    refine .inl (.inr ⟨rfl, ?_⟩)
    cases d with
    | none =>
      cases hv.none
      exact (show OutOk X.K H Z Q (.d (.bool (xor n true))) from ho) _ (.bl _)
    | bool _ => rw [decide_eq_false (top_non hv (fun e => by cases e))]; exact (show OutOk X.K H Z Q (.d (.bool (xor n false))) from ho) _ (.bl _)
    | int _ => rw [decide_eq_false (top_non hv (fun e => by cases e))]; exact (show OutOk X.K H Z Q (.d (.bool (xor n false))) from ho) _ (.bl _)
    | str _ => rw [decide_eq_false (top_non hv (fun e => by cases e))]; exact (show OutOk X.K H Z Q (.d (.bool (xor n false))) from ho) _ (.bl _)
    | list _ => rw [decide_eq_false (top_non hv (fun e => by cases e))]; exact (show OutOk X.K H Z Q (.d (.bool (xor n false))) from ho) _ (.bl _)
    | tuple _ => rw [decide_eq_false (top_non hv (fun e => by cases e))]; exact (show OutOk X.K H Z Q (.d (.bool (xor n false))) from ho) _ (.bl _)
    | dict _ => rw [decide_eq_false (top_non hv (fun e => by cases e))]; exact (show OutOk X.K H Z Q (.d (.bool (xor n false))) from ho) _ (.bl _)
  | bool j =>
    cases hw.bool
    cases d with
    | bool i =>
      cases hv.bool
      exact .inl (.inl ⟨i, j, rfl, rfl, (show OutOk X.K H Z Q (.d (.bool (xor n (decide (i = j))))) from ho) _ (.bl _)⟩)
    | none => exact .inr ⟨j, nobl_top hv (fun b e => by cases e), rfl, (show OutOk X.K H Z Q (.d (.bool (xor n false))) from ho) _ (.bl _)⟩
    | int _ => exact .inr ⟨j, nobl_top hv (fun b e => by cases e), rfl, (show OutOk X.K H Z Q (.d (.bool (xor n false))) from ho) _ (.bl _)⟩
    | str _ => exact .inr ⟨j, nobl_top hv (fun b e => by cases e), rfl, (show OutOk X.K H Z Q (.d (.bool (xor n false))) from ho) _ (.bl _)⟩
    | list _ => exact .inr ⟨j, nobl_top hv (fun b e => by cases e), rfl, (show OutOk X.K H Z Q (.d (.bool (xor n false))) from ho) _ (.bl _)⟩
    | tuple _ => exact .inr ⟨j, nobl_top hv (fun b e => by cases e), rfl, (show OutOk X.K H Z Q (.d (.bool (xor n false))) from ho) _ (.bl _)⟩
    | dict _ => exact .inr ⟨j, nobl_top hv (fun b e => by cases e), rfl, (show OutOk X.K H Z Q (.d (.bool (xor n false))) from ho) _ (.bl _)⟩
  | _ => cases d <;> exact False.elim ho
theorem c_is : CmpOk X .Is (oIs false) := ⟨_, .or (.or op_isBl op_isN) op_isOth, by
  intro H Z v w d e Q hz hv hw ho
  have h := says_is (n := false) H Z v w d e Q hz hv hw ho
  simp only [Bool.false_xor] at h
  exact h⟩
theorem c_isnot : CmpOk X .IsNot (oIs true) := ⟨_, .or (.or op_notBl op_notN) op_notOth, by
  intro H Z v w d e Q hz hv hw ho
  have h := says_is (n := true) H Z v w d e Q hz hv hw ho
  simp only [Bool.true_xor] at h
  exact h⟩
/-- in: flat things of a list or tuple; a text of a text of one sign -/
def flatD : PyData → Bool
  | .none | .bool _ | .int _ | .str _ => true
  | _ => false
def inD (n : Bool) (d : PyData) (ds : List PyData) : Out := if (flatD d && ds.all flatD) = true then .d (.bool (xor n (ds.any fun y => PyData.eqv y d))) else .bad
def oIn (n : Bool) : PyData → PyData → Out
  | d, .list ds => inD n d ds
  | d, .tuple ds => inD n d ds
  | _, _ => .bad
theorem flat_v {K : PySem.W.Frag} {Z : Hp} {v : V} {d : PyData} (h : Dp K Z v d) (f : flatD d = true) : flatV v = true := by
  cases h <;> first | rfl | cases f
theorem flat_vs {K : PySem.W.Frag} {Z : Hp} : ∀ {vs : List V} {ds : List PyData}, DpAll K Z vs ds → ds.all flatD = true → vs.all flatV = true
  | _, _, .nil, _ => rfl
  | _, _, .cons h t, f => by
    rw [List.all_cons, Bool.and_eq_true] at f ⊢
    exact ⟨flat_v h f.1, flat_vs t f.2⟩
theorem eqv_flat {K : PySem.W.Frag} {Z : Hp} {v w : V} {d e : PyData} (h : Dp K Z v d) (h2 : Dp K Z w e) (f : flatD d = true) (g : flatD e = true) : eqV v w = PyData.eqv d e := by
  cases h with
  | lst _ _ => cases f
  | tup _ _ => cases f
  | _ =>
    cases h2 with
    | lst _ _ => cases g
    | tup _ _ => cases g
    | _ => simp only [eqV, PyData.eqv] <;> first | rfl | skip
theorem any_flat {K : PySem.W.Frag} {Z : Hp} {w : V} {e : PyData} (h2 : Dp K Z w e) (g : flatD e = true) : ∀ {vs : List V} {ds : List PyData}, DpAll K Z vs ds → ds.all flatD = true → inV w vs = ds.any fun y => PyData.eqv y e
  | _, _, .nil, _ => rfl
  | _, _, .cons h t, f => by
    rw [List.all_cons, Bool.and_eq_true] at f
    have ih := any_flat h2 g t f.2
    unfold inV at ih ⊢
    rw [List.any_cons, List.any_cons, ih, eqv_flat h h2 f.1 g]
theorem says_in {n : Bool} : Says2 X.K (oIn n) (rIn X.K n) := by
  intro H Z v w d e Q hz hv hw ho
  have fin : ∀ (ds : List PyData) (p : Addr) (xs : List V), w = .ref p → (SqL X.K H p xs ∨ SqT X.K H p xs) → DpAll X.K Z xs ds → OutOk X.K H Z Q (inD n d ds) → rIn X.K n v w H Q := fun ds p xs ew hs hd ho => by
    unfold inD at ho
    by_cases hc : (flatD d && ds.all flatD) = true
    · rw [if_pos hc] at ho
      rw [Bool.and_eq_true] at hc
      have nd : ∀ kv, d ≠ .dict kv := fun kv e => by subst e; cases hc.1
      have hvd := hv.dp hz nd
      have hd' := dpAll_mono hz hd
      refine ⟨p, xs, ew, hs, flat_v hvd hc.1, flat_vs hd' hc.2, ?_⟩
      have e1 := any_flat hvd hc.1 hd' hc.2
      have e2 : (if n = true then !inV v xs else inV v xs) = xor n (ds.any fun y => PyData.eqv y d) := by
        rw [e1]; cases n <;> simp
      rw [e2]
      exact ho _ (.bl _)
    · rw [if_neg hc] at ho; exact ho.elim
  cases e with
  | list ds =>
    obtain ⟨p, xs, ew, hs, hd⟩ := hw.list hz
    exact fin ds p xs ew (.inl hs) hd (by cases d <;> exact ho)
  | tuple ds =>
    obtain ⟨p, xs, ew, hs, hd⟩ := hw.tup hz
    exact fin ds p xs ew (.inr hs) hd (by cases d <;> exact ho)
  | _ => cases d <;> exact False.elim ho
theorem c_in : CmpOk X .In (oIn false) := ⟨_, op_in_seq, says_in⟩
theorem c_notin : CmpOk X .NotIn (oIn true) := ⟨_, op_notIn_seq, says_in⟩

theorem op2_imp {f : PyData → PyData → Out} {r : R2} {p q : M Od} {sg : L2.St} {H : Hp} {Q : VK} (hf : Says2 X.K f r) (h : tV ⟨X.K, T⟩ E (op2 f p q) sg H Q) : tOp r (tO ⟨X.K, T⟩ E p) (tO ⟨X.K, T⟩ E q) sg H Q := by
  obtain ⟨en, Z, r0, q⟩ := h
  exact ⟨en, Z, r0, post_mono (post_bnd r0 q) fun x en1 H1 Z1 _ ⟨a1, q1⟩ v hv => ⟨en1, Z1, a1.rel, post_mono (post_bnd a1.rel q1) fun y en2 H2 Z2 _ ⟨a2, q2⟩ w hw => by
    cases hl : look en2 x with
    | none => simp only [hl] at q2; exact q2.elim
    | some d =>
      cases hl2 : look en2 y with
      | none => simp only [hl, hl2] at q2; exact q2.elim
      | some d2 =>
        simp only [hl, hl2] at q2
        exact hf H2 Z2 v w d d2 Q a2.rel.sub (top_of a2.rel (od_mono a2 hv) hl) (top_of a2.rel hw hl2) (out_ok (sg0 := sg) a2.rel (a1.trans a2 r0) q2)⟩⟩
theorem gt_cmp {op : CmpOp} {f : PyData → PyData → Out} (c : CmpOk X op f) (ha : GO T E X a p) (hb : GO T E X b q) (hm : behindInMarks op b = false := by first | exact nomark _ | (with_unfolding_all rfl)) : GT T E X (.Compare a [op] [b] pos) (tst (fz (op2 f p q))) := by
  obtain ⟨r, ho, hs⟩ := c
  exact pt_imp (pt_cmpR ho ha hb hm) fun sg H Q q => op2_imp hs (fz_v (tst_ok q))
theorem ge_cmp {op : CmpOp} {f : PyData → PyData → Out} (c : CmpOk X op f) (ha : GO T E X a p) (hb : GO T E X b q) (hm : behindInMarks op b = false := by first | exact nomark _ | (with_unfolding_all rfl)) : GE T E X (.Compare a [op] [b] pos) (op2 f p q) := by
  obtain ⟨r, ho, hs⟩ := c
  exact ge_op2 ha hb (fun _ _ h1 h2 => pe_cmpR ho h1 h2 hm) hs
/-- a op b op' c: the middle is looked at once -/
def op2c (f g : PyData → PyData → Out) (p q w : M Od) : M Vl := bnd p fun x => bnd q fun y => fun en => match look en x, look en y with
  | some d, some e => (match f d e with
    | .d (.bool true) => bnd w (fun z => fun en => match look en y, look en z with
      | some e, some c => out (g e c) en
      | _, _ => .bad) en
    | .d (.bool false) => .ok (.sh (.bool false)) en
    | _ => .bad)
  | _, _ => .bad
theorem chain_imp {f g : PyData → PyData → Out} {r r' : R2} {w : M Od} {sg : L2.St} {H : Hp} {Q : VK} (hs : Says2 X.K f r) (hs' : Says2 X.K g r') (h : tV ⟨X.K, T⟩ E (op2c f g p q w) sg H Q) : tChain r r' (tO ⟨X.K, T⟩ E p) (tO ⟨X.K, T⟩ E q) (tO ⟨X.K, T⟩ E w) sg H Q := by
  obtain ⟨en, Z, r0, q⟩ := h
  refine ⟨en, Z, r0, post_mono (post_bnd r0 q) fun x en1 H1 Z1 _ ⟨a1, q1⟩ v hv => ⟨en1, Z1, a1.rel, post_mono (post_bnd a1.rel q1) fun y en2 H2 Z2 _ ⟨a2, q2⟩ u hu => ?_⟩⟩
  cases hl : look en2 x with
  | none => simp only [hl] at q2; exact q2.elim
  | some d =>
    cases hl2 : look en2 y with
    | none => simp only [hl, hl2] at q2; exact q2.elim
    | some d2 =>
      simp only [hl, hl2] at q2
      refine hs H2 Z2 v u d d2 _ a2.rel.sub (top_of a2.rel (od_mono a2 hv) hl) (top_of a2.rel hu hl2) ?_
      cases hf : f d d2 with
      | d o =>
        rw [hf] at q2
        cases o with
        | bool t =>
          intro z hz
          cases hz
          refine ⟨t, rfl, ?_⟩
          cases t with
          | true =>
            rw [if_pos rfl]
            refine ⟨en2, Z2, a2.rel, post_mono (post_bnd a2.rel q2) fun z en3 H3 Z3 _ ⟨a3, q3⟩ t ht => ?_⟩
            cases hl3 : look en3 y with
            | none => simp only [hl3] at q3; exact q3.elim
            | some d3 =>
              cases hl4 : look en3 z with
              | none => simp only [hl3, hl4] at q3; exact q3.elim
              | some d4 =>
                simp only [hl3, hl4] at q3
                exact hs' H3 Z3 u t d3 d4 Q a3.rel.sub (top_of a3.rel (od_mono a3 hu) hl3) (top_of a3.rel ht hl4) (out_ok (sg0 := sg) a3.rel ((a1.trans a2 r0).trans a3 r0) q3)
          | false =>
            rw [if_neg (by decide)]
            exact q2 H2 Z2 (Aft.refl a2.rel) (.bl false) (.bl false)
        | _ => exact False.elim q2
      | nl _ => rw [hf] at q2; exact False.elim q2
      | nt _ => rw [hf] at q2; exact False.elim q2
      | nd _ => rw [hf] at q2; exact False.elim q2
      | bad => rw [hf] at q2; exact False.elim q2
theorem ge_chain {op op' : CmpOp} {f g : PyData → PyData → Out} {c : Expr} {w : M Od} (c1 : CmpOk X op f) (c2 : CmpOk X op' g) (ha : GO T E X a p) (hb : GO T E X b q) (hc : GO T E X c w)
    (hm : lastMarks [op, op'] [b, c] = false := by with_unfolding_all rfl) : GE T E X (.Compare a [op, op'] [b, c] pos) (op2c f g p q w) := by
  obtain ⟨r, ho, hs⟩ := c1
  obtain ⟨r', ho', hs'⟩ := c2
  exact pe_imp (pe_chain ho ho' ha hb hc hm) fun sg H Q h => chain_imp hs hs' h
theorem gt_chain {op op' : CmpOp} {f g : PyData → PyData → Out} {c : Expr} {w : M Od} (c1 : CmpOk X op f) (c2 : CmpOk X op' g) (ha : GO T E X a p) (hb : GO T E X b q) (hc : GO T E X c w)
    (hm : lastMarks [op, op'] [b, c] = false := by with_unfolding_all rfl) : GT T E X (.Compare a [op, op'] [b, c] pos) (tst (fz (op2c f g p q w))) := by
  obtain ⟨r, ho, hs⟩ := c1
  obtain ⟨r', ho', hs'⟩ := c2
  exact pt_imp (pt_chain ho ho' ha hb hc hm) fun sg H Q h => chain_imp hs hs' (fz_v (tst_ok h))
end
end ZD

/-! sorted(..) of trees -/
namespace ZS
open PySem PySem.W PySem.Calls PyProof.Rows PySem.Spec

section
variable {prog : Program} {w : World} {A : Around} {E : Value → Shared → Prop} {s s1 : Shared} {vs : List Value} {ds : List PyData} {R : Value → PyData → Prop}
/-- the sort of a new list -/
theorem sort_new {Q : Value → Shared → Prop} (e : EachIs R vs ds) (er : EachIs (fun v d => ∃ as, Reads s1.heap v d as) vs ds) (hal : AllAlike ds) (hk : Sortable ds) (hL : ds.length ≤ sizeLine)
    (hu : ∀ d, d ∈ ds → A.units + 1 + d.depth < cLine) (h : ∀ out, out.length = ds.length → EachIs R out (ds.mergeSort (dataLe false fun d => d)) → Q .none { s1 with heap := sortedHeap (s1.heap.push (seqObj "list" vs.toArray 0)) s1.heap.objs.size vs (List.toArray out) }) :
    wpAny (model prog w) A (call (.builtin "list.sort") [.ref s1.heap.objs.size]) Q E { s1 with heap := s1.heap.push (seqObj "list" vs.toArray 0) } := by
  have eid : ds.map (fun d => d) = ds := List.map_id' ds
  have ho : (s1.heap.push (seqObj "list" vs.toArray 0)).get? s1.heap.objs.size = some (seqObj "list" vs.toArray 0) := Heap.get?_push_size _ rfl
  have er' : EachIs (fun v d => ∃ as, Reads (sortingHeap (s1.heap.push (seqObj "list" vs.toArray 0)) s1.heap.objs.size vs) v ((fun d => d) d) as) vs ds :=
    er.mono fun _ _ ⟨as, r⟩ => ⟨as, PyProof.Rows.Reads.keeps (fun b o q => sortingHeap_old (Nat.ne_of_lt (Heap.lt_size q)) (Heap.get?_push_of_some _ q)) r⟩
  refine wpAny_call_entry slot_list_sort ⟨_, ho, rfl⟩ entry_list_sort (list_sort_vals (κ := dataKind (sortingHeap (s1.heap.push (seqObj "list" vs.toArray 0)) s1.heap.objs.size vs) (ds.map fun d => d)) ho
    (SortsAt.data (s := { s1 with heap := sortingHeap (s1.heap.push (seqObj "list" vs.toArray 0)) s1.heap.objs.size vs }) (each_map (R := fun v d => ∃ as, Reads (sortingHeap (s1.heap.push (seqObj "list" vs.toArray 0)) s1.heap.objs.size vs) v d as) (fun d => d) er') (by rw [eid]; exact hal) (by rw [eid]; exact hk) (bound_map hu)) (by rw [e.length]; exact hL) ⟨.none, rfl, ?_⟩) (args_list_sort _)
  exact h _ (by rw [sortVals_length false rfl]; exact e.length) (sortVals_data false e er' (by rw [eid]; exact hal))
/-- sorted(v), v any thing whose items are collected -/
theorem sorted_of {v : Value} {Q : Value → Shared → Prop} {C : List Value → Shared → Prop} (hc : wpAny (model prog w) A.in1 (collect v) C E s) (hn : ∀ vs s1, C vs s1 → vs.length ≤ sizeLine)
    (h : ∀ vs s1, C vs s1 → wpAny (model prog w) A.in1 (call (.builtin "list.sort") [.ref s1.heap.objs.size]) (fun _ s' => Q (.ref s1.heap.objs.size) s') E { s1 with heap := s1.heap.push (seqObj "list" vs.toArray 0) }) :
    wpAny (model prog w) A (call (.builtin "sorted") [v]) Q E s := by
  refine call_function_entry kind_sorted plain_sorted entry_sorted (args_sorted1 _) ?_
  unfold Builtin.«sorted»
  refine wpAny_bind (m := checkCount "sorted" 1 1 _) (wpAny_pure ?_)
  refine wpAny_bind (wpAny_mono hc (fun vs s1 hv => ?_) fun _ _ e => e)
  refine wpAny_bind (wpAny_newList ?_ (hn vs s1 hv))
  refine wpAny_bind (wpAny_holding (wpAny_mono (h vs s1 hv) (fun _ s' x => ?_) fun _ _ e => e))
  exact wpAny_pure ⟨_, rfl, x⟩
end
end ZS

namespace ZD
open PySem PySem.Spec PyProof.Rows L2 GxR ZG
/-- trees that sorted() takes here -/
def sortOk (ds : List PyData) : Bool := (ds.all fun d => ds.all fun e => PySem.W.alike d e) && ((ds.all fun d => match d with | .tuple (_ :: _) => true | _ => false) || (ds.all fun d => match d with | .tuple _ => false | .none => false | _ => true)) && (ds.all fun d => decide (d.depth ≤ 64)) && decide (ds.length ≤ 1000000)
def sortD (ds : List PyData) : List PyData := ds.mergeSort (PySem.W.dataLe false fun d => d)
theorem sortOk_of {ds : List PyData} (h : sortOk ds = true) : PySem.W.AllAlike ds ∧ PySem.W.Sortable ds ∧ (∀ d ∈ ds, d.depth ≤ 64) ∧ ds.length ≤ 1000000 := by
  unfold sortOk at h
  simp only [Bool.and_eq_true, Bool.or_eq_true, List.all_eq_true, decide_eq_true_eq] at h
  obtain ⟨⟨⟨h1, h2⟩, h3⟩, h4⟩ := h
  refine ⟨fun d hd e he => h1 d hd e he, ?_, h3, h4⟩
  rcases h2 with h2 | h2
  · refine .inl fun d hd => ?_
    have := h2 d hd
    cases d with
    | tuple xs =>
      cases xs with
      | nil => cases this
      | cons x r => exact ⟨x, r, rfl⟩
    | _ => cases this
  · refine .inr fun d hd => ?_
    have := h2 d hd
    cases d with
    | tuple xs => cases this
    | none => cases this
    | _ => exact ⟨(fun e => by cases e), fun xs e => by cases e⟩
def ValDp (K : PySem.W.Frag) (Z : Hp) (u : Value) (d : PyData) : Prop := ∃ x, RelV x u ∧ Dp K Z x d
theorem each_of {K : PySem.W.Frag} {Z : Hp} : ∀ {vs : List V} {us : List Value} {ds : List PyData}, Vals vs us → DpAll K Z vs ds → PySem.W.EachIs (ValDp K Z) us ds
  | _, _, _, .nil, .nil => .nil
  | _, _, _, .cons r t, .cons h q => .cons ⟨_, r, h⟩ (each_of t q)
theorem of_each {K : PySem.W.Frag} {Z : Hp} : ∀ {us : List Value} {ds : List PyData}, PySem.W.EachIs (ValDp K Z) us ds → ∃ vs, Vals vs us ∧ DpAll K Z vs ds
  | _, _, .nil => ⟨[], .nil, .nil⟩
  | _, _, .cons ⟨x, r, h⟩ t => by
    obtain ⟨vs, h1, h2⟩ := of_each t
    exact ⟨x :: vs, .cons r h1, .cons h h2⟩
section
variable {X : Cx}
/-- sorted(xs) of a list or tuple -/
def rSortedD (K : PySem.W.Frag) : List V → Hp → VK → Prop := fun vs H Q => ∃ (a : Addr) (xs : List V) (ds : List PyData) (Z : Hp), (∀ a o, Z a = some o → H a = some o) ∧ vs = [V.ref a] ∧ (SqL K H a xs ∨ SqT K H a xs) ∧ DpAll K Z xs ds ∧ sortOk ds = true ∧
  ∀ (ys : List V) (p : Addr), DpAll K Z ys (sortD ds) → H p = none → Q (.ref p) (upd H p (.lst ys))
theorem cr_sortedD {k : Nat} (hr : Room k X.A) : CallR X (.builtin "sorted") (rSortedD X.K) := by
  intro pins s σ H vs us Q I r h
  obtain ⟨a, xs, ds, Z, hzh, rfl, hs, hd, hok, q⟩ := h
  rw [Vals.ref1 r]
  obtain ⟨hal, hk, hdep, hlen⟩ := sortOk_of hok
  have hmil : 1000000 ≤ sizeLine := by rw [sizeLine_eq]; decide
  obtain ⟨its, rv, hz, T, o, n, hT, ho, hc, hdat⟩ : ∃ its : List Value, Vals xs its ∧ xs.length ≤ sizeLine ∧ ∃ (T : String) (o : Obj) (n : Nat), (T = "list" ∨ T = "tuple") ∧ s.heap.get? a = some o ∧ o.cls = .type T ∧ o.data = .seq its.toArray n := by
    rcases hs with hs | hs
    · obtain ⟨its, rv, ⟨o, n, ho, hc, _, hdd⟩, hz⟩ := I.list hs
      exact ⟨its, rv, hz, "list", o, n, .inl rfl, ho, hc, hdd⟩
    · obtain ⟨its, rv, ⟨o, ho, hc, n, hdd⟩, hz⟩ := I.tuple hs
      exact ⟨its, rv, hz, "tuple", o, n, .inr rfl, ho, hc, hdd⟩
  have hln := rv.length
  have hu := hr.un
  refine ZS.sorted_of (C := fun vs s1 => vs = its ∧ ∃ h', s1 = { s with heap := h' } ∧ ∀ b o, s.heap.get? b = some o → h'.get? b = some o)
    (wpAny_collect_seq a hT ho hc hdat (fun h' kp => ⟨by simp, h', rfl, kp⟩) (by simp only [List.size_toArray]; omega)) (fun vs s1 hv => by rw [hv.1]; omega) fun vs s1 hv => ?_
  obtain ⟨rfl, h', rfl, kp⟩ := hv
  have I1 : Inv X pins σ H { s with heap := h' } := I.kept (t' := s.toks) kp
  obtain ⟨as, rd⟩ := Dp.readsAll I1 ds xs vs (dpAll_mono hzh hd) rv
  have er : PySem.W.EachIs (fun v d => ∃ as, Reads h' v d as) vs ds := by
    have e := PySem.W.readsAll_each (fun d => d) (h := h') (vs := vs) (bs := ds) (as := as) (by rw [List.map_id']; exact rd)
    exact e
  refine ZS.sort_new (R := ValDp X.K Z) (each_of rv hd) er hal hk (by omega) (fun d hd' => ?_) fun out hol eo => ?_
  · have h1 := hdep d hd'
    show X.A.units + 1 + 1 + d.depth < cLine
    omega
  · obtain ⟨ys, y1, y2⟩ := of_each eo
    obtain ⟨ep, he⟩ := sortedHeap_at (h := h'.push (seqObj "list" vs.toArray 0)) (a := h'.objs.size) (vs := vs) (n := 0) (out := out.toArray) (Heap.get?_push_size _ rfl)
    have hyl : ys.length ≤ sizeLine := by rw [dpa_length y2]; unfold sortD at *; rw [List.length_mergeSort]; omega
    refine ⟨.ref h'.objs.size, upd H h'.objs.size (.lst ys), I1.laid (t' := s.toks) (fun b o e => ?_) (Nat.le_refl _) ⟨hyl, out, ep, y1, he⟩, rfl, q ys _ y2 (I1.hok.fresh (Nat.le_refl _))⟩
    have hb : b < h'.objs.size := Heap.lt_size e
    rw [sortedHeap_old (Nat.ne_of_lt hb) (by rw [size_push']; exact Nat.lt_succ_of_lt hb)]
    exact Heap.get?_push_of_some _ e
end
end ZD

namespace ZD
open PySem PySem.Spec PyProof.Rows L2 GxR ZG

theorem dpa_at {K : PySem.W.Frag} {Z : Hp} {vs : List V} {ds : List PyData} {i : Int} {d : PyData} (h : DpAll K Z vs ds) (e : atI ds i = some d) : ∃ v, atI vs i = some v ∧ Dp K Z v d := by
  unfold atI at e ⊢
  rw [dpa_length h]
  cases q : ixN ds.length i with
  | none => rw [q] at e; cases e
  | some j => rw [q] at e; exact dpa_get h e
/-! ### a[i] -/
def gotD : Option PyData → Out
  | some d => .d d
  | none => .bad
def oIx : PyData → PyData → Out
  | .list ds, .int i => gotD (atI ds i)
  | .tuple ds, .int i => gotD (atI ds i)
  | .str z, .int i => if z.length ≤ 1000000 then gotD ((atI z.cps.toList i).map fun c => .str ⟨#[c]⟩) else .bad
  | _, _ => .bad
section
variable {T : List Addr} {E : Wish} {X : Cx} {a b c : Expr} {pos : Pos} {p q w : M Od} {k : Nat}
theorem got_ok {K : PySem.W.Frag} {H Z : Hp} {Q : VK} {o : Option PyData} (h : OutOk K H Z Q (gotD o)) : ∃ d, o = some d ∧ ∀ v, Dp K Z v d → Q v H := by
  cases o with
  | none => exact False.elim h
  | some d => exact ⟨d, rfl, h⟩
theorem says_ix : Says2 X.K oIx (fun x y H Q => rIxL X.K x y H Q ∨ (rIxT X.K x y H Q ∨ rIxS x y H Q)) := by
  intro H Z v w d e Q hz hv hw ho
  have hm := million
  cases d with
  | list ds =>
    cases e with
    | int i =>
      obtain ⟨l, xs, rfl, h1, h2⟩ := hv.list hz
      cases hw.int
      obtain ⟨y, e1, q⟩ := got_ok (show OutOk X.K H Z Q (gotD (atI ds i)) from ho)
      obtain ⟨u, e2, hd⟩ := dpa_at h2 e1
      exact .inl ⟨l, xs, i, u, rfl, rfl, h1, e2, q u hd⟩
    | _ => exact False.elim ho
  | tuple ds =>
    cases e with
    | int i =>
      obtain ⟨l, xs, rfl, h1, h2⟩ := hv.tup hz
      cases hw.int
      obtain ⟨y, e1, q⟩ := got_ok (show OutOk X.K H Z Q (gotD (atI ds i)) from ho)
      obtain ⟨u, e2, hd⟩ := dpa_at h2 e1
      exact .inr (.inl ⟨l, xs, i, u, rfl, rfl, h1, e2, q u hd⟩)
    | _ => exact False.elim ho
  | str z =>
    cases e with
    | int i =>
      cases hv.str
      cases hw.int
      simp only [oIx] at ho
      by_cases hc : z.length ≤ 1000000
      · rw [if_pos hc] at ho
        obtain ⟨y, e1, q⟩ := got_ok ho
        obtain ⟨c, e2, rfl⟩ := Option.map_eq_some_iff.mp e1
        exact .inr (.inr ⟨z, i, c, rfl, rfl, by omega, e2, q _ (.str _)⟩)
      · rw [if_neg hc] at ho; exact ho.elim
    | _ => exact False.elim ho
  | _ => exact False.elim ho
theorem ge_ix (ha : GO T E X a p) (hb : GO T E X b q) (hs : PlainIx b := by intro _ _; rfl) : GE T E X (.Subscript a b pos) (op2 oIx p q) :=
  ge_op2 ha hb (fun _ _ h1 h2 => pe_ix (ix_list.or (ix_tup.or ix_str)) h1 h2 hs) says_ix

/-! ### a new thing is looked at (once) -/
/-- f of a value and of a thing that is looked at -/
def opv2 (f : PyData → PyData → Out) (m : M Vl) (q : M Od) : M Vl := bnd m fun x => bnd q fun y => fun en => match look en y with
  | some e => out (f x.d e) en
  | none => .bad
theorem top_vl {k : Kx} {sg0 sg1 sg : L2.St} {H0 H1 H Z1 Z : Hp} {en0 en1 en : En} {v : V} {x : Vl} (r1 : Rel k sg1 H1 Z1 en1) (hv : VlOk k sg0 H0 en0 sg1 H1 Z1 en1 v x) (a : Aft k sg1 H1 Z1 en1 sg H Z en) : Top k.K H Z v x.d := by
  cases x with
  | sh d => exact .inl (dp_mono a.zz hv)
  | ow d =>
    obtain ⟨b, rfl, hz, ho, nm, _⟩ := hv
    obtain ⟨o, h1, h2, _⟩ := ho.here
    exact .inr ⟨b, rfl, ho.mono (fun o' q => a.keep b o' q nm (not_tab r1 h1 h2)) a.zz⟩
theorem ge_opv2 {f : PyData → PyData → Out} {r : R2} {m : M Vl} {e : Expr} (ha : GE T E X a m) (hb : GO T E X b q) (hB : ∀ ta tb, PE X a ta → PE X b tb → PE X e (tOp r ta tb)) (hf : Says2 X.K f r) : GE T E X e (opv2 f m q) :=
  pe_imp (hB _ _ ha hb) fun sg H Q ⟨en, Z, r0, q⟩ => ⟨en, Z, r0, post_mono (post_bnd r0 q) fun x en1 H1 Z1 _ ⟨a1, q1⟩ v hv => ⟨en1, Z1, a1.rel, post_mono (post_bnd a1.rel q1) fun y en2 H2 Z2 _ ⟨a2, q2⟩ w hw => by
    cases hl2 : look en2 y with
    | none => simp only [hl2] at q2; exact q2.elim
    | some d2 =>
      simp only [hl2] at q2
      exact hf H2 Z2 v w x.d d2 Q a2.rel.sub (top_vl a1.rel hv a2) (top_of a2.rel hw hl2) (out_ok (sg0 := sg) a2.rel (a1.trans a2 r0) q2)⟩⟩
theorem ge_ixv {m : M Vl} (ha : GE T E X a m) (hb : GO T E X b q) (hs : PlainIx b := by intro _ _; rfl) : GE T E X (.Subscript a b pos) (opv2 oIx m q) :=
  ge_opv2 ha hb (fun _ _ h1 h2 => pe_ix (ix_list.or (ix_tup.or ix_str)) h1 h2 hs) says_ix

/-! ### a[lo:hi] -/
def cutD (xs : List PyData) (lo hi : Option Int) : List PyData := (xs.drop (HT.sIx xs.length 0 lo)).take (HT.sIx xs.length xs.length hi - HT.sIx xs.length 0 lo)
theorem dpa_cut {K : PySem.W.Frag} {Z : Hp} {vs : List V} {ds : List PyData} (lo hi : Option Int) (h : DpAll K Z vs ds) : DpAll K Z (cutV vs lo hi) (cutD ds lo hi) := by
  unfold cutV cutD
  rw [dpa_length h]
  exact dpa_take _ (dpa_drop _ h)
def oSl (lo hi : Option Int) : PyData → Out
  | .list ds => .nl (cutD ds lo hi)
  | .tuple ds => .nt (cutD ds lo hi)
  | .str z => if z.length ≤ 1000000 then .d (.str (cutS z lo hi)) else .bad
  | _ => .bad
def tP (k : Kx) (E : Wish) (m : M (Option Int)) : TO := fun sg H Q => ∃ en Z, Rel k sg H Z en ∧ Post k E sg H Z en (m en) fun x _ H' Z' => Q x H'
abbrev GP (T : List Addr) (E : Wish) (X : Cx) (e : Option Expr) (m : M (Option Int)) : Prop := PO X e (tP ⟨X.K, T⟩ E m)
theorem po_imp {X : Cx} {e : Option Expr} {t u : TO} (h : PO X e t) (i : ∀ sg H Q, u sg H Q → t sg H Q) : PO X e u := ⟨fun pins s sg H Q I q => h.run pins s sg H Q I (i _ _ _ q)⟩
def pno : M (Option Int) := ret none
def pso (p : M Od) : M (Option Int) := bnd p fun x => fun en => match look en x with
  | some (.int i) => .ok (some i) en
  | _ => .bad
theorem gp_no : GP T E X none pno := po_imp po_none fun sg H Q ⟨en, Z, r, q⟩ => post_ret r q
theorem gp_so (ha : GO T E X a p) : GP T E X (some a) (pso p) := po_imp (po_some ha) fun sg H Q ⟨en, Z, r, q⟩ => ⟨en, Z, r, post_mono (post_bnd r q) fun x en1 H1 Z1 _ ⟨a1, q1⟩ v hv => by
  cases hl : look en1 x with
  | none => simp only [hl] at q1; exact q1.elim
  | some d =>
    have ht := top_of a1.rel hv hl
    cases d with
    | int i => simp only [hl] at q1; exact ⟨i, ht.int, q1 H1 Z1 (Aft.refl a1.rel)⟩
    | _ => simp only [hl] at q1; exact q1.elim⟩
def mslice (p : M Od) (l u : M (Option Int)) : M Vl := bnd p fun x => bnd l fun lo => bnd u fun hi => fun en => match look en x with
  | some d => out (oSl lo hi d) en
  | none => .bad
def rSl (K : PySem.W.Frag) : V → Option Int → Option Int → Hp → VK → Prop := fun x lo hi H Q => rSlL K x lo hi H Q ∨ (rSlA K x lo hi H Q ∨ rSlS x lo hi H Q)
theorem says_sl {H Z : Hp} {v : V} {d : PyData} {Q : VK} {lo hi : Option Int} (hz : ∀ a o, Z a = some o → H a = some o) (hv : Top X.K H Z v d) (ho : OutOk X.K H Z Q (oSl lo hi d)) : rSl X.K v lo hi H Q := by
  have hm := million
  cases d with
  | list ds =>
    obtain ⟨l, xs, rfl, h1, h2⟩ := hv.list hz
    exact .inl ⟨l, xs, rfl, h1, fun p hp => ho p _ hp (dpa_cut lo hi h2)⟩
  | tuple ds =>
    have hv0 := hv
    obtain ⟨l, xs, rfl, h1, h2⟩ := hv.tup hz
    have dv : Dp X.K Z (.ref l) (.tuple ds) := by rcases hv0 with z | ⟨a, _, z⟩; exact z; cases z
    refine .inr (.inl ⟨l, xs, rfl, h1, fun z => ho.1 _ ?_, fun _ p hp => ho.2 p _ hp (dpa_cut lo hi h2)⟩)
    have e : cutD ds lo hi = ds := by
      have hl := dpa_length h2
      unfold cutD
      rw [← hl, z.1, z.2, List.drop_zero, Nat.sub_zero, hl, List.take_length]
    rw [e]
    exact dv
  | str z =>
    cases hv.str
    simp only [oSl] at ho
    by_cases hc : z.length ≤ 1000000
    · rw [if_pos hc] at ho
      exact .inr (.inr ⟨z, rfl, by omega, ho _ (.str _)⟩)
    · rw [if_neg hc] at ho; exact ho.elim
  | _ => exact False.elim ho
theorem ge_slice {l u : M (Option Int)} {lo hi : Option Expr} {p2 : Pos} (ha : GO T E X a p) (hl : GP T E X lo l) (hu : GP T E X hi u) : GE T E X (.Subscript a (.Slice lo hi none p2) pos) (mslice p l u) :=
  pe_imp (pe_slice (SlR.or sl_list (SlR.or sl_tupA sl_str)) ha hl hu) fun sg H Q ⟨en, Z, r0, q⟩ => ⟨en, Z, r0, post_mono (post_bnd r0 q) fun x en1 H1 Z1 _ ⟨a1, q1⟩ v hv => ⟨en1, Z1, a1.rel, post_mono (post_bnd a1.rel q1) fun lo en2 H2 Z2 _ ⟨a2, q2⟩ =>
    ⟨en2, Z2, a2.rel, post_mono (post_bnd a2.rel q2) fun hi en3 H3 Z3 _ ⟨a3, q3⟩ => by
    cases hl : look en3 x with
    | none => simp only [hl] at q3; exact q3.elim
    | some d =>
      simp only [hl] at q3
      exact says_sl a3.rel.sub (top_of a3.rel (od_mono a3 (od_mono a2 hv)) hl) (out_ok (sg0 := sg) a3.rel ((a1.trans a2 r0).trans a3 r0) q3)⟩⟩⟩

/-! ### built-in functions of one, of two things -/
theorem ge_cb1 {x : Str} {px : Pos} {id : String} {f : PyData → Out} {r : List V → Hp → VK → Prop} (hc : CallR X (.builtin id) r) (hv : bootBuiltins x = some (.builtin id)) (hf : Says1 X.K f fun v H Q => r [v] H Q) (hg : Gl X x) (hm : X.mg x = none) (ha : GO T E X a p)
    (hn : x ≠ "__name__" := by decide) (hdb : (x == ("__debug__" : Str)) = false := by decide) (he : starEach [a] X.env = (false, eval a X.env) :: starEach [] X.env := by rfl) (hpl : (backTo pos (starEach [] X.env)).any (·.1) = false := by rfl) : GE T E X (.Call (.Name x px) [a] [] pos) (op1 f p) :=
  ge_op1 ha (fun ta h => pe_callB hc hg hm hv (pa_cons h pa_nil he) hn hdb he hpl) hf
theorem ge_ct1 {x : Str} {px : Pos} {id : String} {f : PyData → Out} {r : List V → Hp → VK → Prop} (hc : CallR X (.type id) r) (hv : bootBuiltins x = some (.type id)) (hf : Says1 X.K f fun v H Q => r [v] H Q) (hg : Gl X x) (hm : X.mg x = none) (ha : GO T E X a p)
    (hn : x ≠ "__name__" := by decide) (hdb : (x == ("__debug__" : Str)) = false := by decide) (he : starEach [a] X.env = (false, eval a X.env) :: starEach [] X.env := by rfl) (hpl : (backTo pos (starEach [] X.env)).any (·.1) = false := by rfl) : GE T E X (.Call (.Name x px) [a] [] pos) (op1 f p) :=
  ge_op1 ha (fun ta h => pe_callTy hc hg hm hv (pa_cons h pa_nil he) hn hdb he hpl) hf
theorem ge_cb2 {x : Str} {px : Pos} {id : String} {f : PyData → PyData → Out} {r : List V → Hp → VK → Prop} (hc : CallR X (.builtin id) r) (hv : bootBuiltins x = some (.builtin id)) (hf : Says2 X.K f fun v w H Q => r [v, w] H Q) (hg : Gl X x) (hm : X.mg x = none) (ha : GO T E X a p) (hb : GO T E X b q)
    (hn : x ≠ "__name__" := by decide) (hdb : (x == ("__debug__" : Str)) = false := by decide) (he : starEach [a, b] X.env = (false, eval a X.env) :: starEach [b] X.env := by rfl) (he2 : starEach [b] X.env = (false, eval b X.env) :: starEach [] X.env := by rfl) (hpl : (backTo pos (starEach [b] X.env)).any (·.1) = false := by rfl) : GE T E X (.Call (.Name x px) [a, b] [] pos) (op2 f p q) :=
  ge_op2 ha hb (fun ta tb h h2 => pe_callB hc hg hm hv (pa_cons h (pa_cons h2 pa_nil he2) he) hn hdb he hpl) hf

theorem boot_len : bootBuiltins "len" = some (.builtin "len") := by decide +kernel
theorem boot_tuple : bootBuiltins "tuple" = some (.type "tuple") := by decide +kernel
theorem boot_list : bootBuiltins "list" = some (.type "list") := by decide +kernel
theorem boot_int : bootBuiltins "int" = some (.type "int") := by decide +kernel
theorem boot_abs : bootBuiltins "abs" = some (.builtin "abs") := by decide +kernel
theorem boot_sorted : bootBuiltins "sorted" = some (.builtin "sorted") := by decide +kernel
theorem boot_sum : bootBuiltins "sum" = some (.builtin "sum") := by decide +kernel
theorem boot_max : bootBuiltins "max" = some (.builtin "max") := by decide +kernel
theorem boot_min : bootBuiltins "min" = some (.builtin "min") := by decide +kernel
theorem boot_isinstance : bootBuiltins "isinstance" = some (.builtin "isinstance") := by decide +kernel

def oLen : PyData → Out
  | .list ds => .d (.int ds.length)
  | .tuple ds => .d (.int ds.length)
  | .str z => if z.length ≤ 1000000 then .d (.int z.length) else .bad
  | .dict kvs => .d (.int kvs.length)
  | _ => .bad
theorem own_dict {K : PySem.W.Frag} {H Z : Hp} {v : V} {ds : List (PyData × PyData)} (h : Top K H Z v (.dict ds)) : ∃ a kvs, v = .ref a ∧ H a = some (.dK kvs) ∧ ds.map (·.1) = kvs.map (fun p => keyD p.1) ∧ DpAll K Z (kvs.map (·.2)) (ds.map (·.2)) := by
  rcases h with h | ⟨a, rfl, h⟩
  · cases h
  · cases h with
    | dct h1 h2 h3 => exact ⟨a, _, rfl, h1, h2, h3⟩
theorem says_len : Says1 X.K oLen fun v H Q => (fun xs H Q => (∃ x n, xs = [x] ∧ LenV X.K x H n ∧ Q (.int n) H) ∨ ∃ a kvs, xs = [V.ref a] ∧ H a = some (.dK kvs) ∧ Q (.int kvs.length) H) [v] H Q := by
  intro H Z v d Q hz hv ho
  have hm := million
  cases d with
  | list ds =>
    obtain ⟨l, xs, rfl, h1, h2⟩ := hv.list hz
    refine .inl ⟨_, xs.length, rfl, .inl ⟨xs, h1, rfl⟩, ?_⟩
    rw [dpa_length h2]
    exact (show OutOk X.K H Z Q (.d (.int ds.length)) from ho) _ (.int _)
  | tuple ds =>
    obtain ⟨l, xs, rfl, h1, h2⟩ := hv.tup hz
    refine .inl ⟨_, xs.length, rfl, .inr ⟨xs, h1, rfl⟩, ?_⟩
    rw [dpa_length h2]
    exact (show OutOk X.K H Z Q (.d (.int ds.length)) from ho) _ (.int _)
  | str z =>
    cases hv.str
    simp only [oLen] at ho
    by_cases hc : z.length ≤ 1000000
    · rw [if_pos hc] at ho
      exact .inl ⟨_, z.length, rfl, ⟨by omega, rfl⟩, ho _ (.int _)⟩
    · rw [if_neg hc] at ho; exact ho.elim
  | dict ds =>
    obtain ⟨a, kvs, rfl, h1, h2, h3⟩ := own_dict hv
    refine .inr ⟨a, kvs, rfl, h1, ?_⟩
    have e : kvs.length = ds.length := by simpa using (congrArg List.length h2).symm
    rw [e]
    exact (show OutOk X.K H Z Q (.d (.int ds.length)) from ho) _ (.int _)
  | _ => exact False.elim ho
theorem ge_len {px : Pos} (hg : Gl X "len") (hm : X.mg "len" = none) (ha : GO T E X a p) (he : starEach [a] X.env = (false, eval a X.env) :: starEach [] X.env := by rfl) (hpl : (backTo pos (starEach [] X.env)).any (·.1) = false := by rfl) : GE T E X (.Call (.Name "len" px) [a] [] pos) (op1 oLen p) :=
  ge_cb1 (CallR.or call_len call_lenD) boot_len says_len hg hm ha (by decide) (by decide) he hpl
def oTuple : PyData → Out
  | .list ds => .nt ds
  | .tuple ds => .d (.tuple ds)
  | _ => .bad
theorem says_tuple : Says1 X.K oTuple fun v H Q => (fun xs H Q => ∃ p ys, xs = [V.ref p] ∧ ((SqL X.K H p ys ∧ ∀ l, H l = none → Q (.ref l) (upd H l (.tup ys))) ∨ (SqT X.K H p ys ∧ Q (.ref p) H))) [v] H Q := by
  intro H Z v d Q hz hv ho
  cases d with
  | list ds =>
    obtain ⟨l, xs, rfl, h1, h2⟩ := hv.list hz
    exact ⟨l, xs, rfl, .inl ⟨h1, fun p hp => ho.2 p _ hp h2⟩⟩
  | tuple ds =>
    have hv0 := hv
    obtain ⟨l, xs, rfl, h1, h2⟩ := hv.tup hz
    have dv : Dp X.K Z (.ref l) (.tuple ds) := by rcases hv0 with z | ⟨a, _, z⟩; exact z; cases z
    exact ⟨l, xs, rfl, .inr ⟨h1, ho _ dv⟩⟩
  | _ => exact False.elim ho
theorem ge_tuple {px : Pos} (hg : Gl X "tuple") (hm : X.mg "tuple" = none) (ha : GO T E X a p) (he : starEach [a] X.env = (false, eval a X.env) :: starEach [] X.env := by rfl) (hpl : (backTo pos (starEach [] X.env)).any (·.1) = false := by rfl) : GE T E X (.Call (.Name "tuple" px) [a] [] pos) (op1 oTuple p) :=
  ge_ct1 call_tuple_of boot_tuple says_tuple hg hm ha (by decide) (by decide) he hpl
def oList : PyData → Out
  | .list ds => .nl ds
  | .tuple ds => .nl ds
  | _ => .bad
theorem says_list : Says1 X.K oList fun v H Q => (fun xs H Q => ∃ p ys, xs = [V.ref p] ∧ (SqL X.K H p ys ∨ SqT X.K H p ys) ∧ ∀ l, H l = none → Q (.ref l) (upd H l (.lst ys))) [v] H Q := by
  intro H Z v d Q hz hv ho
  cases d with
  | list ds =>
    obtain ⟨l, xs, rfl, h1, h2⟩ := hv.list hz
    exact ⟨l, xs, rfl, .inl h1, fun p hp => ho p _ hp h2⟩
  | tuple ds =>
    obtain ⟨l, xs, rfl, h1, h2⟩ := hv.tup hz
    exact ⟨l, xs, rfl, .inr h1, fun p hp => ho p _ hp h2⟩
  | _ => exact False.elim ho
theorem ge_list {px : Pos} (hg : Gl X "list") (hm : X.mg "list" = none) (ha : GO T E X a p) (he : starEach [a] X.env = (false, eval a X.env) :: starEach [] X.env := by rfl) (hpl : (backTo pos (starEach [] X.env)).any (·.1) = false := by rfl) : GE T E X (.Call (.Name "list" px) [a] [] pos) (op1 oList p) :=
  ge_ct1 call_list_of boot_list says_list hg hm ha (by decide) (by decide) he hpl
def oSorted : PyData → Out
  | .list ds => if sortOk ds = true then .nl (sortD ds) else .bad
  | .tuple ds => if sortOk ds = true then .nl (sortD ds) else .bad
  | _ => .bad
theorem says_sorted : Says1 X.K oSorted fun v H Q => rSortedD X.K [v] H Q := by
  intro H Z v d Q hz hv ho
  cases d with
  | list ds =>
    obtain ⟨l, xs, rfl, h1, h2⟩ := hv.list hz
    simp only [oSorted] at ho
    by_cases hc : sortOk ds = true
    · rw [if_pos hc] at ho
      exact ⟨l, xs, ds, Z, hz, rfl, .inl h1, h2, hc, fun ys p hd hp => ho p ys hp hd⟩
    · rw [if_neg hc] at ho; exact ho.elim
  | tuple ds =>
    obtain ⟨l, xs, rfl, h1, h2⟩ := hv.tup hz
    simp only [oSorted] at ho
    by_cases hc : sortOk ds = true
    · rw [if_pos hc] at ho
      exact ⟨l, xs, ds, Z, hz, rfl, .inr h1, h2, hc, fun ys p hd hp => ho p ys hp hd⟩
    · rw [if_neg hc] at ho; exact ho.elim
  | _ => exact False.elim ho
theorem ge_sorted {px : Pos} (hr : Room k X.A) (hg : Gl X "sorted") (hm : X.mg "sorted" = none) (ha : GO T E X a p) (he : starEach [a] X.env = (false, eval a X.env) :: starEach [] X.env := by rfl) (hpl : (backTo pos (starEach [] X.env)).any (·.1) = false := by rfl) : GE T E X (.Call (.Name "sorted" px) [a] [] pos) (op1 oSorted p) :=
  ge_cb1 (cr_sortedD hr) boot_sorted says_sorted hg hm ha (by decide) (by decide) he hpl
/-- f of a whole number (a truth value counts as one where b says so) -/
def oI1 (f : Int → Int) : PyData → Out
  | .int i => .d (.int (f i))
  | _ => .bad
theorem says_i1 {f : Int → Int} {r : V → Hp → VK → Prop} (h : ∀ i H Q, Q (.int (f i)) H → r (.int i) H Q) : Says1 X.K (oI1 f) r := by
  intro H Z v d Q hz hv ho
  cases d with
  | int i =>
    cases hv.int
    exact h _ _ _ ((show OutOk X.K H Z Q (.d (.int (f i))) from ho) _ (.int _))
  | _ => exact False.elim ho
def absI (i : Int) : Int := if i < 0 then -i else i
theorem ge_abs {px : Pos} (hg : Gl X "abs") (hm : X.mg "abs" = none) (ha : GO T E X a p) (he : starEach [a] X.env = (false, eval a X.env) :: starEach [] X.env := by rfl) (hpl : (backTo pos (starEach [] X.env)).any (·.1) = false := by rfl) : GE T E X (.Call (.Name "abs" px) [a] [] pos) (op1 (oI1 absI) p) :=
  ge_cb1 call_abs boot_abs (says_i1 fun i H Q q => ⟨i, rfl, q⟩) hg hm ha (by decide) (by decide) he hpl
theorem ge_int {px : Pos} (hg : Gl X "int") (hm : X.mg "int" = none) (ha : GO T E X a p) (he : starEach [a] X.env = (false, eval a X.env) :: starEach [] X.env := by rfl) (hpl : (backTo pos (starEach [] X.env)).any (·.1) = false := by rfl) : GE T E X (.Call (.Name "int" px) [a] [] pos) (op1 (oI1 fun i => i) p) :=
  ge_ct1 call_int1 boot_int (says_i1 fun i H Q q => .inl ⟨i, rfl, q⟩) hg hm ha (by decide) (by decide) he hpl
theorem ge_neg (ha : GO T E X a p) : GE T E X (.UnaryOp .USub a pos) (op1 (oI1 fun i => -i) p) :=
  ge_op1 ha (fun _ h => pe_un un_neg h) (says_i1 fun i H Q q => ⟨i, rfl, q⟩)
/-! isinstance(x, T) -/
def tyN : PyData → String
  | .none => "NoneType" | .bool _ => "bool" | .int _ => "int" | .str _ => "str" | .list _ => "list" | .tuple _ => "tuple" | .dict _ => "dict"
theorem ty_seqL {K : PySem.W.Frag} {H : Hp} {a : Addr} {xs : List V} (h : SqL K H a xs) : TyX K H (.ref a) (.type "list") := by
  rcases h with (h | ⟨o, h⟩) | ⟨o, its, n, h1, h2, _⟩
  · exact .base (.lst h)
  · exact .base (.frz h)
  · exact .kList h1 h2
theorem ty_seqT {K : PySem.W.Frag} {H : Hp} {a : Addr} {xs : List V} (h : SqT K H a xs) : TyX K H (.ref a) (.type "tuple") := by
  rcases h with (h | ⟨o, h⟩) | ⟨o, its, n, h1, h2, _⟩
  · exact .base (.tup h)
  · exact .fTuple h
  · exact .kTuple h1 h2
theorem ty_top {K : PySem.W.Frag} {H Z : Hp} {v : V} {d : PyData} (hz : ∀ a o, Z a = some o → H a = some o) (h : Top K H Z v d) : TyX K H v (.type (tyN d)) := by
  cases d with
  | none => cases h.none; exact .base .non
  | bool b => cases h.bool; exact .base (.bl b)
  | int i => cases h.int; exact .base (.int i)
  | str z => cases h.str; exact .base (.str z)
  | list ds => obtain ⟨a, xs, rfl, h1, _⟩ := h.list hz; exact ty_seqL h1
  | tuple ds => obtain ⟨a, xs, rfl, h1, _⟩ := h.tup hz; exact ty_seqT h1
  | dict ds => obtain ⟨a, kvs, rfl, h1, _⟩ := own_dict h; exact .base (.dK h1)
theorem kitB_all (n : String) (a0 a1 a2 a3 a4 a5 a6 : Bool) (h : [kitB "NoneType" n, kitB "bool" n, kitB "int" n, kitB "str" n, kitB "list" n, kitB "tuple" n, kitB "dict" n] = [some a0, some a1, some a2, some a3, some a4, some a5, some a6]) (f : PyData → Bool)
    (h0 : f .none = a0) (h1 : ∀ b, f (.bool b) = a1) (h2 : ∀ b, f (.int b) = a2) (h3 : ∀ b, f (.str b) = a3) (h4 : ∀ b, f (.list b) = a4) (h5 : ∀ b, f (.tuple b) = a5) (h6 : ∀ b, f (.dict b) = a6) : ∀ d, kitB (tyN d) n = some (f d) := by
  simp only [List.cons.injEq, and_true] at h
  obtain ⟨k0, k1, k2, k3, k4, k5, k6⟩ := h
  intro d
  cases d with
  | none => rw [h0]; exact k0
  | bool b => rw [h1]; exact k1
  | int b => rw [h2]; exact k2
  | str b => rw [h3]; exact k3
  | list b => rw [h4]; exact k4
  | tuple b => rw [h5]; exact k5
  | dict b => rw [h6]; exact k6
def isiInt : PyData → Bool
  | .int _ => true | .bool _ => true | _ => false
def isiBool : PyData → Bool
  | .bool _ => true | _ => false
def isiStr : PyData → Bool
  | .str _ => true | _ => false
def isiList : PyData → Bool
  | .list _ => true | _ => false
def isiTup : PyData → Bool
  | .tuple _ => true | _ => false
def isiDict : PyData → Bool
  | .dict _ => true | _ => false
def oTest (f : PyData → Bool) : PyData → Out := fun d => .d (.bool (f d))
/-- the type named x says of a tree whether it is one -/
structure IsiT (x : Str) (n : String) (f : PyData → Bool) : Prop where
  boot : bootBuiltins x = some (.type n)
  is : ∀ d, kitB (tyN d) n = some (f d)
theorem isi_int : IsiT "int" "int" isiInt := ⟨by decide +kernel, kitB_all _ _ _ _ _ _ _ _ (by decide +kernel) _ rfl (fun _ => rfl) (fun _ => rfl) (fun _ => rfl) (fun _ => rfl) (fun _ => rfl) (fun _ => rfl)⟩
theorem isi_bool : IsiT "bool" "bool" isiBool := ⟨by decide +kernel, kitB_all _ _ _ _ _ _ _ _ (by decide +kernel) _ rfl (fun _ => rfl) (fun _ => rfl) (fun _ => rfl) (fun _ => rfl) (fun _ => rfl) (fun _ => rfl)⟩
theorem isi_str : IsiT "str" "str" isiStr := ⟨by decide +kernel, kitB_all _ _ _ _ _ _ _ _ (by decide +kernel) _ rfl (fun _ => rfl) (fun _ => rfl) (fun _ => rfl) (fun _ => rfl) (fun _ => rfl) (fun _ => rfl)⟩
theorem isi_list : IsiT "list" "list" isiList := ⟨by decide +kernel, kitB_all _ _ _ _ _ _ _ _ (by decide +kernel) _ rfl (fun _ => rfl) (fun _ => rfl) (fun _ => rfl) (fun _ => rfl) (fun _ => rfl) (fun _ => rfl)⟩
theorem isi_tup : IsiT "tuple" "tuple" isiTup := ⟨by decide +kernel, kitB_all _ _ _ _ _ _ _ _ (by decide +kernel) _ rfl (fun _ => rfl) (fun _ => rfl) (fun _ => rfl) (fun _ => rfl) (fun _ => rfl) (fun _ => rfl)⟩
theorem isi_dict : IsiT "dict" "dict" isiDict := ⟨by decide +kernel, kitB_all _ _ _ _ _ _ _ _ (by decide +kernel) _ rfl (fun _ => rfl) (fun _ => rfl) (fun _ => rfl) (fun _ => rfl) (fun _ => rfl) (fun _ => rfl)⟩
theorem ge_isi {x : Str} {n : String} {f : PyData → Bool} {px p2 : Pos} (I : IsiT x n f) (hg : Gl X "isinstance") (hm : X.mg "isinstance" = none) (hg2 : Gl X x) (hm2 : X.mg x = none) (ha : GO T E X a p)
    (hn : x ≠ "__name__" := by decide) (hdb : (x == ("__debug__" : Str)) = false := by decide)
    (he : starEach [a, .Name x p2] X.env = (false, eval a X.env) :: starEach [.Name x p2] X.env := by rfl) (he2 : starEach [.Name x p2] X.env = (false, eval (.Name x p2) X.env) :: starEach [] X.env := by rfl) (hpl : (backTo pos (starEach [.Name x p2] X.env)).any (·.1) = false := by rfl) :
    GE T E X (.Call (.Name "isinstance" px) [a, .Name x p2] [] pos) (op1 (oTest f) p) :=
  ge_op1 (r := fun v H Q => rIsi X.K [v, .ty n] H Q) ha (fun ta h => pe_callB call_isi hg hm boot_isinstance (pa_cons h (pa_cons (pe_bltn (v := .ty n) hg2 hm2 I.boot rfl hn hdb) pa_nil he2) he) (by decide) (by decide) he hpl) fun H Z v d Q hz hv ho =>
    ⟨v, .ty n, .type (tyN d), .type n, f d, rfl, .ty n, ty_top hz hv, kit_ty (I.is d), ho _ (.bl _)⟩
end
end ZD

namespace ZD
open PySem PySem.Spec PyProof.Rows L2 GxR ZG

/-! ### a thing of one's own is changed -/
section
variable {k : Kx} {sg : L2.St} {H Z : Hp} {en : En} {E : Wish}
theorem aft_write {i : Nat} {a : Addr} {d0 d' : PyData} {o' : HO} {s : Sl} (mk : PyData → Sl) (r : Rel k sg H Z en) (he : en[i]? = some (mk d0)) (hmk : mk = Sl.ow ∨ mk = Sl.io) (hv : sg[i]? = some (some (V.ref a))) (ho : Own k.K (upd H a o') Z a d') :
    Aft k sg H Z en sg (upd H a o') Z (en.set i (mk d')) := by
  have own : isOwn (mk d0) = true := by rcases hmk with rfl | rfl <;> rfl
  have own' : isOwn (mk d') = true := by rcases hmk with rfl | rfl <;> rfl
  have hm : Mine sg en a := ⟨i, _, he, own, hv⟩
  obtain ⟨haz, dd, hod⟩ := r.mine hm
  obtain ⟨oa, h1, h2, _⟩ := hod.here
  have hi : i < en.length := (List.getElem?_eq_some_iff.mp he).1
  have at_ : ∀ (l : Nat) (s : Sl), (en.set i (mk d'))[l]? = some s → (l = i ∧ s = mk d') ∨ (l ≠ i ∧ en[l]? = some s) := fun l s h => by
    by_cases e : l = i
    · rw [e, List.getElem?_set_self hi] at h; cases h; exact .inl ⟨e, rfl⟩
    · rw [List.getElem?_set_ne (Ne.symm e)] at h; exact .inr ⟨e, h⟩
  have mset : ∀ b, Mine sg (en.set i (mk d')) b → Mine sg en b := fun b ⟨l, s, g1, g2, g3⟩ => by
    rcases at_ l s g1 with ⟨rfl, _⟩ | ⟨_, e⟩
    · exact ⟨l, _, he, own, g3⟩
    · exact ⟨l, s, e, g2, g3⟩
  have up : ∀ b o, b ≠ a → H b = some o → upd H a o' b = some o := fun b o ne h => by rw [upd_ne ne]; exact h
  have oth : ∀ (l : Nat) (s : Sl) (b : Addr) (dd : PyData), l ≠ i → en[l]? = some s → isOwn s = true → sg[l]? = some (some (V.ref b)) → Own k.K H Z b dd → Own k.K (upd H a o') Z b dd := fun l s b dd hl hs hso hb hd => by
    have ne : b ≠ a := fun e => hl (r.dis l i s _ a hs he hso own (by rw [hb, e]) hv)
    exact hd.mono (fun o q => up b o ne q) fun _ _ q => q
  refine ⟨⟨fun b o h => up b o (fun e => by rw [e, haz] at h; cases h) (r.sub b o h), fun l s h => ?_, fun l1 l2 s t b g1 g2 g3 g4 g5 g6 => ?_, fun P hP => ?_⟩, fun _ _ h => h, fun _ _ h => .inl h, fun b o h m _ => up b o (fun e => m (e ▸ hm)) h, fun b h => .inl (mset b h), fun l dd h => ?_⟩
  · rcases at_ l s h with ⟨rfl, rfl⟩ | ⟨hl, e⟩
    · refine ⟨_, hv, ?_⟩
      rcases hmk with rfl | rfl
      · exact ⟨a, rfl, haz, ho⟩
      · exact ⟨a, rfl, haz, ho⟩
    · obtain ⟨u, hu, hs⟩ := r.sl l s e
      refine ⟨u, hu, ?_⟩
      cases s with
      | no => trivial
      | sh dd => exact hs
      | ow dd => obtain ⟨b, e1, g1, g2⟩ := hs; exact ⟨b, e1, g1, oth l _ b dd hl e rfl (by rw [hu, e1]) g2⟩
      | io dd => obtain ⟨b, e1, g1, g2⟩ := hs; exact ⟨b, e1, g1, oth l _ b dd hl e rfl (by rw [hu, e1]) g2⟩
  · rcases at_ l1 s g1 with ⟨rfl, rfl⟩ | ⟨n1, e1⟩
    · rcases at_ l2 t g2 with ⟨rfl, rfl⟩ | ⟨n2, e2⟩
      · rfl
      · exact r.dis l1 l2 _ t b he e2 own g4 g5 g6
    · rcases at_ l2 t g2 with ⟨rfl, rfl⟩ | ⟨n2, e2⟩
      · exact r.dis l1 l2 s _ b e1 he g3 own g5 g6
      · exact r.dis l1 l2 s t b e1 e2 g3 g4 g5 g6
  · obtain ⟨⟨ps, p1, p2⟩, p3⟩ := r.tab P hP
    exact ⟨⟨ps, up P _ (fun e => by rw [e, h1] at p1; exact h2 ps (Option.some.inj p1)) p1, p2⟩, p3⟩
  · by_cases hl : l = i
    · subst hl
      rw [he] at h
      rcases hmk with rfl | rfl
      · cases h
      · exact ⟨⟨d', List.getElem?_set_self hi⟩, rfl⟩
    · exact ⟨⟨dd, by rw [List.getElem?_set_ne (Ne.symm hl)]; exact h⟩, rfl⟩
/-- the thing of name i becomes what g says; a value comes out -/
def wr (i : Nat) (g : PyData → Option (PyData × PyData)) : M PyData := fun en => match en[i]? with
  | some (.ow d) => (match g d with
    | some (d', x) => .ok x (en.set i (.ow d'))
    | none => .bad)
  | some (.io d) => (match g d with
    | some (d', x) => .ok x (en.set i (.io d'))
    | none => .bad)
  | _ => .bad
theorem wr_ok {i : Nat} {g : PyData → Option (PyData × PyData)} {P : PyData → En → Hp → Hp → Prop} (r : Rel k sg H Z en) (h : Post k E sg H Z en (wr i g en) P) :
    ∃ (a : Addr) (d d' x : PyData) (en' : En), sg[i]? = some (some (V.ref a)) ∧ Own k.K H Z a d ∧ g d = some (d', x) ∧ ∀ o', Own k.K (upd H a o') Z a d' → P x en' (upd H a o') Z := by
  unfold wr at h
  cases he : en[i]? with
  | none => rw [he] at h; exact False.elim h
  | some s =>
    rw [he] at h
    obtain ⟨v, hv, hs⟩ := r.sl i s he
    cases s with
    | no => exact False.elim h
    | sh d => exact False.elim h
    | ow d =>
      obtain ⟨a, rfl, h1, h2⟩ := hs
      dsimp only at h
      cases hg : g d with
      | none => rw [hg] at h; exact False.elim h
      | some q =>
        obtain ⟨d', x⟩ := q
        rw [hg] at h
        exact ⟨a, d, d', x, _, hv, h2, hg, fun o' ho => h _ _ (aft_write (s := .no) .ow r he (.inl rfl) hv ho)⟩
    | io d =>
      obtain ⟨a, rfl, h1, h2⟩ := hs
      dsimp only at h
      cases hg : g d with
      | none => rw [hg] at h; exact False.elim h
      | some q =>
        obtain ⟨d', x⟩ := q
        rw [hg] at h
        exact ⟨a, d, d', x, _, hv, h2, hg, fun o' ho => h _ _ (aft_write (s := .no) .io r he (.inr rfl) hv ho)⟩
end
/-- name i has a list (a dict) of its own -/
def isLs : Option Sl → Bool
  | some (.ow (.list _)) => true
  | some (.io (.list _)) => true
  | _ => false
def isDs : Option Sl → Bool
  | some (.ow (.dict _)) => true
  | some (.io (.dict _)) => true
  | _ => false
def chk {α : Type} (f : Option Sl → Bool) (i : Nat) (m : M α) : M α := fun en => if f en[i]? = true then m en else .bad
section
variable {T : List Addr} {E : Wish} {X : Cx} {a b c : Expr} {pos : Pos} {k : Nat} {i : Nat} {x : Str} {px : Pos}
theorem is_ls {kk : Kx} {sg : L2.St} {H Z : Hp} {en : En} (r : Rel kk sg H Z en) (h : isLs en[i]? = true) : ∃ a xs, sg[i]? = some (some (V.ref a)) ∧ H a = some (.lst xs) := by
  cases he : en[i]? with
  | none => rw [he] at h; cases h
  | some s =>
    rw [he] at h
    obtain ⟨v, hv, hs⟩ := r.sl i s he
    cases s with
    | no => cases h
    | sh d => cases h
    | ow d =>
      cases d with
      | list ds => obtain ⟨a, rfl, _, ho⟩ := hs; cases ho with | lst h1 _ => exact ⟨a, _, hv, h1⟩
      | _ => cases h
    | io d =>
      cases d with
      | list ds => obtain ⟨a, rfl, _, ho⟩ := hs; cases ho with | lst h1 _ => exact ⟨a, _, hv, h1⟩
      | _ => cases h
theorem is_ds {kk : Kx} {sg : L2.St} {H Z : Hp} {en : En} (r : Rel kk sg H Z en) (h : isDs en[i]? = true) : ∃ a kvs, sg[i]? = some (some (V.ref a)) ∧ H a = some (.dK kvs) := by
  cases he : en[i]? with
  | none => rw [he] at h; cases h
  | some s =>
    rw [he] at h
    obtain ⟨v, hv, hs⟩ := r.sl i s he
    cases s with
    | no => cases h
    | sh d => cases h
    | ow d =>
      cases d with
      | dict ds => obtain ⟨a, rfl, _, ho⟩ := hs; cases ho with | dct h1 _ _ => exact ⟨a, _, hv, h1⟩
      | _ => cases h
    | io d =>
      cases d with
      | dict ds => obtain ⟨a, rfl, _, ho⟩ := hs; cases ho with | dct h1 _ _ => exact ⟨a, _, hv, h1⟩
      | _ => cases h
/-! x.append(e) -/
def gApp (y : PyData) : PyData → Option (PyData × PyData)
  | .list xs => if xs.length < 1000000 then some (.list (xs ++ [y]), .none) else none
  | _ => none
def mapp (i : Nat) (m : M PyData) : M PyData := chk isLs i (bnd m fun y => wr i (gApp y))
theorem gd_append {m : M PyData} {apos cpos : Pos} (hv : PE X (.Name x px) (tVar i)) (ha : GD T E X a m)
    (hbase : attributeBase (.Name x px) "append" X.env (eval (.Name x px) X.env) = eval (.Name x px) X.env := by rfl)
    (hfew : ((backTo cpos (starEach [a] X.env)).all (fun x => !x.1) && (backToKw cpos (keywordEach [] X.env)).all (fun x => x.1.isSome)
      && decide (([a] : List Expr).length + ([] : List Keyword).length + (if ([] : List Keyword).isEmpty then 0 else 1) < 30)) = true := by rfl)
    (hline : (apos.endLine == cpos.line) = true := by rfl) (hs : starEach [a] X.env = (false, eval a X.env) :: starEach [] X.env := by rfl) (hplain : (backTo cpos (starEach [] X.env)).any (·.1) = false := by rfl) :
    GD T E X (.Call (.Attribute (.Name x px) "append" apos) [a] [] cpos) (mapp i m) :=
  pe_imp (pe_bm PySem.F.plainAttrs_list PySem.F.slot_list_append PySem.F.type_list_append (show MtR X "list.append" rAppend from mt_append) hv (pa_cons ha pa_nil hs) hbase hfew hline hs hplain) fun sg H Q ⟨en, Z, r, q⟩ => by
    unfold mapp chk at q
    by_cases hc : isLs en[i]? = true
    · rw [if_pos hc] at q
      obtain ⟨l, xs, h1, h2⟩ := is_ls r hc
      refine ⟨_, h1, .inl ⟨rfl, xs, .inl (.inl h2)⟩, en, Z, r, post_mono (post_bnd r q) fun y en1 H1 Z1 _ ⟨a1, q1⟩ v hv => ?_⟩
      obtain ⟨a, d, d', z, en', g1, g2, g3, g4⟩ := wr_ok a1.rel q1
      rw [h1] at g1
      cases g1
      cases d with
      | list ds =>
        simp only [gApp] at g3
        by_cases hl : ds.length < 1000000
        · rw [if_pos hl] at g3
          cases g3
          cases g2 with
          | lst e1 e2 =>
            have hm := million
            refine ⟨l, _, v, rfl, rfl, e1, by rw [dpa_length e2]; omega, ?_⟩
            exact g4 _ (.lst upd_same (dpa_append e2 (.cons hv .nil))) _ .non
        · rw [if_neg hl] at g3; cases g3
      | _ => cases g3
    · rw [if_neg hc] at q; exact False.elim q
/-! x.pop() -/
def gPop : PyData → Option (PyData × PyData)
  | .list xs => match xs[xs.length - 1]? with
    | some y => some (.list xs.dropLast, y)
    | none => none
  | _ => none
def mpop (i : Nat) : M PyData := chk isLs i (wr i gPop)
theorem gd_pop {apos cpos : Pos} (hv : PE X (.Name x px) (tVar i))
    (hbase : attributeBase (.Name x px) "pop" X.env (eval (.Name x px) X.env) = eval (.Name x px) X.env := by rfl) (hline : (apos.endLine == cpos.line) = true := by rfl) :
    GD T E X (.Call (.Attribute (.Name x px) "pop" apos) [] [] cpos) (mpop i) :=
  pe_imp (pe_bm0 PySem.F.plainAttrs_list PySem.F.slot_list_pop PySem.F.type_list_pop (show MtR X "list.pop" rPop from mt_pop) hv hbase hline) fun sg H Q ⟨en, Z, r, q⟩ => by
    unfold mpop chk at q
    by_cases hc : isLs en[i]? = true
    · rw [if_pos hc] at q
      obtain ⟨l, xs, h1, h2⟩ := is_ls r hc
      refine ⟨_, h1, .inl ⟨rfl, xs, .inl (.inl h2)⟩, ?_⟩
      obtain ⟨a, d, d', z, en', g1, g2, g3, g4⟩ := wr_ok r q
      rw [h1] at g1
      cases g1
      cases d with
      | list ds =>
        simp only [gPop] at g3
        cases hy : ds[ds.length - 1]? with
        | none => rw [hy] at g3; cases g3
        | some y =>
          rw [hy] at g3
          cases g3
          cases g2 with
          | lst e1 e2 =>
            obtain ⟨v, e3, e4⟩ := dpa_get e2 hy
            rw [← dpa_length e2] at e3
            exact ⟨l, _, v, rfl, rfl, e1, e3, g4 _ (.lst upd_same (dpa_dropLast e2)) _ e4⟩
      | _ => cases g3
    · rw [if_neg hc] at q; exact False.elim q
/-! x.extend(e): a list -/
def gExt (y : PyData) : PyData → Option (PyData × PyData)
  | .list xs => match y with
    | .list ys => if xs.length + ys.length ≤ 1000000 then some (.list (xs ++ ys), .none) else none
    | _ => none
  | _ => none
/-! x[i] = e -/
def gSt (j : PyData) (y : PyData) : PyData → Option (PyData × PyData)
  | .list xs => match j with
    | .int z => (match ixN xs.length z with
      | some n => some (.list (xs.set n y), .none)
      | none => none)
    | _ => none
  | _ => none
def mstW (i : Nat) (g : PyData → PyData → PyData → Option (PyData × PyData)) (f : Option Sl → Bool) (m : M PyData) (j : M Od) : M Fl := bnd m fun y => chk f i (bnd j fun x => fun en => match look en x with
  | some z => bnd (wr i (g z y)) (fun _ => mnx) en
  | none => .bad)
def mst (i : Nat) (m : M PyData) (j : M Od) : M Fl := mstW i gSt isLs m j
theorem gs_store {m : M PyData} {j : M Od} {tpos : Pos} (hv : PE X (.Name x px) (tVar i)) (hj : GO T E X b j) (ha : GD T E X a m)
    (hs : swapsWithSole [.Subscript (.Name x px) b tpos] a pos.line X.env = pure false := by rfl) (hw : swappedStores [.Subscript (.Name x px) b tpos] a X.env = pure none := by rfl)
    (h1 : (assignEach [.Subscript (.Name x px) b tpos] X.env).map (·.2) = [assign (.Subscript (.Name x px) b tpos) X.env] := by rfl)
    (hsub : ∀ v, assign (.Subscript (.Name x px) b tpos) X.env v = (do
      let ov ← holding [v] (eval (.Name x px) X.env)
      let iv ← holding [v, ov] (eval b X.env)
      standAt tpos
      holding [v, ov, iv] (setItem ov iv v)
      release [v, ov, iv] []) := by intro _; rfl) :
    GS T E X (.Assign [.Subscript (.Name x px) b tpos] a pos) (mst i m j) :=
  ps_imp (ps_asg ha (pg_sub hv hj set_list hsub) hs hw h1) fun D sg H ⟨en, Z, r, q⟩ => ⟨en, Z, r, post_mono (post_bnd r (posts_post q)) fun y en1 H1 Z1 _ ⟨a1, q1⟩ v hv => by
    unfold chk at q1
    by_cases hc : isLs en1[i]? = true
    · rw [if_pos hc] at q1
      obtain ⟨l, xs, g1, g2⟩ := is_ls a1.rel hc
      refine ⟨_, g1, en1, Z1, a1.rel, post_mono (post_bnd a1.rel q1) fun z en2 H2 Z2 _ ⟨a2, q2⟩ w hw => ?_⟩
      cases hl : look en2 z with
      | none => simp only [hl] at q2; exact False.elim q2
      | some zd =>
        simp only [hl] at q2
        have ht := top_of a2.rel hw hl
        obtain ⟨a, d, d', u, en', f1, f2, f3, f4⟩ := wr_ok a2.rel (post_bnd a2.rel q2)
        rw [g1] at f1
        cases f1
        cases d with
        | list ds =>
          cases zd with
          | int jn =>
            simp only [gSt] at f3
            cases hx : ixN ds.length jn with
            | none => rw [hx] at f3; cases f3
            | some n =>
              rw [hx] at f3
              cases f3
              cases f2 with
              | lst e1 e2 =>
                refine ⟨l, _, jn, n, rfl, ht.int, e1, by rw [dpa_length e2]; exact hx, ?_⟩
                obtain ⟨a3, q3⟩ := f4 (.lst _) (.lst upd_same (dpa_set (dp_mono a2.zz hv) n e2))
                exact q3 _ _ (Aft.refl a3.rel)
          | _ => cases f3
        | _ => cases zd <;> cases f3
    · rw [if_neg hc] at q1; exact False.elim q1⟩
end
end ZD

namespace ZD
open PySem PySem.Spec PyProof.Rows L2 GxR ZG

/-! ### a def of the row, by its name -/
/-- the name stands for a def that keeps this promise -/
def Has (P : Program) (w : World) (K : PySem.W.Frag) (mg : Str → Option Value) (base : Heap) (T : List Addr) (x : Str) (lv : Nat) (ps : List Str) (np : Nat) (F : Fn) : Prop :=
  ∃ fd, mg x = some (.ref (He.ga K x)) ∧ PySem.W.keepIn K (.ref (He.ga K x)) = true ∧ Binds K fd ps [] ∧ FnOk P w K mg base CX0 lv (He.ga K x) fd ps (spF ⟨K, T⟩ np F)
section
variable {P : Program} {w : World} {K : PySem.W.Frag} {mg : Str → Option Value} {base : Heap} {T : List Addr}
theorem fn_okD {x qual : Str} {st : Stmt} {f : Addr} {fd : FuncData} {N ps : List Str} {k : Nat} {m : M Fl} {dvs : List V} {kws : List (Str × V)} (F : FunD K x qual (defArgs st) (defBody st) (defScope st) dvs kws f fd) (S : FnScope N ps (defScope st))
    (hb : ∀ (cdv : Value) (A : Around) (outer : List Env) (s : Shared) (H : Hp) (E : XK), fd.code = cdv → Room k (A.deeper (envOfC qual (defScope st) s.heap.objs.size f cdv)) →
      GSs T W0 (cxOf CX0 P w K mg base N qual (defScope st) f cdv A outer s H E).nox (defBody st) m) :
    FnOk P w K mg base CX0 (k + 1) f fd ps (spF ⟨K, T⟩ ps.length (run N.length m)) := by
  obtain ⟨oc, od, dV, kV, doc, pm, an, cdv, ct, osl, rfl, lk, hcd, hdv, hkw⟩ := F.ex
  refine fn_of lk hcd S (fun vs H Q E h => h.1) fun A outer s H vs Q E hr hsp => ?_
  refine ⟨_, (hb cdv A outer s H E rfl hr).nox, ?_⟩
  obtain ⟨hl, pp, Z, hpl, hok, r, q⟩ := hsp
  have hN : vs.length ≤ N.length := by
    have e := congrArg List.length S.pre
    rw [List.length_take] at e
    omega
  have e1 : pp.length = vs.length := by omega
  refine ⟨_, Z, rel_start e1 hN r, ?_⟩
  unfold run at q
  cases hm : m (pp ++ List.replicate (N.length - pp.length) .no) with
  | bad => rw [hm] at q; exact q
  | err c en => rw [hm] at q; exact q.elim
  | ok fl en =>
    rw [hm] at q
    intro sg' H' Z' a
    obtain ⟨a2, mo⟩ := aft_out e1 hN hok r a
    cases fl with
    | nx => exact q .non H' Z' a2 .non
    | bk => exact q.elim
    | ct => exact q.elim
    | rt y =>
      intro v hv
      refine q v H' Z' a2 ?_
      cases y with
      | sh d => exact hv
      | ow d =>
        obtain ⟨p, h1, h2, h3, h4, h5⟩ := hv
        exact ⟨p, h1, h2, h3, fun z => h4 (mo p z), h5.imp id (mine_ps e1)⟩
theorem FnOk.up {CX : CXT} {j k : Nat} {f : Addr} {fd : FuncData} {ps : List Str} {sp : Sp} (h : FnOk P w K mg base CX j f fd ps sp) (hj : j ≤ k) : FnOk P w K mg base CX k f fd ps sp :=
  ⟨h.len, fun A outer s H a us vs Q E hr => h.run A outer s H a us vs Q E (hr.mono hj)⟩
end
section
variable {T : List Addr} {E : Wish} {X : Cx} {ps : List Str} {x : Str} {p pos : Pos} {e : Expr} {es : List Expr} {j k : Nat} {np : Nat} {F : Fn}
theorem ge_callH {ms : M (List PyData)} (G : Has X.prog X.w X.K X.mg X.base T x k ps np F) (hr : Room j X.A) (hk : k ≤ j) (hg : Gl X x)
    (ha : GA T E X (e :: es) ms) (hdb : (x == ("__debug__" : Str)) = false := by decide) (he : starEach (e :: es) X.env = (false, eval e X.env) :: starEach es X.env := by rfl) (hpl : (backTo pos (starEach es X.env)).any (·.1) = false := by rfl) :
    GE T E X (.Call (.Name x p) (e :: es) [] pos) (mcall np F ms) := by
  obtain ⟨fd, h1, h2, h3, h4⟩ := G
  exact ge_call h4 (hr.mono hk) hg h1 h2 h3 ha hdb he hpl
theorem ge_callH0 (G : Has X.prog X.w X.K X.mg X.base T x k ps np F) (hr : Room j X.A) (hk : k ≤ j) (hg : Gl X x)
    (hdb : (x == ("__debug__" : Str)) = false := by decide) : GE T E X (.Call (.Name x p) [] [] pos) (mcall np F manil) := by
  obtain ⟨fd, h1, h2, h3, h4⟩ := G
  exact ge_call0 h4 (hr.mono hk) hg h1 h2 h3 hdb
theorem ge_callHI {i : Nat} {y : Str} {py : Pos} {ms : M (List PyData)} (G : Has X.prog X.w X.K X.mg X.base T x k ps np F) (hr : Room j X.A) (hk : k ≤ j) (hg : Gl X x)
    (hv : PE X (.Name y py) (tVar i)) (ha : GA T E X es ms) (hdb : (x == ("__debug__" : Str)) = false := by decide) (he : starEach (.Name y py :: es) X.env = (false, eval (.Name y py) X.env) :: starEach es X.env := by rfl) (hpl : (backTo pos (starEach (.Name y py :: es) X.env)).any (·.1) = false := by rfl) :
    GE T E X (.Call (.Name x p) (.Name y py :: es) [] pos) (mcallI np F i ms) := by
  obtain ⟨fd, h1, h2, h3, h4⟩ := G
  exact ge_callI h4 (hr.mono hk) hg h1 h2 h3 hv ha hdb he hpl
end

/-! ### what the top's names stand for -/
/-- the value is such a tree, of what the top has written -/
def datB (K : PySem.W.Frag) : Nat → Value → PyData → Bool
  | _, .none, .none => true
  | _, .bool b, .bool c => b == c
  | _, .int i _, .int j => decide (i = j)
  | _, .str i _, .str j => decide (i = j)
  | n + 1, .ref a, .tuple ds => (match K.lookup a with
    | some ⟨.type c, _, .seq its _, _⟩ => decide (c = "tuple") && (decide (its.size ≤ sizeLine) && all2 K n its.toList ds)
    | _ => false)
  | n + 1, .ref a, .list ds => (match K.lookup a with
    | some ⟨.type c, none, .seq its _, _⟩ => decide (c = "list") && (decide (its.size ≤ sizeLine) && all2 K n its.toList ds)
    | _ => false)
  | _, _, _ => false
where all2 (K : PySem.W.Frag) (n : Nat) : List Value → List PyData → Bool
  | [], [] => true
  | u :: us, d :: ds => datB K n u d && all2 K n us ds
  | _, _ => false
theorem datB_ok {K : PySem.W.Frag} : ∀ (n : Nat) (u : Value) (d : PyData), datB K n u d = true → ∃ v, RelV v u ∧ ∀ Z, Dp K Z v d := by
  have all : ∀ (n : Nat), (∀ (u : Value) (d : PyData), datB K n u d = true → ∃ v, RelV v u ∧ ∀ Z, Dp K Z v d) → ∀ (us : List Value) (ds : List PyData), datB.all2 K n us ds = true → ∃ vs, Vals vs us ∧ ∀ Z, DpAll K Z vs ds := by
    intro n ih us
    induction us with
    | nil =>
      intro ds h
      cases ds with
      | nil => exact ⟨[], .nil, fun _ => .nil⟩
      | cons d ds => unfold datB.all2 at h; cases h
    | cons u us ih2 =>
      intro ds h
      cases ds with
      | nil => unfold datB.all2 at h; cases h
      | cons d ds =>
        unfold datB.all2 at h
        obtain ⟨h1, h2⟩ := Bool.and_eq_true_iff.mp h
        obtain ⟨v, r1, q1⟩ := ih u d h1
        obtain ⟨vs, r2, q2⟩ := ih2 ds h2
        exact ⟨v :: vs, .cons r1 r2, fun Z => .cons (q1 Z) (q2 Z)⟩
  intro n
  induction n with
  | zero =>
    intro u d h
    unfold datB at h
    split at h
    · exact ⟨.non, rfl, fun _ => .non⟩
    · rename_i b c
      have e : b = c := eq_of_beq h
      subst e
      exact ⟨.bl b, rfl, fun _ => .bl b⟩
    · rename_i i t j
      have e := of_decide_eq_true h
      subst e
      exact ⟨.int i, ⟨t, rfl⟩, fun _ => .int i⟩
    · rename_i i t j
      have e := of_decide_eq_true h
      subst e
      exact ⟨.str i, ⟨t, rfl⟩, fun _ => .str i⟩
    · rename_i e2; cases e2
    · rename_i e2; cases e2
    · cases h
  | succ n ih =>
    intro u d h
    unfold datB at h
    split at h
    · exact ⟨.non, rfl, fun _ => .non⟩
    · rename_i b c
      have e : b = c := eq_of_beq h
      subst e
      exact ⟨.bl b, rfl, fun _ => .bl b⟩
    · rename_i i t j
      have e := of_decide_eq_true h
      subst e
      exact ⟨.int i, ⟨t, rfl⟩, fun _ => .int i⟩
    · rename_i i t j
      have e := of_decide_eq_true h
      subst e
      exact ⟨.str i, ⟨t, rfl⟩, fun _ => .str i⟩
    · rename_i n' a ds en
      cases en
      split at h
      · rename_i c dd its nn sl q
        obtain ⟨h1, h2⟩ := Bool.and_eq_true_iff.mp h
        obtain ⟨h3, h4⟩ := Bool.and_eq_true_iff.mp h2
        have e := of_decide_eq_true h1
        subst e
        obtain ⟨vs, r, qv⟩ := all n ih _ _ h4
        exact ⟨.ref a, rfl, fun Z => .tup (.inr ⟨_, its, nn, q, rfl, rfl, of_decide_eq_true h3, r⟩) (qv Z)⟩
      · cases h
    · rename_i n' a ds en
      cases en
      split at h
      · rename_i c its nn sl q
        obtain ⟨h1, h2⟩ := Bool.and_eq_true_iff.mp h
        obtain ⟨h3, h4⟩ := Bool.and_eq_true_iff.mp h2
        have e := of_decide_eq_true h1
        subst e
        obtain ⟨vs, r, qv⟩ := all n ih _ _ h4
        exact ⟨.ref a, rfl, fun Z => .lst (.inr ⟨_, its, nn, q, rfl, rfl, rfl, of_decide_eq_true h3, r⟩) (qv Z)⟩
      · cases h
    · cases h
/-- the module's name x stands for the tree d -/
def gloB (K : PySem.W.Frag) (x : Str) (d : PyData) : Bool := match PySem.W.nsIn K mainGlobals x with
  | some (some u) => datB K 8 u d
  | _ => false
/-- .. for a dict of trees with these keys -/
def gdcB (K : PySem.W.Frag) (x : Str) (kvs : List (Str × PyData)) : Bool := He.eqO (PySem.W.nsIn K mainGlobals x) (some (some (.ref (He.ga K x)))) && kvs.all fun q => match PySem.W.nsIn K (He.ga K x) q.1 with
  | some (some u) => datB K 8 u q.2
  | _ => false
def Glo (K : PySem.W.Frag) (mg : Str → Option Value) (x : Str) (d : PyData) : Prop := ∃ u v, mg x = some u ∧ RelV v u ∧ ∀ Z, Dp K Z v d
theorem glo_of {K : PySem.W.Frag} {h : Heap} {mg : Str → Option Value} (X : K.In h) (G : h.Ns mainGlobals mg) {x : Str} {d : PyData} (c : gloB K x d = true) : Glo K mg x d := by
  unfold gloB at c
  split at c
  · rename_i u e
    obtain ⟨v, r, q⟩ := datB_ok _ _ _ c
    exact ⟨u, v, PySem.W.mg_of X G e, r, q⟩
  · cases c
def Gdc (K : PySem.W.Frag) (w : World) (mg : Str → Option Value) (x : Str) (kvs : List (Str × PyData)) : Prop := mg x = some (.ref (He.ga K x)) ∧ ∀ z d, kvs.lookup z = some d → ∃ v, KDct K w (He.ga K x) z v ∧ ∀ Z, Dp K Z v d
theorem gdc_of {K : PySem.W.Frag} {w : World} {h : Heap} {mg : Str → Option Value} (X : K.In h) (G : h.Ns mainGlobals mg) {x : Str} {kvs : List (Str × PyData)} (c : gdcB K x kvs = true) (kd : ∃ es n, KDict K w (He.ga K x) es n) : Gdc K w mg x kvs := by
  obtain ⟨c1, c2⟩ := Bool.and_eq_true_iff.mp c
  obtain ⟨es, n, kd⟩ := kd
  refine ⟨PySem.W.mg_of X G (He.eqO_ok c1), fun z d hz => ?_⟩
  have hm : (z, d) ∈ kvs := by
    clear c c2
    induction kvs with
    | nil => cases hz
    | cons q r ih =>
      obtain ⟨k, e⟩ := q
      rw [List.lookup_cons] at hz
      cases hk : z == k with
      | true =>
        rw [hk] at hz
        have e1 : e = d := Option.some.inj hz
        rw [← e1, ← eq_of_beq hk]
        exact List.mem_cons_self
      | false => rw [hk] at hz; exact List.mem_cons_of_mem _ (ih hz)
  have h2 := List.all_eq_true.mp c2 _ hm
  cases e : PySem.W.nsIn K (He.ga K x) z with
  | none => simp only [e] at h2; cases h2
  | some r =>
    cases r with
    | none => simp only [e] at h2; cases h2
    | some u =>
      simp only [e] at h2
      obtain ⟨v, r, q⟩ := datB_ok _ _ _ h2
      exact ⟨v, ⟨es, n, u, kd.at_, kd.lit, e, r⟩, q⟩
section
variable {T : List Addr} {E : Wish} {X : Cx} {a b : Expr} {pos px : Pos} {x : Str} {d : PyData} {q : M Od}
theorem gd_glo (g : Glo X.K X.mg x d) (hg : Gl X x) (hd : (x == ("__debug__" : Str)) = false := by decide) : GD T E X (.Name x pos) (cst d) := by
  obtain ⟨u, v, h1, h2, h3⟩ := g
  exact gd_c (pe_glob hg h1 h2 hd) (h3 _)
def kdix (kvs : List (Str × PyData)) (q : M Od) : M PyData := bnd q fun y => fun en => match look en y with
  | some (.str z) => (match kvs.lookup z with
    | some d => .ok d en
    | none => .bad)
  | _ => .bad
theorem gd_kdix {kvs : List (Str × PyData)} (g : Gdc X.K X.w X.mg x kvs) (hg : Gl X x) (hb : GO T E X b q) (hs : PlainIx b := by intro _ _; rfl) (hd : (x == ("__debug__" : Str)) = false := by decide) : GD T E X (.Subscript (.Name x px) b pos) (kdix kvs q) := by
  obtain ⟨h1, h2⟩ := g
  refine pe_imp (pe_ix ix_kdict (pe_glob (v := .ref (He.ga X.K x)) hg h1 rfl hd) hb hs) fun sg H Q ⟨en, Z, r, q⟩ => ⟨en, Z, r, post_mono (post_bnd r q) fun y en1 H1 Z1 _ ⟨a1, q1⟩ v hv => ?_⟩
  cases hl : look en1 y with
  | none => simp only [hl] at q1; exact q1.elim
  | some dd =>
    have ht := top_of a1.rel hv hl
    cases dd with
    | str z =>
      simp only [hl] at q1
      cases hk : kvs.lookup z with
      | none => simp only [hk] at q1; exact q1.elim
      | some d =>
        simp only [hk] at q1
        obtain ⟨u, k1, k2⟩ := h2 z d hk
        exact ⟨_, z, u, rfl, ht.str, k1, q1 H1 Z1 (Aft.refl a1.rel) u (k2 _)⟩
    | _ => simp only [hl] at q1; exact q1.elim
end
end ZD

namespace ZD
open PySem PySem.Spec PyProof.Rows L2 GxR ZG

/-! ### dicts as trees -/
def sameK (a b : PyData) : Bool := PyData.eqv a b
def putD (kvs : List (PyData × PyData)) (k v : PyData) : List (PyData × PyData) :=
  if (kvs.any fun kv => sameK kv.1 k) = true then kvs.map (fun kv => if sameK kv.1 k = true then (kv.1, v) else kv) else kvs ++ [(k, v)]
def valD (kvs : List (PyData × PyData)) (k : PyData) : Option PyData := (kvs.find? fun kv => sameK kv.1 k).map (·.2)
def mergeD (kvs more : List (PyData × PyData)) : List (PyData × PyData) := more.foldl (fun acc kv => putD acc kv.1 kv.2) kvs
/-- a key of the kinds that are served -/
def keyOfD : PyData → Option Key
  | .int i => some (.inl i)
  | .str x => some (.inr x)
  | _ => none
theorem keyOfD_eq {d : PyData} {k : Key} (h : keyOfD d = some k) : d = keyD k := by
  cases d with
  | int i => cases h; rfl
  | str x => cases h; rfl
  | _ => cases h
theorem keyOfD_key (k : Key) : keyOfD (keyD k) = some k := by cases k <;> rfl
theorem sameK_key (a b : Key) : sameK (keyD a) (keyD b) = decide (a = b) := by
  unfold sameK
  cases a with
  | inl i => cases b with
    | inl j => simp [keyD, PyData.eqv]; rw [Bool.eq_iff_iff]; simp
    | inr j => simp [keyD, PyData.eqv]
  | inr i => cases b with
    | inl j => simp [keyD, PyData.eqv]
    | inr j => simp [keyD, PyData.eqv]; rw [Bool.eq_iff_iff]; simp
inductive DK (K : PySem.W.Frag) (Z : Hp) : List (Key × V) → List (PyData × PyData) → Prop
  | nil : DK K Z [] []
  | cons {k : Key} {v : V} {d : PyData} {kvs : List (Key × V)} {ds : List (PyData × PyData)} : Dp K Z v d → DK K Z kvs ds → DK K Z ((k, v) :: kvs) ((keyD k, d) :: ds)
section
variable {K : PySem.W.Frag} {Z : Hp}
theorem dk_of : ∀ {kvs : List (Key × V)} {ds : List (PyData × PyData)}, ds.map (·.1) = kvs.map (fun p => keyD p.1) → DpAll K Z (kvs.map (·.2)) (ds.map (·.2)) → DK K Z kvs ds
  | [], [], _, _ => .nil
  | [], _ :: _, h, _ => by cases h
  | _ :: _, [], h, _ => by cases h
  | (k, v) :: kvs, (d, e) :: ds, h, q => by
    rw [List.map_cons, List.map_cons] at h q
    have h1 : d = keyD k := (List.cons.inj h).1
    subst h1
    cases q with
    | cons q1 q2 => exact .cons q1 (dk_of (List.cons.inj h).2 q2)
theorem DK.keys : ∀ {kvs : List (Key × V)} {ds : List (PyData × PyData)}, DK K Z kvs ds → ds.map (·.1) = kvs.map (fun p => keyD p.1)
  | _, _, .nil => rfl
  | _, _, .cons _ t => by rw [List.map_cons, List.map_cons, t.keys]
theorem DK.vals : ∀ {kvs : List (Key × V)} {ds : List (PyData × PyData)}, DK K Z kvs ds → DpAll K Z (kvs.map (·.2)) (ds.map (·.2))
  | _, _, .nil => .nil
  | _, _, .cons h t => .cons h t.vals
theorem DK.length : ∀ {kvs : List (Key × V)} {ds : List (PyData × PyData)}, DK K Z kvs ds → kvs.length = ds.length
  | _, _, .nil => rfl
  | _, _, .cons h t => by rw [List.length_cons, List.length_cons, t.length]
theorem DK.mono {Z' : Hp} (hz : ∀ a o, Z a = some o → Z' a = some o) : ∀ {kvs : List (Key × V)} {ds : List (PyData × PyData)}, DK K Z kvs ds → DK K Z' kvs ds
  | _, _, .nil => .nil
  | _, _, .cons h t => .cons (dp_mono hz h) (t.mono hz)
theorem DK.any (k : Key) : ∀ {kvs : List (Key × V)} {ds : List (PyData × PyData)}, DK K Z kvs ds → (ds.any fun kv => sameK kv.1 (keyD k)) = (kvs.any fun kv => decide (kv.1 = k))
  | _, _, .nil => rfl
  | _, _, .cons h t => by rw [List.any_cons, List.any_cons, t.any k, sameK_key]
theorem DK.app : ∀ {kvs kvs' : List (Key × V)} {ds ds' : List (PyData × PyData)}, DK K Z kvs ds → DK K Z kvs' ds' → DK K Z (kvs ++ kvs') (ds ++ ds')
  | _, _, _, _, .nil, q => q
  | _, _, _, _, .cons h t, q => .cons h (t.app q)
theorem DK.map (k : Key) {v : V} {d : PyData} (hv : Dp K Z v d) : ∀ {kvs : List (Key × V)} {ds : List (PyData × PyData)}, DK K Z kvs ds → DK K Z (kvs.map fun kv => if kv.1 = k then (kv.1, v) else kv) (ds.map fun kv => if sameK kv.1 (keyD k) = true then (kv.1, d) else kv)
  | _, _, .nil => .nil
  | _, _, @DK.cons _ _ k' v' d' _ _ h t => by
    rw [List.map_cons, List.map_cons]
    simp only [sameK_key, decide_eq_true_eq]
    by_cases e : k' = k
    · rw [if_pos e, if_pos e]
      exact .cons hv (t.map k hv)
    · rw [if_neg e, if_neg e]
      exact .cons h (t.map k hv)
theorem DK.put {kvs : List (Key × V)} {ds : List (PyData × PyData)} (h : DK K Z kvs ds) (k : Key) {v : V} {d : PyData} (hv : Dp K Z v d) : DK K Z (putK kvs k v) (putD ds (keyD k) d) := by
  unfold putK putD
  rw [h.any k]
  by_cases e : (kvs.any fun kv => decide (kv.1 = k)) = true
  · rw [if_pos e, if_pos e]; exact h.map k hv
  · rw [if_neg e, if_neg e]; exact h.app (.cons hv .nil)
theorem DK.val (k : Key) : ∀ {kvs : List (Key × V)} {ds : List (PyData × PyData)}, DK K Z kvs ds → (∀ d, valD ds (keyD k) = some d → ∃ v, valV kvs k = some v ∧ Dp K Z v d) ∧ (valD ds (keyD k) = none → valV kvs k = none)
  | _, _, .nil => ⟨fun d h => (by cases h), fun _ => rfl⟩
  | _, _, @DK.cons _ _ k' v' d' _ _ h t => by
    have ih := t.val k
    unfold valD valV at ih ⊢
    rw [List.find?_cons, List.find?_cons, sameK_key]
    cases e : decide (k' = k) with
    | true => exact ⟨fun d hd => ⟨v', rfl, by cases hd; exact h⟩, fun z => by cases z⟩
    | false => exact ih
theorem DK.merge : ∀ {more : List (Key × V)} {md : List (PyData × PyData)} {kvs : List (Key × V)} {ds : List (PyData × PyData)}, DK K Z more md → DK K Z kvs ds → DK K Z (mergeK kvs more) (mergeD ds md)
  | _, _, _, _, .nil, q => q
  | _, _, _, _, @DK.cons _ _ k v d kvs2 ds2 h t, q => by
    have := t.merge (q.put k h)
    exact this
theorem dk_zip : ∀ {ks : List Key} {vs : List V} {ds : List PyData}, DpAll K Z vs ds → ks.length = vs.length → DK K Z (ks.zip vs) ((ks.map keyD).zip ds)
  | [], [], _, .nil, _ => .nil
  | _ :: _, [], _, .nil, h => by cases h
  | [], _ :: _, _, .cons _ _, h => by cases h
  | k :: ks, v :: vs, _, .cons h t, hl => .cons h (dk_zip t (by simpa using hl))
theorem own_dk {H : Hp} {v : V} {ds : List (PyData × PyData)} (h : Top K H Z v (.dict ds)) : ∃ a kvs, v = .ref a ∧ H a = some (.dK kvs) ∧ DK K Z kvs ds := by
  obtain ⟨a, kvs, e, h1, h2, h3⟩ := own_dict h
  exact ⟨a, kvs, e, h1, dk_of h2 h3⟩
end
/-! ### a new thing that is not yet all there -/
section
variable {k : Kx} {sg : L2.St} {H H2 Z Z2 : Hp} {en en2 : En} {E : Wish}
theorem aft_hole {p : Addr} {o o' : HO} (r : Rel k sg H Z en) (hp : H p = none) (ho : ∀ ps, o ≠ .tbl ps) (a : Aft k sg (upd H p o) Z en sg H2 Z2 en2) (r0 : Rel k sg (upd H p o) Z en) : H2 p = some o ∧ Z2 p = none ∧ ¬ Mine sg en2 p ∧ Aft k sg H Z en sg (upd H2 p o') Z2 en2 := by
  have nm : ¬ Mine sg en p := fun m => by
    obtain ⟨u, hu, _⟩ := mine_there r m
    rw [hp] at hu; cases hu
  have nt : p ∉ k.T := not_tab r0 upd_same ho
  have h2 : H2 p = some o := a.keep p o upd_same nm nt
  have z2 : Z2 p = none := by
    cases e : Z2 p with
    | none => rfl
    | some u =>
      rcases a.new p u e with q | q | q
      · rw [r.free hp] at q; cases q
      · rw [upd_same] at q; cases q
      · exact absurd q nm
  have nm2 : ¬ Mine sg en2 p := fun m => by
    rcases a.own p m with q | q
    · exact nm q
    · rw [upd_same] at q; cases q
  have up : ∀ b u, b ≠ p → H2 b = some u → upd H2 p o' b = some u := fun b u ne h => by rw [upd_ne ne]; exact h
  have up0 : ∀ b u, H b = some u → upd H p o b = some u := fun b u h => by
    rw [upd_ne (fun e => by rw [e, hp] at h; cases h)]; exact h
  refine ⟨h2, z2, nm2, ⟨⟨fun b u h => up b u (fun e => by rw [e, z2] at h; cases h) (a.rel.sub b u h), fun i s h => ?_, a.rel.dis, fun P hP => ?_⟩, a.zz, fun b u h => ?_, fun b u h m t => up b u (fun e => by rw [e, hp] at h; cases h) (a.keep b u (up0 b u h) m t), fun b h => ?_, a.io⟩⟩
  · obtain ⟨v, hv, q⟩ := a.rel.sl i s h
    refine ⟨v, hv, ?_⟩
    have go : ∀ b d, isOwn s = true → v = some (.ref b) → Own k.K H2 Z2 b d → Own k.K (upd H2 p o') Z2 b d := fun b d hs hb hd => hd.mono (fun u q => up b u (fun e => nm2 ⟨i, s, h, hs, by rw [hv, hb, e]⟩) q) fun _ _ q => q
    cases s with
    | no => trivial
    | sh d => exact q
    | ow d => obtain ⟨b, e, g1, g2⟩ := q; exact ⟨b, e, g1, go b d rfl e g2⟩
    | io d => obtain ⟨b, e, g1, g2⟩ := q; exact ⟨b, e, g1, go b d rfl e g2⟩
  · obtain ⟨⟨ps, p1, p2⟩, p3⟩ := a.rel.tab P hP
    exact ⟨⟨ps, up P _ (fun e => nt (e ▸ hP)) p1, p2⟩, p3⟩
  · rcases a.new b u h with q | q | q
    · exact .inl q
    · refine .inr (.inl ?_)
      by_cases e : b = p
      · rw [e]; exact hp
      · rw [upd_ne e] at q; exact q
    · exact .inr (.inr q)
  · rcases a.own b h with q | q
    · exact .inl q
    · refine .inr ?_
      by_cases e : b = p
      · rw [e]; exact hp
      · rw [upd_ne e] at q; exact q
end
/-! ### {k: v, ..} -/
def mlist : List (M PyData) → M (List PyData)
  | [] => manil
  | m :: ms => macons m (mlist ms)
/-- the keys are written texts or whole numbers -/
def mdisp (ks : List Key) (ms : List (M PyData)) : M Vl := bnd (mlist ms) fun ds => if ds.length = ks.length then ret (.ow (.dict (mergeD [] ((ks.map keyD).zip ds)))) else fail
section
variable {T : List Addr} {E : Wish} {X : Cx} {a b : Expr} {pos : Pos}
def trsOf (k : Kx) (E : Wish) (ks : List Key) (ms : List (M PyData)) : List (TE × TE) := (ks.zip ms).map fun q => (tC (kV q.1), tD k E q.2)
abbrev GPs (T : List Addr) (E : Wish) (X : Cx) (pos : Pos) (keys : List (Option Expr)) (values : List Expr) (ks : List Key) (ms : List (M PyData)) : Prop := PPs X pos keys values (trsOf ⟨X.K, T⟩ E ks ms) ∧ ks.length = ms.length
theorem gps_nil : GPs T E X pos [] [] [] [] := ⟨pps_nil, rfl⟩
theorem gps_str {x : Str} {j : Nat} {p2 : Pos} {keys : List (Option Expr)} {values : List Expr} {ks : List Key} {ms : List (M PyData)} {m : M PyData} (h : GD T E X a m) (hs : GPs T E X pos keys values ks ms) : GPs T E X pos (some (.Constant (.str x) j p2) :: keys) (a :: values) (.inr x :: ks) (m :: ms) :=
  ⟨pps_cons (tk := tC (.str x)) pe_str h hs.1, by rw [List.length_cons, List.length_cons, hs.2]⟩
theorem gps_int {x : Int} {j : Nat} {p2 : Pos} {keys : List (Option Expr)} {values : List Expr} {ks : List Key} {ms : List (M PyData)} {m : M PyData} (h : GD T E X a m) (hs : GPs T E X pos keys values ks ms) : GPs T E X pos (some (.Constant (.int x) j p2) :: keys) (a :: values) (.inl x :: ks) (m :: ms) :=
  ⟨pps_cons (tk := tC (.int x)) pe_int h hs.1, by rw [List.length_cons, List.length_cons, hs.2]⟩
theorem pairs_ok {k : Kx} {sg : L2.St} : ∀ {ks : List Key} {ms : List (M PyData)} {H : Hp} {Q : List (V × V) → Hp → Prop}, ks.length = ms.length → tA k E (mlist ms) sg H (fun vs H1 => Q (ks.map kV |>.zip vs) H1) → tPairs (trsOf k E ks ms) sg H Q
  | [], [], H, Q, _, ⟨en, Z, r, q⟩ => by
    have z := post_ret (a := ([] : List PyData)) r q [] .nil
    exact z
  | [], _ :: _, _, _, h, _ => by cases h
  | _ :: _, [], _, _, h, _ => by cases h
  | k0 :: ks, m :: ms, H, Q, hl, ⟨en, Z, r, q⟩ => by
    show tC (kV k0) sg H fun x H1 => tD k E m sg H1 fun y H2 => tPairs (trsOf k E ks ms) sg H2 fun ps H3 => Q ((x, y) :: ps) H3
    refine ⟨en, Z, r, post_mono (post_bnd r q) fun d en1 H1 Z1 _ ⟨a1, q1⟩ v hv => pairs_ok (by simpa using hl) ⟨en1, Z1, a1.rel, post_mono (post_bnd a1.rel q1) fun ds en2 H2 Z2 _ ⟨a2, q2⟩ vs hvs => ?_⟩⟩
    exact post_ret (a := d :: ds) a2.rel q2 (v :: vs) (.cons (dp_mono a2.zz hv) hvs)
theorem zip_map_kV : ∀ (ks : List Key) (vs : List V), (ks.map kV).zip vs = (ks.zip vs).map fun kv => (kV kv.1, kv.2)
  | [], _ => rfl
  | _ :: _, [] => rfl
  | k :: ks, v :: vs => by rw [List.map_cons, List.zip_cons_cons, List.zip_cons_cons, List.map_cons, zip_map_kV ks vs]
theorem ge_disp {keys : List (Option Expr)} {values : List Expr} {ks : List Key} {ms : List (M PyData)} (h : GPs T E X pos keys values ks ms) (h15k : ks.length ≤ 15) (hall : keys.all (·.isSome) = true := by rfl) (hl : keys.length = values.length := by rfl) (h0 : keys ≠ [] := by intro h; cases h)
    (h15 : keys.length ≤ 15 := by decide) : GE T E X (.Dict keys values pos) (mdisp ks ms) :=
  pe_imp (pe_disp h.1 hall hl h0 h15) fun sg H Q ⟨en, Z, r, q⟩ p hp => by
    have a0 := aft_new (o := .dK []) r hp
    -- the values, from the heap with the empty dict
    have key : ∀ P, Post ⟨X.K, T⟩ E sg H Z en (mdisp ks ms en) P → Post ⟨X.K, T⟩ E sg (upd H p (.dK [])) Z en (mlist ms en) fun ds en1 H1 Z1 => ds.length = ks.length ∧ H1 p = some (.dK []) ∧ ∀ (o' : HO), Own X.K (upd H1 p o') Z1 p (.dict (mergeD [] ((ks.map keyD).zip ds))) → ∃ x : Vl, x = .ow (.dict (mergeD [] ((ks.map keyD).zip ds))) ∧ P x en1 (upd H1 p o') Z1 ∧ VlOk ⟨X.K, T⟩ sg H en sg (upd H1 p o') Z1 en1 (.ref p) x := by
      intro P hP
      unfold mdisp bnd at hP
      cases hm : mlist ms en with
      | bad => rw [hm] at hP; exact hP
      | err c en1 =>
        rw [hm] at hP
        intro H1 Z1 a1
        exact hP H1 Z1 (a0.trans a1 r)
      | ok ds en1 =>
        rw [hm] at hP
        by_cases hlen : ds.length = ks.length
        case neg =>
          dsimp only at hP
          rw [if_neg hlen] at hP
          exact False.elim hP
        dsimp only at hP
        rw [if_pos hlen] at hP
        intro H1 Z1 a1
        have hh := fun o' => aft_hole (o' := o') r hp (fun ps e => by cases e) a1 a0.rel
        refine ⟨hlen, (hh (.dK [])).1, fun o' ho => ⟨_, rfl, ?_, ?_⟩⟩
        · exact hP _ _ (hh o').2.2.2
        · exact ⟨p, rfl, (hh o').2.1, ho, (hh o').2.2.1, .inl hp⟩
    refine pairs_ok h.2 ⟨en, Z, a0.rel, post_mono (key _ q) fun ds en1 H1 Z1 a1 ⟨h0l, h1, h2⟩ vs hvs => ⟨h1, ks.zip vs, zip_map_kV ks vs, ?_, ?_⟩⟩
    · rw [List.length_zip]; omega
    · have hlen : ks.length = vs.length := by rw [dpa_length hvs, h0l]
      have dk : DK X.K Z1 (mergeK [] (ks.zip vs)) (mergeD [] ((ks.map keyD).zip ds)) := (dk_zip hvs hlen).merge .nil
      obtain ⟨x, rfl, h3, h4⟩ := h2 (.dK (mergeK [] (ks.zip vs))) (.dct upd_same dk.keys dk.vals)
      exact h3 (.ref p) h4
/-! ### d[k] of a dict -/
def oDix : PyData → PyData → Out
  | .dict kvs, k => (match keyOfD k with
    | some _ => gotD (valD kvs k)
    | none => .bad)
  | _, _ => .bad
def rDix : R2 := fun x y H Q => ∃ a v, x = V.ref a ∧ DGet H a y (some v) ∧ Q v H
theorem keyV {K : PySem.W.Frag} {H Z : Hp} {v : V} {k : Key} (h : Top K H Z v (keyD k)) : v = kV k := by
  cases k with
  | inl i => exact h.int
  | inr x => exact h.str
theorem says_dix : Says2 X.K oDix rDix := by
  intro H Z v w d e Q hz hv hw ho
  cases d with
  | dict kvs =>
    simp only [oDix] at ho
    cases hk : keyOfD e with
    | none => rw [hk] at ho; exact False.elim ho
    | some k =>
      rw [hk] at ho
      have ek := keyOfD_eq hk
      subst ek
      obtain ⟨a, kv, rfl, h1, h2⟩ := own_dk hv
      obtain ⟨y, e1, q⟩ := got_ok ho
      obtain ⟨u, e2, hd⟩ := (h2.val k).1 y e1
      refine ⟨a, u, rfl, ?_, q u hd⟩
      rw [keyV hw, ← e2]
      exact .k h1
  | _ => exact False.elim ho
theorem ge_dixv {k : Nat} {m : M Vl} {q : M Od} (hr : Room k X.A) (ha : GE T E X a m) (hb : GO T E X b q) (hs : NoSl b := by intro _ _; rfl) : GE T E X (.Subscript a b pos) (opv2 oDix m q) :=
  ge_opv2 ha hb (fun _ _ h1 h2 => pe_dget (by have := hr.un; omega) h1 h2 hs) says_dix
theorem ge_dix {k : Nat} {p q : M Od} (hr : Room k X.A) (ha : GO T E X a p) (hb : GO T E X b q) (hs : NoSl b := by intro _ _; rfl) : GE T E X (.Subscript a b pos) (op2 oDix p q) :=
  ge_op2 ha hb (fun _ _ h1 h2 => pe_dget (by have := hr.un; omega) h1 h2 hs) says_dix
end
end ZD
namespace ZD
open PySem PySem.Spec PyProof.Rows L2 GxR ZG
def blkB (N : List Str) (sc scope : Scope) (own : List (Str × Nat)) : Bool := decide (scope.kind = .function) && (scope.names.all fun y => decide (scope.names.lookup y.1 = some y.2)) && (own.all fun p => decide (N[p.2]? = some p.1)) &&
  (scope.names.all fun y => !decide (y.2 = .free) || (decide (sc.names.lookup y.1 = some .cell) || decide (sc.names.lookup y.1 = some .free))) && (scope.names.all fun y => !(decide (y.2 = .local) || decide (y.2 = .cell)) || (decide (y.1 ∈ own.map (·.1)) || !decide (y.1 ∈ N)))
theorem blk_of {N : List Str} {sc scope : Scope} {own : List (Str × Nat)} (h : blkB N sc scope own = true) : BlkOk N sc scope own := by
  unfold blkB at h
  simp only [Bool.and_eq_true, List.all_eq_true, decide_eq_true_eq, Bool.or_eq_true, Bool.not_eq_true', decide_eq_false_iff_not] at h
  obtain ⟨⟨⟨⟨h1, h2⟩, h3⟩, h4⟩, h5⟩ := h
  refine ⟨h1, h2, h3, fun y hy e => (h4 y hy).resolve_left (fun z => z e), fun y hy e => ?_⟩
  rcases h5 y hy with z | z
  · exfalso
    simp only [Bool.or_eq_false_iff, decide_eq_false_iff_not] at z
    rcases e with e | e
    · exact z.1 e
    · exact z.2 e
  · exact z
end ZD
namespace ZD
open PySem PySem.Spec PyProof.Rows L2 GxR ZG
theorem code_of {K : PySem.W.Frag} {p : He.Defn} {x q : Str} {pa : Arguments} {bd : List Stmt} {sc : Scope} {dvs : List V} {kws : List (Str × V)} {f : Addr} {fd : FuncData} (F : FunD K x q pa bd sc dvs kws f fd) (hf : f = He.fAd K p) : fd.code = .ref (He.codeOf K p) := by
  obtain ⟨oc, od, dV, kV, doc, pm, an, cdv, ct, osl, rfl, lk, hcd, _, _⟩ := F.ex
  obtain ⟨c, rfl⟩ := He.codeIn_ref hcd
  rw [He.codeOf_eq (c := c) (by rw [← hf]; exact lk) rfl]
end ZD

namespace ZD
open PySem PySem.Spec PyProof.Rows L2 GxR ZG

/-! ### the end of a law -/
def scr (ns : List Int) : List Sl := [.sh (.list (ns.map .int))]
theorem dp_ints {K : PySem.W.Frag} {Z : Hp} : ∀ ns : List Int, DpAll K Z (ns.map V.int) (ns.map .int)
  | [] => .nil
  | n :: ns => .cons (.int n) (dp_ints ns)
theorem law_sp {K : PySem.W.Frag} {T : List Addr} {F : Fn} {ns : List Int} {en' : En} {H : Hp} {a : Addr} (hF : F (scr ns) = .ok (.sh (.bool true)) en') (hT : ∀ P ∈ T, H P = some (.tbl #[])) (hS : SqL K H a (ns.map V.int)) :
    spF ⟨K, T⟩ 1 F [.ref a] H (fun v _ => v = .bl true) fun _ _ _ => False := by
  -- what is fixed: the script's list, where it is tracked
  obtain ⟨Z, hz, hs, ht⟩ : ∃ Z : Hp, (∀ b o, Z b = some o → H b = some o) ∧ SqL K Z a (ns.map V.int) ∧ ∀ P ∈ T, Z P = none := by
    rcases hS with hS | hS
    · refine ⟨fun b => if b = a then H a else none, fun b o h => ?_, ?_, fun P hP => ?_⟩
      · by_cases e : b = a
        · simp only [e, if_true] at h; rw [e]; exact h
        · simp only [e, if_false] at h; cases h
      · rcases hS with h | ⟨o, h⟩
        · exact .inl (.inl (by simp only [if_true]; exact h))
        · exact .inl (.inr ⟨o, by simp only [if_true]; exact h⟩)
      · by_cases e : P = a
        · exfalso
          have h1 := hT P hP
          rw [e] at h1
          rcases hS with h | ⟨o, h⟩
          · rw [h1] at h; cases h
          · rw [h1] at h; cases h
        · simp only [e, if_false]
    · exact ⟨fun _ => none, (fun b o h => nomatch h), .inr hS, fun _ _ => rfl⟩
  refine ⟨rfl, scr ns, Z, rfl, rfl, ⟨hz, fun i s h => ?_, fun i j s t b h1 h2 h3 _ _ _ => ?_, fun P hP => ⟨⟨#[], hT P hP, trivial⟩, ht P hP⟩⟩, ?_⟩
  · cases i with
    | zero =>
      cases h
      exact ⟨some (.ref a), rfl, .ref a, rfl, .lst hs (dp_ints ns)⟩
    | succ i => cases h
  · cases i with
    | zero => cases h1; cases h3
    | succ i => cases h1
  · rw [hF]
    intro v H' Z' _ hv
    have hv : Dp K Z' v (.bool true) := hv
    cases hv
    rfl
theorem tab_bl {base : Heap} {mg : Str → Option Value} {c P : Addr} (t : LamX.TabB base mg c P) : GxR.TabB base mg c P := ⟨t.code, t.bm, t.gP⟩
theorem ex_get {l : List Bool} (h : l.all (fun b => b) = true) (i : Nat) {b : Bool} (hi : l[i]? = some b := by rfl) : b = true := List.all_eq_true.mp h b (List.mem_of_getElem? hi)
/-- a law's end: F_law gives true at each script -/
theorem law_at {l : PySem.W.OpenLaw} {w : World} {K : PySem.W.Frag} {mg : Str → Option Value} {h : Heap} {fa : List He.Fa} {fn : List He.DefD} {ts : List He.Tab} {tf : List He.Defn} {ex : PySem.W.Frag → Bool} {F : Fn} {k : Nat} {f : Addr} {fd : FuncData} {n : Nat} {x : Str}
    (KX : K.In h) (c : He.SaysX fa fn ts tf ex w h K) (hb : ∀ (s : Shared) (u : Value), BindsTo s fd ⟨[u], []⟩ [(x, u)])
    (hF : ∀ ns : List Int, ns.length ≤ n → (∀ z ∈ ns, Builtin.Int.intBits z ≤ 1048576) → ∃ en', F (scr ns) = .ok (.sh (.bool true)) en')
    (hfn : ∀ base : Heap, K.In base → base.Ns mainGlobals mg → (∀ p ∈ tf, GxR.TabB base mg (He.cT K p).1 (He.cT K p).2) → FnOk l.prog w K mg base CX0 k f fd [x] (spF ⟨K, tf.map fun p => (He.cT K p).2⟩ 1 F)) :
    LamX.LawAtS l w K CX0 k n x mg f h := by
  refine ⟨fd, tf.map (He.cT K), spF ⟨K, tf.map fun p => (He.cT K p).2⟩ 1 F, fun p hp => ?_, fun p hp => ?_, fun p hp => ?_, hb, fun H a ns hl hbits hT hS => ?_, fun base X G TB => hfn base X G fun p hp => tab_bl (TB _ (List.mem_map.mpr ⟨p, hp, rfl⟩))⟩
  · obtain ⟨q, hq, rfl⟩ := List.mem_map.mp hp
    exact c.empty q hq
  · obtain ⟨q, hq, rfl⟩ := List.mem_map.mp hp
    exact c.out q hq
  · obtain ⟨q, hq, rfl⟩ := List.mem_map.mp hp
    exact PySem.W.codeHd_of_K KX (c.hd q hq)
  · obtain ⟨en', e⟩ := hF ns hl hbits
    refine law_sp e (fun P hP => ?_) hS
    obtain ⟨q, hq, rfl⟩ := List.mem_map.mp hP
    exact hT _ (List.mem_map.mpr ⟨q, hq, rfl⟩)
end ZD

/-! reckoning with the functions of trees: plain Lean, no program -/
namespace ZD
open PySem

theorem bnd_ok {α β : Type} {m : M α} {f : α → M β} {en en1 : En} {a : α} (h : m en = .ok a en1) : bnd m f en = f a en1 := by unfold bnd; rw [h]
/-- m comes through, and Q holds behind it -/
def WP {α : Type} (m : M α) (en : En) (Q : α → En → Prop) : Prop := ∃ a en', m en = .ok a en' ∧ Q a en'
section
variable {α β : Type} {en en1 : En}
theorem wp_eq {m : M α} {a : α} {Q : α → En → Prop} (h : m en = .ok a en1) (q : Q a en1) : WP m en Q := ⟨a, en1, h, q⟩
theorem wp_mono {m : M α} {Q Q' : α → En → Prop} (h : WP m en Q) (i : ∀ a en', Q a en' → Q' a en') : WP m en Q' := let ⟨a, e, h1, h2⟩ := h; ⟨a, e, h1, i _ _ h2⟩
theorem wp_ret {a : α} {Q : α → En → Prop} (q : Q a en) : WP (ret a) en Q := ⟨a, en, rfl, q⟩
theorem wp_bnd {m : M α} {f : α → M β} {Q : β → En → Prop} (h : WP m en fun a e => WP (f a) e Q) : WP (bnd m f) en Q := by
  obtain ⟨a, e, h1, b, e2, h2, h3⟩ := h
  exact ⟨b, e2, by rw [bnd_ok h1]; exact h2, h3⟩
theorem wp_fn {m : M α} {r : Res α} {Q : α → En → Prop} (h : m en = r) (q : ∃ a e, r = .ok a e ∧ Q a e) : WP m en Q := by
  obtain ⟨a, e, h1, h2⟩ := q
  exact ⟨a, e, h.trans h1, h2⟩
theorem wp_cst {d : PyData} {Q : PyData → En → Prop} (q : Q d en) : WP (cst d) en Q := wp_ret q
theorem wp_shV {m : M PyData} {Q : Vl → En → Prop} (h : WP m en fun d e => Q (.sh d) e) : WP (shV m) en Q := wp_bnd (wp_mono h fun _ _ q => wp_ret q)
theorem wp_odD {m : M PyData} {Q : Od → En → Prop} (h : WP m en fun d e => Q (.d d) e) : WP (odD m) en Q := wp_bnd (wp_mono h fun _ _ q => wp_ret q)
/-- a new list is as good as any other -/
def frzV : Vl → Option PyData
  | .sh d => some d
  | .ow (.list ds) => some (.list ds)
  | .ow _ => none
theorem wp_fz {m : M Vl} {Q : PyData → En → Prop} (h : WP m en fun x e => ∃ d, frzV x = some d ∧ Q d e) : WP (fz m) en Q := wp_bnd (wp_mono h fun x e ⟨d, h1, q⟩ => by
  cases x with
  | sh d' => cases h1; exact wp_ret q
  | ow d' =>
    cases d' with
    | list ds => cases h1; exact wp_ret q
    | _ => cases h1)
theorem wp_nm {i : Nat} {d : PyData} {Q : Od → En → Prop} (h : en[i]? = some (.sh d)) (q : Q (.d d) en) : WP (nm i) en Q := ⟨_, en, by unfold nm; rw [h], q⟩
theorem wp_nv {i : Nat} {d : PyData} {Q : PyData → En → Prop} (h : en[i]? = some (.sh d)) (q : Q d en) : WP (nv i) en Q := ⟨_, en, by unfold nv; rw [h], q⟩
theorem wp_op1 {f : PyData → Out} {p : M Od} {Q : Vl → En → Prop} (h : WP p en fun x e => ∃ d, look e x = some d ∧ WP (out (f d)) e Q) : WP (op1 f p) en Q := wp_bnd (wp_mono h fun x e ⟨d, h1, q⟩ => by
  obtain ⟨a, e', h2, h3⟩ := q
  exact ⟨a, e', by simp only [h1]; exact h2, h3⟩)
theorem wp_op2 {f : PyData → PyData → Out} {p q : M Od} {Q : Vl → En → Prop} (h : WP p en fun x e => WP q e fun y e2 => ∃ d d2, look e2 x = some d ∧ look e2 y = some d2 ∧ WP (out (f d d2)) e2 Q) : WP (op2 f p q) en Q :=
  wp_bnd (wp_mono h fun x e h2 => wp_bnd (wp_mono h2 fun y e2 ⟨d, d2, l1, l2, a, e', h3, h4⟩ => ⟨a, e', by simp only [l1, l2]; exact h3, h4⟩))
theorem wp_mseq {m n : M Fl} {Q : Fl → En → Prop} (h : WP m en fun fl e => match fl with
    | .nx => WP n e Q
    | f => Q f e) : WP (mseq m n) en Q := wp_bnd (wp_mono h fun fl e q => by
  cases fl with
  | nx => exact q
  | rt x => exact wp_ret q
  | bk => exact wp_ret q
  | ct => exact wp_ret q)
theorem wp_mret {m : M Vl} {Q : Fl → En → Prop} (h : WP m en fun x e => Q (.rt x) e) : WP (mret m) en Q := wp_bnd (wp_mono h fun _ _ q => wp_ret q)
theorem wp_mifS {t : M Bool} {m n : M Fl} {Q : Fl → En → Prop} (h : WP t en fun b e => if b = true then WP m e Q else WP n e Q) : WP (mifS t m n) en Q := wp_bnd (wp_mono h fun b e q => by
  cases b with
  | true => exact q
  | false => exact q)
theorem wp_mif {t : M Bool} {m n : M α} {Q : α → En → Prop} (h : WP t en fun b e => if b = true then WP m e Q else WP n e Q) : WP (mif t m n) en Q := wp_bnd (wp_mono h fun b e q => by
  cases b with
  | true => exact q
  | false => exact q)
theorem wp_tst {m : M PyData} {Q : Bool → En → Prop} (h : WP m en fun d e => ∃ b, d = .bool b ∧ Q b e) : WP (tst m) en Q := wp_bnd (wp_mono h fun d e ⟨b, e1, q⟩ => by subst e1; exact wp_ret q)
theorem wp_mnot {m : M Bool} {Q : Bool → En → Prop} (h : WP m en fun b e => Q (!b) e) : WP (mnot m) en Q := wp_bnd (wp_mono h fun b e q => wp_ret q)
theorem wp_mand {m n : M Bool} {Q : Bool → En → Prop} (h : WP m en fun b e => if b = true then WP n e Q else Q false e) : WP (mand m n) en Q := wp_bnd (wp_mono h fun b e q => by
  cases b with
  | true => exact q
  | false => exact wp_ret q)
theorem wp_mor {m n : M Bool} {Q : Bool → En → Prop} (h : WP m en fun b e => if b = true then Q true e else WP n e Q) : WP (mor m n) en Q := wp_bnd (wp_mono h fun b e q => by
  cases b with
  | true => exact wp_ret q
  | false => exact q)
theorem wp_macons {m : M PyData} {ms : M (List PyData)} {Q : List PyData → En → Prop} (h : WP m en fun d e => WP ms e fun ds e2 => Q (d :: ds) e2) : WP (macons m ms) en Q := wp_bnd (wp_mono h fun d e q => wp_bnd (wp_mono q fun ds e2 q2 => wp_ret q2))
theorem wp_manil {Q : List PyData → En → Prop} (q : Q [] en) : WP manil en Q := wp_ret q
theorem wp_mtup {ms : M (List PyData)} {Q : PyData → En → Prop} (h : WP ms en fun ds e => ds.length ≤ 1000 ∧ Q (.tuple ds) e) : WP (mtup ms) en Q := wp_bnd (wp_mono h fun ds e ⟨h1, q⟩ => by rw [if_pos h1]; exact wp_ret q)
theorem wp_mlst {ms : M (List PyData)} {Q : Vl → En → Prop} (h : WP ms en fun ds e => ds.length ≤ 1000 ∧ Q (.ow (.list ds)) e) : WP (mlst ms) en Q := wp_bnd (wp_mono h fun ds e ⟨h1, q⟩ => by rw [if_pos h1]; exact wp_ret q)
theorem wp_asgN {i : Nat} {m : M Vl} {Q : Fl → En → Prop} (h : WP m en fun x e => ∃ s, e[i]? = some s ∧ (∀ d, s ≠ .io d) ∧ Q .nx (e.set i (slOf x))) : WP (asgN i m) en Q := wp_bnd (wp_mono h fun x e ⟨s, h1, h2, q⟩ => by
  refine ⟨.nx, _, ?_, q⟩
  unfold masg
  rw [h1]
  cases s with
  | io d => exact absurd rfl (h2 d)
  | _ => rfl)
theorem wp_seqM {m : M PyData} {Q : List PyData → En → Prop} (h : WP m en fun d e => ∃ ds, (d = .list ds ∨ d = .tuple ds) ∧ Q ds e) : WP (seqM m) en Q := wp_bnd (wp_mono h fun d e ⟨ds, h1, q⟩ => by
  rcases h1 with rfl | rfl
  · exact wp_ret q
  · exact wp_ret q)
theorem wp_rngM1 {m : M PyData} {Q : List PyData → En → Prop} (h : WP m en fun d e => ∃ n : Int, d = .int n ∧ n < 2 ^ 62 ∧ -(2 ^ 62) ≤ n ∧ Q (rngL 0 n.toNat) e) : WP (rngM1 m) en Q := wp_bnd (wp_mono h fun d e ⟨n, h1, h2, h3, q⟩ => by
  subst h1
  dsimp only
  rw [if_pos ⟨h2, h3⟩]
  exact wp_ret q)
/-- a loop, by what holds ahead of each turn -/
theorem wp_forM {f : TgF} {body : M Fl} {Q : Fl → En → Prop} {ds0 : List PyData} (I : Nat → En → Prop) (hend : ∀ e, I ds0.length e → Q .nx e)
    (step : ∀ (i : Nat) (d : PyData) (e : En), ds0[i]? = some d → I i e → WP (f d) e fun fl e1 => fl = .nx ∧ WP body e1 fun g e2 => match g with
      | .nx => I (i + 1) e2
      | .ct => I (i + 1) e2
      | .bk => Q .nx e2
      | .rt x => Q (.rt x) e2) : ∀ (n i : Nat) (e : En), i + n = ds0.length → I i e → WP (forM f body (ds0.drop i)) e Q
  | 0, i, e, hi, h => by
    rw [List.drop_of_length_le (by omega)]
    have : i = ds0.length := by omega
    exact wp_ret (hend e (this ▸ h))
  | n + 1, i, e, hi, h => by
    have hlt : i < ds0.length := by omega
    rw [List.drop_eq_getElem_cons hlt]
    unfold forM
    refine wp_bnd (wp_mono (step i _ e (List.getElem?_eq_getElem hlt) h) fun fl e1 ⟨h1, q⟩ => ?_)
    subst h1
    refine wp_bnd (wp_mono q fun g e2 q2 => ?_)
    cases g with
    | nx => exact wp_forM I hend step n (i + 1) e2 (by omega) q2
    | ct => exact wp_forM I hend step n (i + 1) e2 (by omega) q2
    | bk => exact wp_ret q2
    | rt x => exact wp_ret q2
theorem wp_mfor {m : M (List PyData)} {f : TgF} {body : M Fl} {Q : Fl → En → Prop} (h : WP m en fun ds e => ∃ I : Nat → En → Prop, I 0 e ∧ (∀ e, I ds.length e → Q .nx e) ∧ ∀ (i : Nat) (d : PyData) (e : En), ds[i]? = some d → I i e → WP (f d) e fun fl e1 => fl = .nx ∧ WP body e1 fun g e2 => match g with
      | .nx => I (i + 1) e2
      | .ct => I (i + 1) e2
      | .bk => Q .nx e2
      | .rt x => Q (.rt x) e2) : WP (mfor m f body) en Q := wp_bnd (wp_mono h fun ds e ⟨I, h0, h1, h2⟩ => by
  have z := wp_forM I h1 h2 ds.length 0 e (by omega) h0
  rw [List.drop_zero] at z
  exact z)
/-- a def is called -/
theorem wp_mcall {np : Nat} {F : Fn} {ms : M (List PyData)} {Q : Vl → En → Prop} (h : WP ms en fun ds e => ds.length = np ∧ ∃ x e', F (ds.map .sh) = .ok x e' ∧ Q x e) : WP (mcall np F ms) en Q := wp_bnd (wp_mono h fun ds e ⟨h1, x, e', h2, q⟩ => ⟨x, e, by dsimp only; rw [if_pos h1, h2], q⟩)
theorem wp_mcallI {np : Nat} {F : Fn} {i : Nat} {ms : M (List PyData)} {Q : Vl → En → Prop} {d0 : PyData} (h0 : en[i]? = some (.ow d0) ∨ en[i]? = some (.io d0))
    (h : WP ms en fun ds e => ds.length + 1 = np ∧ ∃ d x d' r, F (.io d :: ds.map .sh) = .ok x (.io d' :: r) ∧ ((e[i]? = some (.ow d) ∧ Q x (e.set i (.ow d'))) ∨ (e[i]? = some (.io d) ∧ Q x (e.set i (.io d'))))) : WP (mcallI np F i ms) en Q := by
  have h1 : (en[i]?.map isOwn).getD false = true := by rcases h0 with h0 | h0 <;> rw [h0] <;> rfl
  obtain ⟨ds, e, h2, h3, d, x, d', r, h4, h5⟩ := h
  unfold mcallI WP
  simp only [h1, if_true]
  rw [bnd_ok h2, if_pos h3]
  rcases h5 with ⟨h5, q⟩ | ⟨h5, q⟩
  · exact ⟨x, _, by rw [h5]; dsimp only; rw [h4], q⟩
  · exact ⟨x, _, by rw [h5]; dsimp only; rw [h4], q⟩
/-- a def, from its body -/
theorem run_wp {n : Nat} {m : M Fl} {ps : List Sl} {Q : Vl → En → Prop} (h : WP m (ps ++ List.replicate (n - ps.length) .no) fun fl e => match fl with
    | .rt x => Q x e
    | .nx => Q (.sh .none) e
    | _ => False) : ∃ x e, run n m ps = .ok x e ∧ Q x e := by
  obtain ⟨fl, e, h1, h2⟩ := h
  unfold run
  rw [h1]
  cases fl with
  | rt x => exact ⟨x, e, rfl, h2⟩
  | nx => exact ⟨_, e, rfl, h2⟩
  | bk => exact h2.elim
  | ct => exact h2.elim
/-- walks over a row, nothing is changed -/
theorem compL_pure {vs : List Nat} {f : TgF} {t : M Bool} {e : M PyData} {g : PyData → Option PyData} : ∀ (ds : List PyData), (∀ d ∈ ds, stepC vs f t e d en = .ok (g d) en) → compL vs f t e ds en = .ok (ds.filterMap g) en
  | [], _ => rfl
  | d :: ds, h => by
    rw [compL_cons, bnd_ok (h d List.mem_cons_self), bnd_ok (compL_pure ds fun x hx => h x (List.mem_cons_of_mem _ hx)), List.filterMap_cons]
    cases g d <;> rfl
theorem allL_pure {vs : List Nat} {f : TgF} {t : M Bool} {e : M PyData} {g : PyData → Bool} : ∀ (ds : List PyData), (∀ d ∈ ds, stepC vs f t e d en = .ok (some (.bool (g d))) en) → allL vs f t e ds en = .ok (ds.all g) en
  | [], _ => rfl
  | d :: ds, h => by
    rw [allL, bnd_ok (h d List.mem_cons_self), List.all_cons]
    cases hg : g d with
    | true => simp only [Bool.true_and]; exact allL_pure ds fun x hx => h x (List.mem_cons_of_mem _ hx)
    | false => rfl
theorem anyL_pure {vs : List Nat} {f : TgF} {t : M Bool} {e : M PyData} {g : PyData → Bool} : ∀ (ds : List PyData), (∀ d ∈ ds, stepC vs f t e d en = .ok (some (.bool (g d))) en) → anyL vs f t e ds en = .ok (ds.any g) en
  | [], _ => rfl
  | d :: ds, h => by
    rw [anyL, bnd_ok (h d List.mem_cons_self), List.any_cons]
    cases hg : g d with
    | false => simp only [Bool.false_or]; exact anyL_pure ds fun x hx => h x (List.mem_cons_of_mem _ hx)
    | true => rfl
theorem wp_mcomp {vs : List Nat} {m : M (List PyData)} {f : TgF} {t : M Bool} {e : M PyData} {Q : Vl → En → Prop} (h : WP m en fun ds e1 => ds.length ≤ 1000000 ∧ wipeable e1 vs = true ∧ ∃ g : PyData → Option PyData, (∀ d ∈ ds, stepC vs f t e d (wipeE e1 vs) = .ok (g d) (wipeE e1 vs)) ∧ Q (.ow (.list (ds.filterMap g))) (restE e1 (wipeE e1 vs) vs)) : WP (mcomp vs m f t e) en Q :=
  wp_bnd (wp_mono h fun ds e1 ⟨h1, h2, g, h3, q⟩ => by
    rw [if_pos h1]
    refine wp_bnd ⟨_, _, ?_, wp_ret q⟩
    unfold blk
    rw [if_pos h2, compL_pure ds h3])
theorem wp_mall {vs : List Nat} {m : M (List PyData)} {f : TgF} {t : M Bool} {e : M PyData} {Q : PyData → En → Prop} (h : WP m en fun ds e1 => wipeable e1 vs = true ∧ ∃ g : PyData → Bool, (∀ d ∈ ds, stepC vs f t e d (wipeE e1 vs) = .ok (some (.bool (g d))) (wipeE e1 vs)) ∧ Q (.bool (ds.all g)) (restE e1 (wipeE e1 vs) vs)) : WP (mall vs m f t e) en Q :=
  wp_bnd (wp_mono h fun ds e1 ⟨h2, g, h3, q⟩ => by
    refine wp_bnd ⟨_, _, ?_, wp_ret q⟩
    unfold blk
    rw [if_pos h2, allL_pure ds h3])
theorem wp_many {vs : List Nat} {m : M (List PyData)} {f : TgF} {t : M Bool} {e : M PyData} {Q : PyData → En → Prop} (h : WP m en fun ds e1 => wipeable e1 vs = true ∧ ∃ g : PyData → Bool, (∀ d ∈ ds, stepC vs f t e d (wipeE e1 vs) = .ok (some (.bool (g d))) (wipeE e1 vs)) ∧ Q (.bool (ds.any g)) (restE e1 (wipeE e1 vs) vs)) : WP (many vs m f t e) en Q :=
  wp_bnd (wp_mono h fun ds e1 ⟨h2, g, h3, q⟩ => by
    refine wp_bnd ⟨_, _, ?_, wp_ret q⟩
    unfold blk
    rw [if_pos h2, anyL_pure ds h3])
/-- .. where each turn may change what is one's own: I, by the turn and what is there so far -/
theorem wp_compL {vs : List Nat} {f : TgF} {t : M Bool} {e : M PyData} {Q : List PyData → En → Prop} {ds0 : List PyData} (I : Nat → List PyData → En → Prop) (hend : ∀ ys en', I ds0.length ys en' → Q ys en')
    (step : ∀ (i : Nat) (d : PyData) (ys : List PyData) (en' : En), ds0[i]? = some d → I i ys en' → WP (stepC vs f t e d) en' fun oy en2 => I (i + 1) (ys ++ oy.toList) en2) :
    ∀ (n i : Nat) (ys : List PyData) (en' : En), i + n = ds0.length → I i ys en' → WP (compL vs f t e (ds0.drop i)) en' fun zs en2 => Q (ys ++ zs) en2
  | 0, i, ys, en', hi, h => by
    rw [List.drop_of_length_le (by omega)]
    have : i = ds0.length := by omega
    exact wp_ret (by rw [List.append_nil]; exact hend ys en' (this ▸ h))
  | n + 1, i, ys, en', hi, h => by
    have hlt : i < ds0.length := by omega
    rw [List.drop_eq_getElem_cons hlt]
    obtain ⟨oy, en2, h1, h2⟩ := step i _ ys en' (List.getElem?_eq_getElem hlt) h
    obtain ⟨zs, en3, h3, h4⟩ := wp_compL I hend step n (i + 1) _ en2 (by omega) h2
    refine ⟨oy.toList ++ zs, en3, ?_, by dsimp only; rw [← List.append_assoc]; exact h4⟩
    rw [compL_cons, bnd_ok h1, bnd_ok h3]
    rfl
theorem wp_mcompI {vs : List Nat} {m : M (List PyData)} {f : TgF} {t : M Bool} {e : M PyData} {Q : Vl → En → Prop} (h : WP m en fun ds e1 => ds.length ≤ 1000000 ∧ wipeable e1 vs = true ∧ ∃ I : Nat → List PyData → En → Prop, I 0 [] (wipeE e1 vs) ∧ (∀ ys en', I ds.length ys en' → Q (.ow (.list ys)) (restE e1 en' vs)) ∧
    ∀ (i : Nat) (d : PyData) (ys : List PyData) (en' : En), ds[i]? = some d → I i ys en' → WP (stepC vs f t e d) en' fun oy en2 => I (i + 1) (ys ++ oy.toList) en2) : WP (mcomp vs m f t e) en Q :=
  wp_bnd (wp_mono h fun ds e1 ⟨h1, h2, I, h3, h4, h5⟩ => by
    rw [if_pos h1]
    have z := wp_compL (Q := fun ys en' => Q (.ow (.list ys)) (restE e1 en' vs)) I h4 h5 ds.length 0 [] (wipeE e1 vs) (by omega) h3
    rw [List.drop_zero] at z
    obtain ⟨ys, en2, z1, z2⟩ := z
    refine wp_bnd ⟨ys, restE e1 en2 vs, ?_, wp_ret z2⟩
    unfold blk
    rw [if_pos h2, z1])
end
theorem log_lt {x : Int} {k : Nat} (h0 : 0 < k) (h : x.natAbs < 2 ^ k) : x.natAbs.log2 < k := PySem.Flt.log2_lt_of h0 h
end ZD

namespace ZD
open PySem PySem.Spec PyProof.Rows L2 GxR ZG

/-! ### a def that calls itself: with fuel -/
def recF (N : Nat) (m : Fn → M Fl) : Nat → Fn
  | 0 => fun _ => .bad
  | n + 1 => ZD.run N (m (recF N m n))
section
variable {P : Program} {w : World} {K : PySem.W.Frag} {mg : Str → Option Value} {base : Heap} {T : List Addr}
theorem has_bad {x : Str} {lv np : Nat} {ps : List Str} {fd : FuncData} (h1 : mg x = some (.ref (He.ga K x))) (h2 : PySem.W.keepIn K (.ref (He.ga K x)) = true) (h3 : Binds K fd ps []) :
    Has P w K mg base T x lv ps np (fun _ => .bad) :=
  ⟨fd, h1, h2, h3, fun vs H Q E ⟨_, _, _, _, _, _, q⟩ => q.elim, fun A o s H a us vs Q E _ _ _ _ ⟨_, _, _, _, _, _, q⟩ => q.elim⟩
theorem Has.up {x : Str} {j k np : Nat} {ps : List Str} {F : Fn} (h : Has P w K mg base T x j ps np F) (hj : j ≤ k) : Has P w K mg base T x k ps np F := by
  obtain ⟨fd, h1, h2, h3, h4⟩ := h
  exact ⟨fd, h1, h2, h3, FnOk.up h4 hj⟩
end

/-! ### range(..) that becomes a list, a tuple -/
theorem rgV_dp {K : PySem.W.Frag} {Z : Hp} (a : Int) (n : Nat) : DpAll K Z ((List.range n).map fun i => V.int (a + (i : Nat))) (rngL a n) := by
  unfold rngL
  generalize List.range n = l
  induction l with
  | nil => exact .nil
  | cons i l ih => exact .cons (.int _) ih
def rgB (a b : Int) : Bool := decide (-1000000 ≤ a) && decide (a ≤ 1000000) && decide (-1000000 ≤ b) && decide (b ≤ 1000000)
theorem rgB_ok {a b : Int} (h : rgB a b = true) : RgOk a b := by
  simp only [rgB, Bool.and_eq_true, decide_eq_true_eq] at h
  exact ⟨by omega, by omega, by omega, by omega, by omega⟩
def rg1 (f : List PyData → Out) (m : M PyData) : M Vl := bnd m fun d en => match d with
  | .int n => if rgB 0 n = true then out (f (rngL 0 n.toNat)) en else .bad
  | _ => .bad
def rg2 (f : List PyData → Out) (m q : M PyData) : M Vl := bnd m fun d => bnd q fun e en => match d, e with
  | .int i, .int j => if rgB i j = true then out (f (rngL i (j - i).toNat)) en else .bad
  | _, _ => .bad
section
variable {T : List Addr} {E : Wish} {X : Cx} {a b e : Expr} {p p2 pos pos2 : Pos} {m q : M PyData}
abbrev tRgQ (te : L2.St → Hp → (Int → Int → Hp → Prop) → Prop) (g : Int → Int → Hp → VK → Prop) : TE := fun sg H Q => te sg H fun i j H1 => g i j H1 Q
theorem ge_rg1 {f : List PyData → Out} {g : Int → Int → Hp → VK → Prop} (h : GD T E X a m) (hp : ∀ {te}, PRg X b te → PE X e (tRgQ te g)) (hb : ∀ {ta}, PE X a ta → PRg X b (tRg1 ta))
    (hf : ∀ i j H Z Q, RgOk i j → OutOk X.K H Z Q (f (rngL i (j - i).toNat)) → g i j H Q) : GE T E X e (rg1 f m) :=
  pe_imp (hp (hb h)) fun sg H Q ⟨en, Z, r, q⟩ => ⟨en, Z, r, post_mono (post_bnd r q) fun d en1 H1 Z1 _ ⟨a1, q1⟩ v hv => by
    cases d with
    | int n =>
      cases hv
      by_cases hc : rgB 0 n = true
      · simp only [hc, if_true] at q1
        refine ⟨n, rfl, hf 0 n H1 Z1 Q (rgB_ok hc) ?_⟩
        rw [Int.sub_zero]
        exact out_ok (sg0 := sg) a1.rel a1 q1
      · simp only [hc] at q1; exact q1.elim
    | _ => exact q1.elim⟩
theorem ge_rg2 {c : Expr} {f : List PyData → Out} {g : Int → Int → Hp → VK → Prop} (h : GD T E X a m) (h2 : GD T E X c q) (hp : ∀ {te}, PRg X b te → PE X e (tRgQ te g)) (hb : ∀ {ta tc}, PE X a ta → PE X c tc → PRg X b (tRg2 ta tc))
    (hf : ∀ i j H Z Q, RgOk i j → OutOk X.K H Z Q (f (rngL i (j - i).toNat)) → g i j H Q) : GE T E X e (rg2 f m q) :=
  pe_imp (hp (hb h h2)) fun sg H Q ⟨en, Z, r, q⟩ => ⟨en, Z, r, post_mono (post_bnd r q) fun d en1 H1 Z1 _ ⟨a1, q1⟩ v hv => ⟨en1, Z1, a1.rel, post_mono (post_bnd a1.rel q1) fun d2 en2 H2 Z2 _ ⟨a2, q2⟩ u hu => by
    cases d with
    | int i =>
      cases d2 with
      | int j =>
        cases hv
        cases hu
        by_cases hc : rgB i j = true
        · simp only [hc, if_true] at q2
          exact ⟨i, j, rfl, rfl, hf i j H2 Z2 Q (rgB_ok hc) (out_ok (sg0 := sg) a2.rel (a1.trans a2 r) q2)⟩
        · simp only [hc] at q2; exact q2.elim
      | _ => exact q2.elim
    | _ => exact q2.elim⟩⟩
abbrev One (X : Cx) (e : Expr) : Prop := starEach [e] X.env = (false, eval e X.env) :: starEach [] X.env
theorem ge_listR1 (hc : X.calm = true) (hg : Gl X "list") (hm : X.mg "list" = none) (hg2 : Gl X "range") (hm2 : X.mg "range" = none) (h : GD T E X a m) (h1 : One X (.Call (.Name "range" p2) [a] [] pos2) := by rfl) (h2 : One X a := by rfl) :
    GE T E X (.Call (.Name "list" p) [.Call (.Name "range" p2) [a] [] pos2] [] pos) (rg1 .nl m) :=
  ge_rg1 h (fun x => pe_listRg hc hg hm x h1) (fun x => prg_1 hg2 hm2 x h2) fun i j H Z Q ok o => ⟨ok, fun l hl => o l _ hl (rgV_dp i _)⟩
theorem ge_tupR1 (hc : X.calm = true) (hg : Gl X "tuple") (hm : X.mg "tuple" = none) (hg2 : Gl X "range") (hm2 : X.mg "range" = none) (h : GD T E X a m) (h1 : One X (.Call (.Name "range" p2) [a] [] pos2) := by rfl) (h2 : One X a := by rfl) :
    GE T E X (.Call (.Name "tuple" p) [.Call (.Name "range" p2) [a] [] pos2] [] pos) (rg1 .nt m) :=
  ge_rg1 h (fun x => pe_tupRg hc hg hm x h1) (fun x => prg_1 hg2 hm2 x h2) fun i j H Z Q ok o => ⟨ok, fun l hl => o.2 l _ hl (rgV_dp i _)⟩
theorem ge_listR2 {c : Expr} (hc : X.calm = true) (hg : Gl X "list") (hm : X.mg "list" = none) (hg2 : Gl X "range") (hm2 : X.mg "range" = none) (h : GD T E X a m) (hh : GD T E X c q) (h1 : One X (.Call (.Name "range" p2) [a, c] [] pos2) := by rfl)
    (h2 : starEach [a, c] X.env = (false, eval a X.env) :: starEach [c] X.env := by rfl) (h3 : One X c := by rfl) (h4 : (backTo pos2 (starEach [c] X.env)).any (·.1) = false := by rfl) :
    GE T E X (.Call (.Name "list" p) [.Call (.Name "range" p2) [a, c] [] pos2] [] pos) (rg2 .nl m q) :=
  ge_rg2 h hh (fun x => pe_listRg hc hg hm x h1) (fun x y => prg_2 hg2 hm2 x y h2 h3 h4) fun i j H Z Q ok o => ⟨ok, fun l hl => o l _ hl (rgV_dp i _)⟩
theorem ge_tupR2 {c : Expr} (hc : X.calm = true) (hg : Gl X "tuple") (hm : X.mg "tuple" = none) (hg2 : Gl X "range") (hm2 : X.mg "range" = none) (h : GD T E X a m) (hh : GD T E X c q) (h1 : One X (.Call (.Name "range" p2) [a, c] [] pos2) := by rfl)
    (h2 : starEach [a, c] X.env = (false, eval a X.env) :: starEach [c] X.env := by rfl) (h3 : One X c := by rfl) (h4 : (backTo pos2 (starEach [c] X.env)).any (·.1) = false := by rfl) :
    GE T E X (.Call (.Name "tuple" p) [.Call (.Name "range" p2) [a, c] [] pos2] [] pos) (rg2 .nt m q) :=
  ge_rg2 h hh (fun x => pe_tupRg hc hg hm x h1) (fun x y => prg_2 hg2 hm2 x y h2 h3 h4) fun i j H Z Q ok o => ⟨ok, fun l hl => o.2 l _ hl (rgV_dp i _)⟩
end

/-! ### a tuple so often -/
def oMulT : PyData → PyData → Out
  | .tuple ds, .int n => if (!ds.isEmpty && decide (2 ≤ n) && decide (n ≤ 1000) && decide (ds.length ≤ 1000)) = true then .nt (List.replicate n.toNat ds).flatten else .bad
  | d, e => oMul d e
theorem dpa_app {K : PySem.W.Frag} {Z : Hp} : ∀ {vs : List V} {ds : List PyData} {ws : List V} {es : List PyData}, DpAll K Z vs ds → DpAll K Z ws es → DpAll K Z (vs ++ ws) (ds ++ es)
  | _, _, _, _, .nil, h => h
  | _, _, _, _, .cons a b, h => .cons a (dpa_app b h)
theorem dpa_rep {K : PySem.W.Frag} {Z : Hp} {vs : List V} {ds : List PyData} (h : DpAll K Z vs ds) : ∀ n : Nat, DpAll K Z (List.replicate n vs).flatten (List.replicate n ds).flatten
  | 0 => .nil
  | n + 1 => by
    rw [List.replicate_succ, List.replicate_succ, List.flatten_cons, List.flatten_cons]
    exact dpa_app h (dpa_rep h n)
section
variable {T : List Addr} {E : Wish} {X : Cx} {a b : Expr} {pos : Pos} {p q : M Od}
theorem says_mulT : Says2 X.K oMulT fun x y H Q => rI (fun i j => i.natAbs.log2 + j.natAbs.log2 < 1000000) (fun i j => .int (i * j)) x y H Q ∨ rRepT X.K x y H Q := by
  intro H Z v w d e Q hz hv hw ho
  by_cases ht : ∃ ds n, d = .tuple ds ∧ e = .int n
  · obtain ⟨ds, n, rfl, rfl⟩ := ht
    obtain ⟨l, xs, rfl, h1, h2⟩ := hv.tup hz
    cases hw.int
    simp only [oMulT] at ho
    by_cases hc : (!ds.isEmpty && decide (2 ≤ n) && decide (n ≤ 1000) && decide (ds.length ≤ 1000)) = true
    · rw [if_pos hc] at ho
      simp only [Bool.and_eq_true, decide_eq_true_eq] at hc
      have hl := dpa_length h2
      refine .inr ⟨l, n, xs, rfl, rfl, h1, fun e => ?_, hc.1.1.2, hc.1.2, by omega, fun y hy => ho.2 y _ hy (dpa_rep h2 _)⟩
      rw [e] at hl
      have : ds = [] := List.eq_nil_of_length_eq_zero (by simpa using hl.symm)
      rw [this] at hc
      simp at hc
    · rw [if_neg hc] at ho; exact ho.elim
  · have e0 : oMulT d e = oMul d e := by
      unfold oMulT
      split
      · rename_i ds n
        exact absurd ⟨ds, n, rfl, rfl⟩ ht
      · rfl
    rw [e0] at ho
    exact .inl (says_int (X := X) (fun i j h => of_decide_eq_true h) H Z v w d e Q hz hv hw ho)
theorem ge_mulT (ha : GO T E X a p) (hb : GO T E X b q) : GE T E X (.BinOp a .Mult b pos) (op2 oMulT p q) := ge_op2 ha hb (fun _ _ h1 h2 => pe_op (op_mulW.or op_repT) h1 h2) says_mulT
end
end ZD

namespace ZD
open PySem PySem.Spec PyProof.Rows L2 GxR ZG

/-! ### list(reversed(a list)) -/
section
variable {prog : Program} {w : World} {A : Around} {E : Value → Shared → Prop} {s : Shared}
theorem ext_rev {R : Result → Shared → Prop} {it l S : Addr} {items : Array Value} {c0 : Nat} (hh : A.handled = none) (hit : s.heap.IsRevIter it l ((items.size : Int) - 1)) (hl : s.heap.IsList l items) (hne : l ≠ it)
    (hn : items.size ≤ sizeLine) (hS : s.heap.get? S = some { cls := .type "list", data := .seq #[] c0 }) (hSi : S ≠ it) (hSl : S ≠ l)
    (hR : ∀ h' tk acc' c', (∀ b o, b ≠ S → b ≠ it → s.heap.get? b = some o → h'.get? b = some o) → h'.get? S = some { cls := .type "list", dict := none, data := .seq acc' c', slots := #[] } →
      ItemsOf (fun i v => items[items.size - 1 - i]? = some v) acc' items.size → R (.ok (.ret .none)) { s with heap := h', toks := tk }) :
    wpAny (model prog w) A.in1 (Builtin.List.listExtendWith (.ref S) (.ref it) .none)
      (fun fin s' => match fin with | .done f => R (.ok f) s' | .again c' => c'.quiet = true ∧ codeAny (model prog w) A c' R s') (fun e s' => R (.error e) s') s := by
  have WK := (Walks.listRev (prog := prog) (w := w) (A := A.in1) hh it l hne items).toS
  have hNot : S ∉ [it, l] := by
    intro z
    rcases List.mem_cons.mp z with z | z
    · exact hSi z
    · exact hSl (List.mem_singleton.mp z)
  have same : Builtin.List.listSameRef (.ref S) (.ref it) = false := by simp [Builtin.List.listSameRef, hSi]
  unfold Builtin.List.listExtendWith
  refine wpAny_bind (wpAny_typeOf (Heap.IsRevIter.typeIs hit) ?_)
  rw [if_neg (by rw [same]; decide)]
  refine wpAny_bind (wpAny_pyIter_revIter hit (wpAny_bind (wpAny_holding ?_)))
  unfold Builtin.List.listLengthHint
  refine wpAny_bind (wpAny_specialOf (Heap.IsRevIter.typeIs hit) RT.nolen_lri (wpAny_bind (wpAny_specialOf (Heap.IsRevIter.typeIs hit) RT.hint_lri ?_)))
  generalize hq : ("list_reverseiterator.__length_hint__" : String) = nm
  wp_delta
  rw [show splitId nm = some ("list_reverseiterator", "__length_hint__") by rw [← hq]; decide +kernel]
  rw [← hq]
  refine wpAny_bind (wpAny_isInstance (b := true) (Heap.IsRevIter.typeIs hit) (by rw [isSubtype_type]; kernel_rfl) (wpAny_pure ?_))
  rw [if_neg (by decide)]
  have hz : (((items.size : Nat) : Int) - 1 - ((0 : Nat) : Int)) = ((items.size : Nat) : Int) - 1 := Int.sub_zero _
  refine wpAny_pure ⟨plainId_quiet F.plain_extend_loop _, ?_⟩
  refine codeAny_extend_loopS WK hn S hNot .none items.size 0 _ #[] c0 rfl (Nat.zero_le _) ⟨Nat.zero_le _, by rw [hz]; exact hit, hl⟩ hS (ItemsOf.nil _) fun s2 got c2 mv hg hi => ?_
  rw [Moved.eq_with mv]
  refine hR s2.heap s2.toks got c2 (fun b o h1 h2 e => mv.heap b o (fun hm => ?_) e) hg hi
  rcases List.mem_cons.mp hm with z | z
  · exact h1 z
  · exact h2 (List.mem_singleton.mp z)
theorem call_list_rv {Q : Value → Shared → Prop} {it l : Addr} {items : Array Value} (hh : A.handled = none) (hit : s.heap.IsRevIter it l ((items.size : Int) - 1)) (hl : s.heap.IsList l items) (hne : l ≠ it) (hn : items.size ≤ sizeLine)
    (hQ : ∀ h' tk acc' c', (∀ b o, b ≠ it → s.heap.get? b = some o → h'.get? b = some o) → h'.get? s.heap.objs.size = some { cls := .type "list", dict := none, data := .seq acc' c', slots := #[] } →
      ItemsOf (fun i v => items[items.size - 1 - i]? = some v) acc' items.size → Q (.ref s.heap.objs.size) { s with heap := h', toks := tk }) :
    wpAny (model prog w) A (call (.type "list") [.ref it]) Q E s := by
  obtain ⟨oi, hoi, _⟩ := id hit
  obtain ⟨ol, hol, _⟩ := id hl
  have ni : s.heap.objs.size ≠ it := Nat.ne_of_gt (Heap.lt_size hoi)
  have nl : s.heap.objs.size ≠ l := Nat.ne_of_gt (Heap.lt_size hol)
  refine callType_codes (Q₁ := fun o s1 => o = .ref s.heap.objs.size ∧ s1 = { s with heap := s.heap.push { cls := .type "list", data := .seq #[] } }) F.called_list (F.typeCall_list_1 _) F.entry_list_init
    (code_list_new _ ⟨rfl, rfl⟩) fun o s1 e1 => ?_
  obtain ⟨rfl, rfl⟩ := e1
  have hS : (s.heap.push { cls := .type "list", data := .seq #[] }).get? s.heap.objs.size = some { cls := .type "list", data := .seq #[] } := Heap.get?_push_size _ rfl
  refine ⟨⟨_, hS, rfl⟩, F.args_list_init_2 _ _, ?_⟩
  show wpAny _ _ (Builtin.List.listItems (.ref s.heap.objs.size) >>= fun old => Builtin.List.listUpdate (.ref s.heap.objs.size) (fun _ => #[]) >>= fun _ => letGo old.toList.reverse >>= fun _ => Builtin.List.listExtendWith (.ref s.heap.objs.size) (.ref it) .none) _ _ _
  refine wpAny_bind ?_
  unfold Builtin.List.listItems
  refine wpAny_bind (wpAny_seqItems hS rfl (wpAny_pure (wpAny_bind ?_)))
  show wpAny _ _ (updateSeq s.heap.objs.size (fun _ => #[])) _ _ _
  refine wpAny_updateSeq hS rfl (wpAny_bind (wpAny_letGo ?_))
  have hS2 := Heap.get?_update_self (Obj.mapSeq (fun _ => (#[] : Array Value))) hS rfl
  have on : ∀ b o, b ≠ s.heap.objs.size → s.heap.get? b = some o → ((s.heap.push { cls := .type "list", data := .seq #[] }).update s.heap.objs.size (Obj.mapSeq (fun _ => (#[] : Array Value)))).get? b = some o :=
    fun b o hb e => (Heap.get?_update_other _ _ (Ne.symm hb)).trans (Heap.get?_push_of_some _ e)
  refine ext_rev (A := A.in1) (it := it) (l := l) (items := items) (c0 := _) hh (hit.at fun o e => on _ _ (Ne.symm ni) e) ?hl2 hne hn hS2 ni nl fun h' tk got c2 hk hg hi => ?_
  case hl2 =>
    obtain ⟨o, h1, h2⟩ := hl
    exact ⟨o, on _ _ (Ne.symm nl) h1, h2⟩
  exact ⟨rfl, hQ h' tk got c2 (fun b o hb e => hk b o (Nat.ne_of_lt (Heap.lt_size e)) hb (on b o (Nat.ne_of_lt (Heap.lt_size e)) e)) hg hi⟩
end
def tLstRev (K : PySem.W.Frag) (te : TE) : TE := fun sg H Q => te sg H fun v H1 => ∃ (a : Addr) (xs : List V), v = .ref a ∧ SqL K H1 a xs ∧ ∀ q, H1 q = none → Q (.ref q) (upd H1 q (.lst xs.reverse))
section
variable {X : Cx}
theorem pe_listRev {e : Expr} {te : TE} {p p2 pos pos2 : Pos} (hc : X.calm = true) (hg : Gl X "list") (hm : X.mg "list" = none) (hg2 : Gl X "reversed") (hm2 : X.mg "reversed" = none) (he : PE X e te) (h1 : One X e) (h2 : One X (.Call (.Name "reversed" p2) [e] [] pos2)) :
    PE X (.Call (.Name "list" p) [.Call (.Name "reversed" p2) [e] [] pos2] [] pos) (tLstRev X.K te) := by
  refine ⟨fun pins s sg H Q I h => ?_⟩
  refine Call_ (ld_blt I hg hm boot_list (PyProof.Rows.callWith_type1 (args_cons (Call_ (ld_blt I hg2 hm2 PyProof.Rows.boot_reversed
    (PyProof.Rows.callWith_type1 (args_cons (thn (he.run pins s sg H _ I h) fun u s1 ⟨v, H1, I1, r1, q1⟩ => args_nil ?_) h1) h1 rfl))) h2) h2 rfl))
  obtain ⟨a, xs, ev, hq, q⟩ := q1
  subst ev
  obtain rfl : u = Value.ref a := r1
  obtain ⟨its, rv, pl, hz⟩ := I1.list hq
  refine call_reversed_list pl.isList (args_nil ?_)
  have up : ∀ b o, s1.heap.get? b = some o → (s1.heap.push (revObj a ((its.toArray.size : Int) - 1))).get? b = some o := fun b o x => Heap.get?_push_of_some _ x
  obtain ⟨o, ho, _⟩ := id pl.isList
  refine call_list_rv (s := { s1 with heap := s1.heap.push (revObj a ((its.toArray.size : Int) - 1)) }) (I1.ok.hd hc) ⟨_, Heap.get?_push_size _ rfl, rfl, rfl⟩ (pl.isList.push _) (Nat.ne_of_lt (Heap.lt_size ho)) (by rw [List.size_toArray, ← rv.length]; exact hz) fun h' tk got c2 hk hg2 hi => ?_
  have hle : s1.heap.objs.size ≤ (s1.heap.push (revObj a ((its.toArray.size : Int) - 1))).objs.size := by simp [Heap.push]
  refine ⟨.ref _, upd H1 _ (.lst xs.reverse), I1.laid (fun b o e => hk b o (Nat.ne_of_lt (Heap.lt_size e)) (up b o e)) hle
    (show ObjOk X.prog X.w _ _ _ (.lst xs.reverse) from ⟨by rw [List.length_reverse]; exact hz, got.toList, c2, RT.vals_rev rv hi, ?_⟩), rfl, q _ (I1.hok.fresh hle)⟩
  rw [Array.toArray_toList]
  exact hg2
end
/-! what the trees say -/
def oRevL : PyData → Out
  | .list ds => .nl ds.reverse
  | _ => .bad
def oRevT : PyData → Out
  | .list ds => .nt ds.reverse
  | _ => .bad
theorem dpa_rev {K : PySem.W.Frag} {Z : Hp} : ∀ {vs : List V} {ds : List PyData}, DpAll K Z vs ds → DpAll K Z vs.reverse ds.reverse
  | _, _, .nil => .nil
  | _, _, .cons a b => by
    rw [List.reverse_cons, List.reverse_cons]
    exact dpa_app (dpa_rev b) (.cons a .nil)
section
variable {T : List Addr} {E : Wish} {X : Cx} {a b e : Expr} {p p2 pos pos2 : Pos} {m : M Od}
theorem ge_listRev (hc : X.calm = true) (hg : Gl X "list") (hm : X.mg "list" = none) (hg2 : Gl X "reversed") (hm2 : X.mg "reversed" = none) (h : GO T E X a m) (h1 : One X a := by rfl) (h2 : One X (.Call (.Name "reversed" p2) [a] [] pos2) := by rfl) :
    GE T E X (.Call (.Name "list" p) [.Call (.Name "reversed" p2) [a] [] pos2] [] pos) (op1 oRevL m) :=
  ge_op1 (r := fun v H Q => ∃ (l : Addr) (xs : List V), v = .ref l ∧ SqL X.K H l xs ∧ ∀ q, H q = none → Q (.ref q) (upd H q (.lst xs.reverse))) h (fun ta x => pe_listRev hc hg hm hg2 hm2 x h1 h2) fun H Z v d Q hz hv ho => by
    cases d with
    | list ds =>
      obtain ⟨l, xs, rfl, g1, g2⟩ := hv.list hz
      exact ⟨l, xs, rfl, g1, fun q hq => ho q _ hq (dpa_rev g2)⟩
    | _ => exact False.elim ho
theorem ge_tupRev (hc : X.calm = true) (hg : Gl X "tuple") (hm : X.mg "tuple" = none) (hg2 : Gl X "reversed") (hm2 : X.mg "reversed" = none) (h : GO T E X a m) (h1 : One X a := by rfl) (h2 : One X (.Call (.Name "reversed" p2) [a] [] pos2) := by rfl) :
    GE T E X (.Call (.Name "tuple" p) [.Call (.Name "reversed" p2) [a] [] pos2] [] pos) (op1 oRevT m) :=
  ge_op1 (r := fun v H Q => ∃ (l : Addr) (xs : List V), v = .ref l ∧ SqL X.K H l xs ∧ ∀ q, H q = none → Q (.ref q) (upd H q (.tup xs.reverse))) h (fun ta x => RT.pe_tupRev hc hg hm hg2 hm2 x h1 h2) fun H Z v d Q hz hv ho => by
    cases d with
    | list ds =>
      obtain ⟨l, xs, rfl, g1, g2⟩ := hv.list hz
      exact ⟨l, xs, rfl, g1, fun q hq => ho.2 q _ hq (dpa_rev g2)⟩
    | _ => exact False.elim ho
/-! reversed(..) is walked -/
theorem itis_revL {k : Kx} {l : Addr} {vs : List V} {ds : List PyData} {Zs : Hp} (h : SqL k.K Zs l vs) (hd : DpAll k.K Zs vs ds) : ItIs k ds.reverse (Itv k.K l vs.length) Zs where
  stop := fun sg H Z en r hz => by
    show vs.length ≤ ds.reverse.length
    rw [List.length_reverse, dpa_length hd]
    exact Nat.le_refl _
  go := fun sg H Z en i d r hz hi => by
    have hs : SqL k.K H l vs := Same.seq (fun x o q => r.sub x o (hz x o q)) h
    have hl := dpa_length hd
    have hlt : i < ds.length := by have := (List.getElem?_eq_some_iff.mp hi).1; rwa [List.length_reverse] at this
    rw [List.getElem?_reverse hlt, ← hl] at hi
    obtain ⟨v, hv, hvd⟩ := dpa_get hd hi
    refine ⟨⟨by omega, vs, v, hs, hv⟩, fun x H' hy => ?_⟩
    obtain ⟨rfl, hy⟩ := hy
    cases hv.symm.trans (hy vs hs)
    exact ⟨Z, Aft.refl r, dp_mono hz hvd⟩
theorem itis_revT {k : Kx} {l : Addr} {vs : List V} {ds : List PyData} {Zs : Hp} (h : SqT k.K Zs l vs) (hd : DpAll k.K Zs vs ds) : ItIs k ds.reverse (RT.ItvT k.K l vs.length) Zs where
  stop := fun sg H Z en r hz => by
    show vs.length ≤ ds.reverse.length
    rw [List.length_reverse, dpa_length hd]
    exact Nat.le_refl _
  go := fun sg H Z en i d r hz hi => by
    have hs : SqT k.K H l vs := SqT.mono (fun x o q => r.sub x o (hz x o q)) h
    have hl := dpa_length hd
    have hlt : i < ds.length := by have := (List.getElem?_eq_some_iff.mp hi).1; rwa [List.length_reverse] at this
    rw [List.getElem?_reverse hlt, ← hl] at hi
    obtain ⟨v, hv, hvd⟩ := dpa_get hd hi
    refine ⟨⟨by omega, vs, v, hs, hv⟩, fun x H' hy => ?_⟩
    obtain ⟨rfl, hy⟩ := hy
    cases hv.symm.trans (hy vs hs)
    exact ⟨Z, Aft.refl r, dp_mono hz hvd⟩
def revM (m : M PyData) : M (List PyData) := bnd m fun d => match d with
  | .list ds => ret ds.reverse
  | .tuple ds => ret ds.reverse
  | _ => ZD.fail
theorem gi_rev {tg : Expr} {m : M PyData} (hg : Gl X "reversed") (hm : X.mg "reversed" = none) (h : GD T E X a m) (h1 : One X a := by rfl) : GI T E X tg (.Call (.Name "reversed" p) [a] [] pos) (revM m) :=
  pi_imp (RT.pi_revA (tg := tg) hg hm h h1) fun sg H R ⟨en, Z, r, q⟩ => ⟨en, Z, r, post_mono (post_bnd r q) fun d en1 H1 Z1 _ ⟨a1, q1⟩ v hv => by
    cases d with
    | list ds =>
      cases hv with
      | lst g1 g2 => exact ⟨_, _, rfl, .inl ⟨Same.seq a1.rel.sub g1, post_ret a1.rel q1 _ (itis_revL (k := ⟨X.K, T⟩) g1 g2)⟩⟩
    | tuple ds =>
      cases hv with
      | tup g1 g2 => exact ⟨_, _, rfl, .inr ⟨SqT.mono a1.rel.sub g1, post_ret a1.rel q1 _ (itis_revT (k := ⟨X.K, T⟩) g1 g2)⟩⟩
    | _ => exact q1.elim⟩
end
end ZD

namespace ZD
open PySem PySem.Spec PyProof.Rows L2 GxR ZG

/-! ### enumerate(v) -/
abbrev enumObj (N : Addr) : Obj := { cls := .type "enumerate", data := .fields #[.none, .bool false, .ref N, rawInt 0, .none, .none] }
theorem meets_enum1 {v : Value} {o : Obj} {H : Heap → Prop} (B : Begins v o H) :
    Meets (Builtin.«enumerate.__new__» ⟨[.type "enumerate", v], []⟩) (fun _ R s => H s.heap ∧ R (.ok (.ret (.ref (s.heap.push o).objs.size))) { s with heap := (s.heap.push o).push (enumObj s.heap.objs.size) }) :=
  .of_wp fun prog w A R s h => by
    obtain ⟨hp, g, d, tk, os⟩ := s
    obtain ⟨h1, h⟩ := h
    have hsub := sub_enumerate
    have it1 : ∀ {B' : Around} {F : Value → Shared → Prop} {G : Value → Shared → Prop}, G (.ref hp.objs.size) ⟨hp.push o, g, d, tk, os⟩ → wpAny (model prog w) B' (pyIter v) G F ⟨hp, g, d, tk, os⟩ :=
      fun z => B.iter prog w _ _ ⟨hp, g, d, tk, os⟩ _ h1 z
    wp_walk using it1
    refine wpAny_stack_any fun st => wpAny_pure ?_
    split
    · rename_i c _ _ _ _ _
      cases (c == Value.type "enumerate") <;> (wp_walk using it1; exact ⟨_, rfl, h⟩)
    · wp_walk using it1
      exact ⟨_, rfl, h⟩
theorem call_enum1 {prog : Program} {w : World} {A : Around} {E : Value → Shared → Prop} {s : Shared} {v : Value} {o : Obj} {H : Heap → Prop} {Q : Value → Shared → Prop} (B : Begins v o H) (h1 : H s.heap)
    (h : ∀ h', IsEnum h' (s.heap.objs.size + 1) s.heap.objs.size 0 .none → h'.get? s.heap.objs.size = some o → (∀ b o, s.heap.get? b = some o → h'.get? b = some o) → Q (.ref (s.heap.objs.size + 1)) { s with heap := h' }) :
    wpAny (model prog w) A (call (.type "enumerate") [v]) Q E s := by
  refine callType_new F.called_enumerate (by decide) (F.typeCall_enumerate_1 _) (F.newCall_enumerate_1 _) (fun obj => F.args_object_init_2 obj _) F.entry_enumerate_new (meets_enum1 B) ⟨h1, ?_⟩
  have sz : (s.heap.push o).objs.size = s.heap.objs.size + 1 := Heap.size_push ..
  have en : ((s.heap.push o).push (enumObj s.heap.objs.size)).get? (s.heap.push o).objs.size = some (enumObj s.heap.objs.size) := Heap.get?_push_size _ rfl
  rw [sz] at en
  show _ ∧ _
  rw [sz]
  exact ⟨⟨_, en, rfl⟩, h _ en (Heap.get?_push_of_some _ (Heap.get?_push_size _ B.free)) fun b o z => Heap.get?_push_of_some _ (Heap.get?_push_of_some _ z)⟩
/-- the tuple at a, each item in a new pair -/
def IteT (K : PySem.W.Frag) (a : Addr) (n : Nat) : It where
  go := fun i H => i < n ∧ ∃ (xs : List V) (x : V), SqT K H a xs ∧ xs[i]? = some x
  yld := fun i H v H' => ∃ t x, v = .ref t ∧ H t = none ∧ H' = upd H t (.tup [.int (i : Nat), x]) ∧ ∀ xs, SqT K H a xs → xs[i]? = some x
  stop := fun i H => n ≤ i ∧ ∃ xs : List V, SqT K H a xs ∧ xs.length = n
theorem turn_enumT {P : Program} {w : World} {K : PySem.W.Frag} {elts : List Expr} {kk : Nat} {tpos : Pos} (a e it : Addr) (n : Nat) :
    Turn P w K (.Tuple elts kk tpos) (IteT K a n) [e, it] e (fun i h => i ≤ n ∧ (∃ old, IsEnum h e it ((i : Nat) : Int) old) ∧ h.IsTupleIter it a i ∧ e ≠ it) where
  mem := by simp
  obj := fun i h st b hb => by
    obtain ⟨_, ⟨old, he⟩, ⟨oi, hoi, hci, hdi⟩, _⟩ := st
    rcases List.mem_cons.mp hb with z | z
    · rw [z]; exact ⟨_, he, fun v q => nomatch q⟩
    · rw [List.mem_singleton.mp z]; exact ⟨oi, hoi, fun v q => by rw [hdi] at q; cases q⟩
  keep := fun i h h' st k => by
    obtain ⟨le, ⟨old, he⟩, ⟨oi, hoi, rest⟩, ne⟩ := st
    exact ⟨le, ⟨old, k e (List.mem_cons_self ..) _ he⟩, ⟨oi, k it (by simp) _ hoi, rest⟩, ne⟩
  item := by
    intro X hP hw hK hc i pins s sg H E I hf st hg
    subst hP hw hK
    obtain ⟨_, ⟨old, he⟩, hit, ne⟩ := st
    obtain ⟨hin, xs, x, hq, hx⟩ := hg
    obtain ⟨its, rv, pt, hz⟩ := I.tuple hq
    obtain ⟨u, hu, ru⟩ := rv.get hx
    have le : e < s.heap.objs.size := Heap.lt_size he
    obtain ⟨oi, hoi, _⟩ := id hit
    have li : it < s.heap.objs.size := Heap.lt_size hoi
    have ta : s.heap.IsTuple a its.toArray := pt
    have na : a ≠ e := by
      rintro rfl
      obtain ⟨ot, h1, h2, _⟩ := ta
      rw [show s.heap.get? a = _ from he] at h1
      cases h1
      simp at h2
    have nt : a ≠ it := by
      rintro rfl
      obtain ⟨ot, h1, h2, _⟩ := ta
      obtain ⟨o2, h3, h4, _⟩ := hit
      rw [h3] at h1
      cases h1
      rw [h4] at h2
      simp at h2
    have hlt : i < its.toArray.size := by
      rw [List.size_toArray]
      exact (List.getElem?_eq_some_iff.mp hu).1
    refine wpAny_pyNext_enum_itemD (Draws.tuple (A := X.A.in1) (I.ok.hd hc) it a nt its.toArray) he ⟨hit, ta⟩ hlt ne (by simp only [List.mem_cons, List.not_mem_nil, or_false, not_or]; exact ⟨ne, Ne.symm na⟩) fun y h' tk hy ho hs' hT hsz hk => ?_
    have ey : y = u := by
      have z : its.toArray[i]? = some u := by simpa using hu
      exact (Option.some.inj (z.symm.trans hy)).symm
    subst ey
    refine ⟨_, rfl, wpAny_letOwnedTupleGo_enum (s := { s with heap := h', toks := tk + 1 }) ho fun h2 he2 sb => ?_⟩
    have cell : h2.get? s.heap.objs.size = some { cls := .type "tuple", data := .seq #[.int i tk, y] } := (sb.2 _ (Nat.ne_of_gt le)).trans hT
    have fresh := I.hok.fresh (Nat.le_refl s.heap.objs.size)
    have laid : ObjOk X.prog X.w (upd H s.heap.objs.size (.tup [.int (i : Nat), x])) h2 s.heap.objs.size (.tup [.int (i : Nat), x]) :=
      ⟨by show 2 ≤ sizeLine; decide, [.int i tk, y], .cons ⟨_, rfl⟩ (.cons ru .nil), ⟨_, cell, rfl, _, rfl⟩⟩
    have I1 : Inv X pins sg (upd H s.heap.objs.size (.tup [.int (i : Nat), x])) { s with heap := h2, toks := tk + 1 } :=
      I.turnedNew (ch := [e, it]) (fun b ob hb q => (sb.2 b (fun z => hb (by rw [z]; exact List.mem_cons_self ..))).trans (hk b ob (fun z => hb (by rw [z]; exact List.mem_cons_self ..)) (fun z => hb (by rw [z]; simp)) q)) hf (Nat.le_refl _) laid
    refine ⟨.ref s.heap.objs.size, _, I1, rfl, ⟨_, x, rfl, fresh, rfl, fun ys hy => by rw [I.tuple_inj hy hq]; exact hx⟩, ⟨hin, ⟨y, ?_⟩, ?_, ne⟩, fun b hb => ?_⟩
    · rw [show ((i + 1 : Nat) : Int) = (i : Int) + 1 from by omega]
      exact he2
    · obtain ⟨o2, h3, h4⟩ := hs'.1
      exact ⟨o2, (sb.2 it (Ne.symm ne)).trans h3, h4⟩
    · have lb : b < s.heap.objs.size := by
        rcases List.mem_cons.mp hb with z | z
        · rw [z]; exact le
        · rw [List.mem_singleton.mp z]; exact li
      rw [upd_ne (Nat.ne_of_lt lb)]
      exact (hf b hb).1
  done := by
    intro X hP hw hK hc i pins s sg H E I hf st hg
    subst hP hw hK
    obtain ⟨le, ⟨old, he⟩, hit, ne⟩ := st
    obtain ⟨ge, xs, hq, hx⟩ := hg
    obtain ⟨its, rv, pt, hz⟩ := I.tuple hq
    have ta : s.heap.IsTuple a its.toArray := pt
    have nt : a ≠ it := by
      rintro rfl
      obtain ⟨ot, h1, h2, _⟩ := ta
      obtain ⟨o2, h3, h4, _⟩ := hit
      rw [h3] at h1
      cases h1
      rw [h4] at h2
      simp at h2
    have ei : i = its.toArray.size := by
      have := rv.length
      rw [List.size_toArray]
      omega
    subst ei
    obtain ⟨f0, f1, f2, f3, f4, f5⟩ := hf it (by simp)
    exact wpAny_pyNext_enum_endD (Draws.tuple (A := X.A.in1) (I.ok.hd hc) it a nt its.toArray) he ⟨hit, ta⟩ fun h' eb => ⟨rfl, I.turned (t' := s.toks) (fun b o hb q => eb b o hb q) f0 f1 f3 f4 f5⟩
  self := fun A i s Q E st h => by
    obtain ⟨_, ⟨old, he⟩, _⟩ := st
    exact wpAny_pyIter_enum he h
/-! what the trees say -/
def pairE (i : Nat) (d : PyData) : PyData := .tuple [.int (i : Nat), d]
def enumD (ds : List PyData) : List PyData := ds.mapIdx pairE
theorem enumD_get {ds : List PyData} {i : Nat} {d : PyData} (h : (enumD ds)[i]? = some d) : ∃ x, ds[i]? = some x ∧ d = .tuple [.int (i : Nat), x] := by
  unfold enumD at h
  rw [List.getElem?_mapIdx] at h
  cases e : ds[i]? with
  | none => rw [e] at h; cases h
  | some x => rw [e] at h; exact ⟨x, rfl, (Option.some.inj h).symm⟩
theorem enumD_len (ds : List PyData) : (enumD ds).length = ds.length := by simp [enumD]
theorem enum_yld {k : Kx} {sg : L2.St} {H Z : Hp} {en : En} {t : Addr} {i : Nat} {v : V} {x : PyData} (r : Rel k sg H Z en) (ht : H t = none) (hd : Dp k.K Z v x) :
    ∃ Z', Aft k sg H Z en sg (upd H t (.tup [.int (i : Nat), v])) Z' en ∧ Dp k.K Z' (.ref t) (.tuple [.int (i : Nat), x]) :=
  ⟨_, aft_all r ht, .tup (.inl (.inl upd_same)) (.cons (.int _) (.cons (dp_mono (aft_all r ht (o := .tup [.int (i : Nat), v])).zz hd) .nil))⟩
theorem itis_enumL {k : Kx} {l : Addr} {vs : List V} {ds : List PyData} {Zs : Hp} (h : SqL k.K Zs l vs) (hd : DpAll k.K Zs vs ds) : ItIs k (enumD ds) (Ite k.K l) Zs where
  stop := fun sg H Z en r hz => ⟨vs, Same.seq (fun x o q => r.sub x o (hz x o q)) h, by rw [enumD_len, dpa_length hd]; exact Nat.le_refl _⟩
  go := fun sg H Z en i d r hz hi => by
    have hs : SqL k.K H l vs := Same.seq (fun x o q => r.sub x o (hz x o q)) h
    obtain ⟨x, hx, rfl⟩ := enumD_get hi
    obtain ⟨v, hv, hvd⟩ := dpa_get hd hx
    refine ⟨⟨vs, v, hs, hv⟩, fun y H' hy => ?_⟩
    obtain ⟨t, u, rfl, ht, rfl, hu⟩ := hy
    cases hv.symm.trans (hu vs hs)
    exact enum_yld r ht (dp_mono hz hvd)
theorem itis_enumT {k : Kx} {l : Addr} {vs : List V} {ds : List PyData} {Zs : Hp} (h : SqT k.K Zs l vs) (hd : DpAll k.K Zs vs ds) : ItIs k (enumD ds) (IteT k.K l vs.length) Zs where
  stop := fun sg H Z en r hz => ⟨by rw [enumD_len, dpa_length hd]; exact Nat.le_refl _, vs, SqT.mono (fun x o q => r.sub x o (hz x o q)) h, rfl⟩
  go := fun sg H Z en i d r hz hi => by
    have hs : SqT k.K H l vs := SqT.mono (fun x o q => r.sub x o (hz x o q)) h
    obtain ⟨x, hx, rfl⟩ := enumD_get hi
    obtain ⟨v, hv, hvd⟩ := dpa_get hd hx
    refine ⟨⟨(List.getElem?_eq_some_iff.mp hv).1, vs, v, hs, hv⟩, fun y H' hy => ?_⟩
    obtain ⟨t, u, rfl, ht, rfl, hu⟩ := hy
    cases hv.symm.trans (hu vs hs)
    exact enum_yld r ht (dp_mono hz hvd)
def enumM (m : M PyData) : M (List PyData) := bnd m fun d => match d with
  | .list ds => ret (enumD ds)
  | .tuple ds => ret (enumD ds)
  | _ => ZD.fail
def iEnumT (K : PySem.W.Frag) (te : TE) : TI := fun sg H R => te sg H fun v H1 => ∃ a xs, v = .ref a ∧ SqT K H1 a xs ∧ R (IteT K a xs.length) H1
section
variable {T : List Addr} {E : Wish} {X : Cx} {a : Expr} {p pos tpos : Pos} {elts : List Expr} {kk : Nat}
theorem pi_enumT {te : TE} (hg : Gl X "enumerate") (hm : X.mg "enumerate" = none) (ha : PE X a te) (h1 : One X a) : PI X (.Tuple elts kk tpos) (.Call (.Name "enumerate" p) [a] [] pos) (iEnumT X.K te) := by
  refine ⟨fun pins s sg H R I h => ?_⟩
  refine Call_ (ld_blt I hg hm boot_enumerate (PyProof.Rows.callWith_type1 (args_cons (thn (ha.run pins s sg H _ I h) fun u s1 ⟨v, H1, I1, r1, q1⟩ => args_nil ?_) h1) h1 rfl))
  obtain ⟨l, xs, rfl, hq, q⟩ := q1
  obtain rfl : u = Value.ref l := r1
  obtain ⟨its, rv, pt, hz⟩ := I1.tuple hq
  refine call_enum1 (begins_tuple l its.toArray) pt fun h' he hit hk => wpAny_pyIter_enum he ?_
  have I2 : Inv X pins sg H1 { s1 with heap := h' } := I1.kept (t' := s1.toks) hk
  refine ⟨s1.heap.objs.size + 1, [s1.heap.objs.size + 1, s1.heap.objs.size], _, _, H1, rfl, I2, turn_enumT l (s1.heap.objs.size + 1) s1.heap.objs.size xs.length, ⟨Nat.zero_le _, ⟨.none, he⟩, ⟨_, hit, rfl, rfl⟩, Nat.succ_ne_self _⟩, fun b hb => ?_, q⟩
  have low : s1.heap.objs.size ≤ b := by
    rcases List.mem_cons.mp hb with z | z
    · rw [z]; exact Nat.le_succ _
    · rw [List.mem_singleton.mp z]; exact Nat.le_refl _
  exact I1.fpOk low (I1.hok.fresh low)
theorem gi_enum {m : M PyData} (hg : Gl X "enumerate") (hm : X.mg "enumerate" = none) (h : GD T E X a m) (h1 : One X a := by rfl) (h2 : starEach [a] X.env = [(false, eval a X.env)] := by rfl) :
    GI T E X (.Tuple elts kk tpos) (.Call (.Name "enumerate" p) [a] [] pos) (enumM m) :=
  pi_imp (pi_orI (pi_enum hg hm (pa_cons h pa_nil h1) h2) (pi_enumT hg hm h h1)) fun sg H R ⟨en, Z, r, q⟩ => by
    unfold enumM bnd at q
    cases hm : m en with
    | bad => rw [hm] at q; exact q.elim
    | err c en1 =>
      rw [hm] at q
      exact .inr ⟨en, Z, r, by rw [hm]; exact q⟩
    | ok d en1 =>
      rw [hm] at q
      cases d with
      | list ds =>
        refine .inl ⟨en, Z, r, ?_⟩
        rw [hm]
        intro H1 Z1 a1 v hv
        cases hv with
        | lst g1 g2 => exact ⟨_, _, rfl, Same.seq a1.rel.sub g1, q H1 Z1 a1 _ (itis_enumL (k := ⟨X.K, T⟩) g1 g2)⟩
      | tuple ds =>
        refine .inr ⟨en, Z, r, ?_⟩
        rw [hm]
        intro H1 Z1 a1 v hv
        cases hv with
        | tup g1 g2 => exact ⟨_, _, rfl, SqT.mono a1.rel.sub g1, q H1 Z1 a1 _ (itis_enumT (k := ⟨X.K, T⟩) g1 g2)⟩
      | _ => exact q.elim
end
end ZD

namespace ZD
open PySem PySem.Spec PyProof.Rows L2 GxR ZG
open AutoSeq1 (wpAny_loadPart')

/-! ### tuple(reversed(range(n))) -/
section
variable {prog : Program} {w : World} {A : Around} {E : Value → Shared → Prop} {s : Shared}
theorem nolen_rit : typeLookup (.type "range_iterator") "__len__" = pure none := by rw [typeLookup_type, builtinLookup_eq_fast]; kernel_rfl
theorem call_rit_hint {it : Addr} {x n c : Int} {Q : Value → Shared → Prop} (hit : IsRangeIter s.heap it x n c) (h : Q (.int n s.toks) { s with toks := s.toks + 1 }) :
    wpAny (model prog w) A (call (.builtin "range_iterator.__length_hint__") [.ref it]) Q E s := by
  have hT : s.TypeIs (.ref it) "range_iterator" := ⟨_, hit, rfl⟩
  refine wpAny_call_entry F.slot_range_iterator_length_hint hT F.entry_range_iterator_length_hint ?_ (F.args_range_iterator_length_hint_1 _)
  show wpAny _ _ (field (.ref it) 1 >>= _) _ _ _
  refine wpAny_bind (wpAny_field hit rfl (x := rawInt n) rfl ?_)
  obtain ⟨hp, g, d, tk, os⟩ := s
  wp_walk
  exact ⟨_, rfl, h⟩
theorem hint_rit {it : Addr} {x c : Int} {n : Nat} {Q : Bool → Shared → Prop} (hit : IsRangeIter s.heap it x n c) (hn : n ≤ 2 ^ 24) (h : Q false { s with toks := s.toks + 1 }) :
    wpAny (model prog w) A (Builtin.List.listLengthHint (.ref it)) Q E s := by
  have hT : s.TypeIs (.ref it) "range_iterator" := ⟨_, hit, rfl⟩
  have ok : Builtin.List.listTooLong ((n : Int).toNat) = false := by simp [Builtin.List.listTooLong, sizeLine]; omega
  unfold Builtin.List.listLengthHint
  refine wpAny_bind (wpAny_specialOf hT nolen_rit (wpAny_bind (wpAny_specialOf hT F.slot_range_iterator_length_hint.lookup ?_)))
  generalize hq : ("range_iterator.__length_hint__" : String) = nm
  wp_delta
  rw [show splitId nm = some ("range_iterator", "__length_hint__") by rw [← hq]; decide +kernel]
  rw [← hq]
  refine wpAny_bind (wpAny_isInstance (b := true) hT (by rw [isSubtype_type]; kernel_rfl) ?_)
  refine wpAny_ite_split (fun z => absurd z (by decide)) fun _ => ?_
  refine wpAny_ite_split (fun _ => ?_) fun z => absurd (by decide +kernel) z
  refine wpAny_ite_split (fun _ => ?_) fun z => absurd (by decide +kernel) z
  refine wpAny_bind (call_rit_hint hit (wpAny_bind (m := asInt? _) (wpAny_pure ?_)))
  exact wpAny_ite_split (fun z => absurd z (by rw [ok]; decide)) fun _ => wpAny_pure h
theorem collect_rit {it : Addr} {x c : Int} {n : Nat} {Q : List Value → Shared → Prop} (hh : A.handled = none) (hit : IsRangeIter s.heap it x n c) (hn : n ≤ 2 ^ 24)
    (hQ : ∀ (h' : Heap) (tk : Nat) (got : Array Value), (∀ b o, b ≠ it → s.heap.get? b = some o → h'.get? b = some o) → ItemsOf (fun i v => ∃ t, v = .int (x + i * c) t) got n → Q got.toList { s with heap := h', toks := tk }) :
    wpAny (model prog w) A (collect (.ref it)) Q E s := by
  have WK := (Walks.range (prog := prog) (w := w) (A := A.in1) hh it x c n).toS
  have ni : s.heap.objs.size ≠ it := Nat.ne_of_gt (Heap.lt_size hit)
  have hNot : s.heap.objs.size ∉ [it] := fun z => ni (List.mem_singleton.mp z)
  unfold collect
  refine wpAny_bind (wpAny_runValue (codeAny_builtin F.entry_proto_collect ?_))
  rw [Around.under_plainId F.plain_proto_collect _]
  show wpAny _ A.in1 (newList [] >>= fun q => again (.builtin "list.__iadd__" ⟨[q, .ref it], []⟩)) _ _ s
  refine wpAny_bind (wpAny_newObj_type (wpAny_pure ⟨plainId_quiet F.plain_list_iadd _, codeAny_builtin F.entry_list_iadd ?_⟩))
  rw [Around.under_plainId F.plain_list_iadd _]
  have hS : (s.heap.push { cls := .type "list", data := .seq ([] : List Value).toArray }).get? s.heap.objs.size = some { cls := .type "list", data := .seq ([] : List Value).toArray } := Heap.get?_push_size _ rfl
  have hit1 : IsRangeIter (s.heap.push { cls := .type "list", data := .seq ([] : List Value).toArray }) it x n c := Heap.get?_push_of_some _ hit
  have hT : ({ s with heap := s.heap.push { cls := .type "list", data := .seq ([] : List Value).toArray } } : Shared).TypeIs (.ref it) "range_iterator" := ⟨_, hit1, rfl⟩
  have same : Builtin.List.listSameRef (.ref s.heap.objs.size) (.ref it) = false := by simp [Builtin.List.listSameRef, ni]
  show wpAny _ A.in1 (Builtin.List.listExtendWith (.ref s.heap.objs.size) (.ref it) (.ref s.heap.objs.size)) _ _ _
  unfold Builtin.List.listExtendWith
  refine wpAny_bind (wpAny_typeOf hT ?_)
  rw [if_neg (by rw [same]; decide)]
  refine wpAny_bind (wpAny_pyIter_rangeiter (s := { s with heap := s.heap.push { cls := .type "list", data := .seq ([] : List Value).toArray } }) hit1 (wpAny_bind (wpAny_holding (hint_rit hit1 hn ?_))))
  rw [if_neg (by decide)]
  have z1 : x + ((0 : Nat) : Int) * c = x := by simp
  have z2 : (n : Int) - ((0 : Nat) : Int) = n := by simp
  refine wpAny_pure ⟨plainId_quiet F.plain_extend_loop _, codeAny_extend_loopS WK (by rw [sizeLine_eq]; omega) _ hNot _ n 0 _ _ _ rfl (Nat.zero_le _) (by show IsRangeIter _ _ _ _ _; rw [z1, z2]; exact hit1) hS (ItemsOf.nil _) fun s2 got c2 mv hg hi => ?_⟩
  show wpAny _ A (load s.heap.objs.size >>= _) _ _ s2
  refine wpAny_bind (wpAny_load hg (wpAny_pure ?_))
  rw [Moved.eq_with mv]
  refine hQ s2.heap s2.toks got (fun b o h1 e => mv.heap b o (fun hm => ?_) (Heap.get?_push_of_some _ e)) hi
  rcases List.mem_cons.mp hm with z | z
  · exact absurd (Heap.lt_size e) (by rw [z]; exact Nat.lt_irrefl _)
  · exact h1 (List.mem_singleton.mp z)
theorem code_tuple_rit {it : Addr} {x c : Int} {n : Nat} {Q₁ : Value → Shared → Prop} (hh : A.handled = none) (hit : IsRangeIter s.heap it x n c) (hn : n ≤ 2 ^ 24)
    (h : ∀ (h' : Heap) (tk : Nat) (got : Array Value), (∀ b o, b ≠ it → s.heap.get? b = some o → h'.get? b = some o) → ItemsOf (fun i v => ∃ t, v = .int (x + i * c) t) got n →
      Q₁ (.ref h'.objs.size) { s with heap := h'.push { cls := .type "tuple", data := .seq got }, toks := tk }) :
    codeAny (model prog w) A (.call (.builtin "tuple.__new__") ⟨[.type "tuple", .ref it], []⟩) (wants Q₁ E) s := by
  refine codeAny_of_tree ?_
  show wpAny _ A.in1 (do checkBuiltinCall "tuple.__new__" ⟨[.type "tuple", .ref it], []⟩; again (.builtin "tuple.__new__" ⟨[.type "tuple", .ref it], []⟩)) _ _ s
  refine wpAny_bind (wpAny_of_eq (F.newCall_tuple_1 _) (wpAny_pure ⟨plainId_quiet F.plain_tuple_new _, codeAny_builtin F.entry_tuple_new ?_⟩))
  rw [Around.under_plainId F.plain_tuple_new _]
  have k1 := sub_tuple_self
  have k2 := init_tuple_lookup
  have k3 := madeHere_tuple
  have hTI : s.TypeIs (.ref it) "range_iterator" := ⟨_, hit, rfl⟩
  have hh1 : A.in1.handled = none := hh
  wp_walk using wpAny_typeOf hTI, collect_rit (A := A.in1) hh1 hit hn
  intro h' tk got hk hi
  show wpAny _ _ (Builtin.Tuple.tupleExact got.toList.toArray >>= fun v => PySem.ret v) _ _ _
  unfold Builtin.Tuple.tupleExact
  have ea : got.toList.toArray = got := by simp
  rw [ea]
  refine wpAny_bind (wpAny_newObj_type (wpAny_pure (h h' tk got hk hi)) (by show got.size ≤ sizeLine; rw [hi.1, sizeLine_eq]; omega))
theorem call_tuple_rit {it : Addr} {x c : Int} {n : Nat} {Q : Value → Shared → Prop} (hh : A.handled = none) (hit : IsRangeIter s.heap it x n c) (hn : n ≤ 2 ^ 24)
    (hQ : ∀ (h' : Heap) (tk : Nat) (got : Array Value), (∀ b o, b ≠ it → s.heap.get? b = some o → h'.get? b = some o) → ItemsOf (fun i v => ∃ t, v = .int (x + i * c) t) got n →
      Q (.ref h'.objs.size) { s with heap := h'.push { cls := .type "tuple", data := .seq got }, toks := tk }) :
    wpAny (model prog w) A (call (.type "tuple") [.ref it]) Q E s := by
  refine callType_codes (Q₁ := fun o s₁ => s₁.TypeIs o "tuple" ∧ Q o s₁) F.called_tuple (F.typeCall_tuple_1 _) F.entry_object_init
    (code_tuple_rit (A := A.in1) hh hit hn fun h' tk got hk hi => ⟨⟨_, Heap.get?_push_size _ rfl, rfl⟩, hQ h' tk got hk hi⟩) fun o s₁ g => ?_
  exact ⟨g.1, F.args_object_init_2 o _, object_init_meets F.called_tuple.init.lookup F.called_tuple.made (by decide) prog w A.in1 _ s₁ ⟨g.1, rfl, g.2⟩⟩
end
theorem vals_rgr {a b : Int} {got : Array Value} (h : ItemsOf (fun i v => ∃ t, v = .int (a + (((b - a).toNat : Nat) : Int) - 1 + i * (-1)) t) got (b - a).toNat) : Vals (rgV a b).reverse got.toList := by
  have e : got.toList.length = (b - a).toNat := by rw [Array.length_toList]; exact h.1
  refine vals_of_at (by rw [List.length_reverse, rgV_length, e]) fun j x u hx hu => ?_
  have hj : j < (b - a).toNat := by
    have := (List.getElem?_eq_some_iff.mp hu).1
    omega
  obtain ⟨t, rfl⟩ := h.2 j u (by rw [← hu, Array.getElem?_toList])
  rw [List.getElem?_reverse (by rw [rgV_length]; exact hj), rgV_length] at hx
  unfold rgV at hx
  rw [List.getElem?_map, List.getElem?_range (by omega)] at hx
  cases hx
  exact ⟨t, by congr 1; omega⟩
section
variable {X : Cx} {e : Expr} {te : L2.St → Hp → (Int → Int → Hp → Prop) → Prop} {p p2 pos pos2 : Pos}
def tTupRgR (te : L2.St → Hp → (Int → Int → Hp → Prop) → Prop) : TE := tRgQ te fun i j H Q => RgOk i j ∧ ∀ q, H q = none → Q (.ref q) (upd H q (.tup (rgV i j).reverse))
theorem pe_tupRevR (hc : X.calm = true) (hg : Gl X "tuple") (hm : X.mg "tuple" = none) (hg2 : Gl X "reversed") (hm2 : X.mg "reversed" = none) (he : PRg X e te) (h1 : One X e) (h2 : One X (.Call (.Name "reversed" p2) [e] [] pos2)) :
    PE X (.Call (.Name "tuple" p) [.Call (.Name "reversed" p2) [e] [] pos2] [] pos) (tTupRgR te) := by
  refine ⟨fun pins s sg H Q I h => ?_⟩
  refine Call_ (ld_blt I hg hm boot_tuple (PyProof.Rows.callWith_type1 (args_cons (Call_ (ld_blt I hg2 hm2 PyProof.Rows.boot_reversed
    (PyProof.Rows.callWith_type1 (args_cons (thn (he pins s sg H _ I h) fun u s1 hx => args_nil ?_) h1) h1 rfl))) h2) h2 rfl))
  obtain ⟨r, a, b, t, w1, v, H1, eu, hr, I1, ok, q⟩ := hx
  subst eu
  obtain ⟨b1, b2, b3, b4, b5⟩ := id ok
  have hn : Builtin.Range.rangeSize a b 1 = (((b - a).toNat : Nat) : Int) := rangeSize_nat a b
  refine call_reversed_range hr (smallRev_one b1 b2 b3 b4) (args_nil ?_)
  have up : ∀ b' o, s1.heap.get? b' = some o → (s1.heap.push (rngRevObj a b 1)).get? b' = some o := fun b' o z => Heap.get?_push_of_some _ z
  have hit : IsRangeIter (s1.heap.push (rngRevObj a b 1)) s1.heap.objs.size (a + (((b - a).toNat : Nat) : Int) - 1) ((b - a).toNat : Nat) (-1) := by
    have e1 : a + (Builtin.Range.rangeSize a b 1 - 1) * 1 = a + (((b - a).toNat : Nat) : Int) - 1 := by rw [hn]; omega
    have ro : rngRevObj a b 1 = { cls := .type "range_iterator", data := .fields #[rawInt (a + (((b - a).toNat : Nat) : Int) - 1), rawInt ((b - a).toNat : Nat), rawInt (-1)] } := by unfold rngRevObj; rw [e1, hn]
    rw [ro]
    exact Heap.get?_push_size _ rfl
  refine call_tuple_rit (s := { s1 with heap := s1.heap.push (rngRevObj a b 1) }) (I1.ok.hd hc) hit b5 fun h' tk got hk hi => ?_
  have keep : ∀ b' o, s1.heap.get? b' = some o → h'.get? b' = some o := fun b' o z => hk b' o (Nat.ne_of_lt (Heap.lt_size z)) (up b' o z)
  have I3 : Inv X pins sg H1 { s1 with heap := h', toks := tk } := I1.kept (t' := tk) keep
  refine ⟨.ref h'.objs.size, upd H1 h'.objs.size (.tup (rgV a b).reverse), I3.laid (t' := tk) (fun b' o z => Heap.get?_push_of_some _ z) (Nat.le_refl _)
    (show ObjOk X.prog X.w _ _ _ (.tup (rgV a b).reverse) from ⟨?_, got.toList, vals_rgr hi, ?_⟩), rfl, q _ (I3.hok.fresh (Nat.le_refl _))⟩
  · rw [List.length_reverse, rgV_length, sizeLine_eq]; omega
  · rw [Array.toArray_toList]; exact IsTup.new _ _
end
section
variable {T : List Addr} {E : Wish} {X : Cx} {a : Expr} {p p2 p3 pos pos2 pos3 : Pos} {m : M PyData}
theorem ge_tupRevR1 (hc : X.calm = true) (hg : Gl X "tuple") (hm : X.mg "tuple" = none) (hg2 : Gl X "reversed") (hm2 : X.mg "reversed" = none) (hg3 : Gl X "range") (hm3 : X.mg "range" = none) (h : GD T E X a m)
    (h1 : One X (.Call (.Name "reversed" p2) [.Call (.Name "range" p3) [a] [] pos3] [] pos2) := by rfl) (h2 : One X (.Call (.Name "range" p3) [a] [] pos3) := by rfl) (h3 : One X a := by rfl) :
    GE T E X (.Call (.Name "tuple" p) [.Call (.Name "reversed" p2) [.Call (.Name "range" p3) [a] [] pos3] [] pos2] [] pos) (rg1 (fun ds => .nt ds.reverse) m) :=
  ge_rg1 h (fun x => pe_tupRevR hc hg hm hg2 hm2 x h2 h1) (fun x => prg_1 hg3 hm3 x h3) fun i j H Z Q ok o => ⟨ok, fun l hl => o.2 l _ hl (dpa_rev (rgV_dp i _))⟩
end
end ZD

namespace ZD
open PySem PySem.Spec PyProof.Rows L2 GxR ZG
/-! ### * of wide numbers -/
def oMulX := oInt (fun i j => decide (i.natAbs.log2 + j.natAbs.log2 < 100000000)) (fun i j => i * j)
section
variable {T : List Addr} {E : Wish} {X : Cx} {a b : Expr} {pos : Pos} {p q : M Od}
theorem mulX_of {i j : Int} (h : i.natAbs.log2 + j.natAbs.log2 < 100000000) : CMulX i j :=
  mulx_ok (a := i.natAbs.log2 + 1) (b := j.natAbs.log2 + 1) Nat.lt_log2_self Nat.lt_log2_self (by omega)
theorem ge_mulX (ha : GO T E X a p) (hb : GO T E X b q) : GE T E X (.BinOp a .Mult b pos) (op2 oMulX p q) := ge_op2 ha hb (fun _ _ h1 h2 => pe_op op_mulX h1 h2) (says_int fun i j h => mulX_of (of_decide_eq_true h))
end
end ZD

namespace ZD
open PySem PySem.Spec PyProof.Rows L2 GxR ZG
/-! sum, max, min; zip -/
def intsOf : List PyData → Option (List Int)
  | [] => some []
  | .int i :: ds => (intsOf ds).map (i :: ·)
  | _ => none
theorem dpa_ints {K : PySem.W.Frag} {Z : Hp} : ∀ {vs : List V} {ds : List PyData} {ns : List Int}, DpAll K Z vs ds → intsOf ds = some ns → vs = ns.map V.int
  | _, [], ns, h, e => by
    cases e
    cases h
    rfl
  | _, d :: ds, ns, h, e => by
    cases h with
    | cons h1 h2 =>
      cases d with
      | int i =>
        cases hr : intsOf ds with
        | none => simp only [intsOf, hr] at e; cases e
        | some ms =>
          simp only [intsOf, hr, Option.map_some] at e
          cases e
          cases h1
          rw [dpa_ints h2 hr]; rfl
      | _ => cases e
def oSum : PyData → Out
  | .list ds => match intsOf ds with
    | some ns => .d (.int ns.sum)
    | none => .bad
  | _ => .bad
def gtI (i j : Int) : Int := if j > i then j else i
def ltI (i j : Int) : Int := if j < i then j else i
def maxL : List Int → Int
  | [] => 0
  | i :: ns => ns.foldl gtI i
def minL : List Int → Int
  | [] => 0
  | i :: ns => ns.foldl ltI i
def oMaxL : PyData → Out
  | .list ds => match intsOf ds with
    | some (i :: ns) => .d (.int (maxL (i :: ns)))
    | _ => .bad
  | _ => .bad
def oMinL : PyData → Out
  | .list ds => match intsOf ds with
    | some (i :: ns) => .d (.int (minL (i :: ns)))
    | _ => .bad
  | _ => .bad
theorem foldl_gt (ns : List Int) : ∀ i, (ns.foldl gtI i ∈ i :: ns) ∧ ∀ y ∈ i :: ns, y ≤ ns.foldl gtI i := by
  induction ns with
  | nil =>
    intro i
    refine ⟨List.mem_cons_self, fun y hy => ?_⟩
    have : y = i := by simpa using hy
    rw [this]; exact Int.le_refl _
  | cons a ns ih =>
    intro i
    rw [List.foldl_cons]
    obtain ⟨h1, h2⟩ := ih (gtI i a)
    have g : i ≤ gtI i a ∧ a ≤ gtI i a ∧ (gtI i a = i ∨ gtI i a = a) := by unfold gtI; split <;> omega
    refine ⟨?_, fun y hy => ?_⟩
    · rcases List.mem_cons.mp h1 with e | e
      · rw [e]; rcases g.2.2 with q | q <;> rw [q] <;> simp
      · simp [e]
    · have b := h2 _ List.mem_cons_self
      rcases List.mem_cons.mp hy with rfl | hy
      · omega
      · rcases List.mem_cons.mp hy with rfl | hy
        · omega
        · exact h2 y (List.mem_cons_of_mem _ hy)
theorem foldl_lt (ns : List Int) : ∀ i, (ns.foldl ltI i ∈ i :: ns) ∧ ∀ y ∈ i :: ns, ns.foldl ltI i ≤ y := by
  induction ns with
  | nil =>
    intro i
    refine ⟨List.mem_cons_self, fun y hy => ?_⟩
    have : y = i := by simpa using hy
    rw [this]; exact Int.le_refl _
  | cons a ns ih =>
    intro i
    rw [List.foldl_cons]
    obtain ⟨h1, h2⟩ := ih (ltI i a)
    have g : ltI i a ≤ i ∧ ltI i a ≤ a ∧ (ltI i a = i ∨ ltI i a = a) := by unfold ltI; split <;> omega
    refine ⟨?_, fun y hy => ?_⟩
    · rcases List.mem_cons.mp h1 with e | e
      · rw [e]; rcases g.2.2 with q | q <;> rw [q] <;> simp
      · simp [e]
    · have b := h2 _ List.mem_cons_self
      rcases List.mem_cons.mp hy with rfl | hy
      · omega
      · rcases List.mem_cons.mp hy with rfl | hy
        · omega
        · exact h2 y (List.mem_cons_of_mem _ hy)
section
variable {T : List Addr} {E : Wish} {X : Cx} {a b : Expr} {pos : Pos} {p q : M Od}
theorem says_sum : Says1 X.K oSum fun v H Q => rSum X.K [v] H Q := by
  intro H Z v d Q hz hv ho
  cases d with
  | list ds =>
    obtain ⟨l, xs, rfl, h1, h2⟩ := hv.list hz
    cases hi : intsOf ds with
    | none => simp only [oSum, hi] at ho; exact ho.elim
    | some ns =>
      simp only [oSum, hi] at ho
      refine ⟨l, ns, rfl, ?_, ho _ (.int _)⟩
      rw [← dpa_ints h2 hi]; exact h1
  | _ => exact False.elim ho
theorem says_maxL : Says1 X.K oMaxL fun v H Q => rMax X.K [v] H Q := by
  intro H Z v d Q hz hv ho
  cases d with
  | list ds =>
    obtain ⟨l, xs, rfl, h1, h2⟩ := hv.list hz
    cases hi : intsOf ds with
    | none => simp only [oMaxL, hi] at ho; exact ho.elim
    | some ns =>
      cases ns with
      | nil => simp only [oMaxL, hi] at ho; exact ho.elim
      | cons i ns =>
        simp only [oMaxL, hi] at ho
        refine ⟨l, i :: ns, rfl, ?_, by simp, fun m hm hle => ?_⟩
        · rw [← dpa_ints h2 hi]; exact h1
        · obtain ⟨k1, k2⟩ := foldl_gt ns i
          have e : m = maxL (i :: ns) := Int.le_antisymm (k2 m hm) (hle _ k1)
          rw [e]
          exact ho _ (.int _)
  | _ => exact False.elim ho
theorem says_minL : Says1 X.K oMinL fun v H Q => rMin X.K [v] H Q := by
  intro H Z v d Q hz hv ho
  cases d with
  | list ds =>
    obtain ⟨l, xs, rfl, h1, h2⟩ := hv.list hz
    cases hi : intsOf ds with
    | none => simp only [oMinL, hi] at ho; exact ho.elim
    | some ns =>
      cases ns with
      | nil => simp only [oMinL, hi] at ho; exact ho.elim
      | cons i ns =>
        simp only [oMinL, hi] at ho
        refine ⟨l, i :: ns, rfl, ?_, by simp, fun m hm hle => ?_⟩
        · rw [← dpa_ints h2 hi]; exact h1
        · obtain ⟨k1, k2⟩ := foldl_lt ns i
          have e : m = minL (i :: ns) := Int.le_antisymm (hle _ k1) (k2 m hm)
          rw [e]
          exact ho _ (.int _)
  | _ => exact False.elim ho
theorem ge_sum {px : Pos} (hc : X.calm = true) (hg : Gl X "sum") (hm : X.mg "sum" = none) (ha : GO T E X a p) (he : starEach [a] X.env = (false, eval a X.env) :: starEach [] X.env := by rfl) (hpl : (backTo pos (starEach [] X.env)).any (·.1) = false := by rfl) : GE T E X (.Call (.Name "sum" px) [a] [] pos) (op1 oSum p) :=
  ge_cb1 (cr_sum hc) PyProof.Rows.boot_sum says_sum hg hm ha (by decide) (by decide) he hpl
theorem ge_maxL {px : Pos} (hc : X.calm = true) (hg : Gl X "max") (hm : X.mg "max" = none) (ha : GO T E X a p) (he : starEach [a] X.env = (false, eval a X.env) :: starEach [] X.env := by rfl) (hpl : (backTo pos (starEach [] X.env)).any (·.1) = false := by rfl) : GE T E X (.Call (.Name "max" px) [a] [] pos) (op1 oMaxL p) :=
  ge_cb1 (cr_max hc) PyProof.Rows.boot_max says_maxL hg hm ha (by decide) (by decide) he hpl
theorem ge_minL {px : Pos} (hc : X.calm = true) (hg : Gl X "min") (hm : X.mg "min" = none) (ha : GO T E X a p) (he : starEach [a] X.env = (false, eval a X.env) :: starEach [] X.env := by rfl) (hpl : (backTo pos (starEach [] X.env)).any (·.1) = false := by rfl) : GE T E X (.Call (.Name "min" px) [a] [] pos) (op1 oMinL p) :=
  ge_cb1 (cr_min hc) PyProof.Rows.boot_min says_minL hg hm ha (by decide) (by decide) he hpl
def oMax2 : PyData → PyData → Out
  | .int i, .int j => .d (.int (if j > i then j else i))
  | _, _ => .bad
def oMin2 : PyData → PyData → Out
  | .int i, .int j => .d (.int (if j < i then j else i))
  | _, _ => .bad
theorem says_max2 : Says2 X.K oMax2 fun v w H Q => (fun xs H Q => ∃ i j, xs = [V.int i, V.int j] ∧ Q (V.int (if j > i then j else i)) H) [v, w] H Q := by
  intro H Z v w d e Q hz hv hw ho
  cases d with
  | int i =>
    cases e with
    | int j =>
      cases hv.int
      cases hw.int
      exact ⟨i, j, rfl, ho _ (.int _)⟩
    | _ => exact False.elim ho
  | _ => exact False.elim ho
theorem says_min2 : Says2 X.K oMin2 fun v w H Q => (fun xs H Q => ∃ i j, xs = [V.int i, V.int j] ∧ Q (V.int (if j < i then j else i)) H) [v, w] H Q := by
  intro H Z v w d e Q hz hv hw ho
  cases d with
  | int i =>
    cases e with
    | int j =>
      cases hv.int
      cases hw.int
      exact ⟨i, j, rfl, ho _ (.int _)⟩
    | _ => exact False.elim ho
  | _ => exact False.elim ho
theorem ge_max2 {px : Pos} (hc : X.calm = true) (hg : Gl X "max") (hm : X.mg "max" = none) (ha : GO T E X a p) (hb : GO T E X b q) (he : starEach [a, b] X.env = (false, eval a X.env) :: starEach [b] X.env := by rfl) (he2 : starEach [b] X.env = (false, eval b X.env) :: starEach [] X.env := by rfl) (hpl : (backTo pos (starEach [b] X.env)).any (·.1) = false := by rfl) : GE T E X (.Call (.Name "max" px) [a, b] [] pos) (op2 oMax2 p q) :=
  ge_cb2 (call_max2 hc) PyProof.Rows.boot_max says_max2 hg hm ha hb (by decide) (by decide) he he2 hpl
theorem ge_min2 {px : Pos} (hc : X.calm = true) (hg : Gl X "min") (hm : X.mg "min" = none) (ha : GO T E X a p) (hb : GO T E X b q) (he : starEach [a, b] X.env = (false, eval a X.env) :: starEach [b] X.env := by rfl) (he2 : starEach [b] X.env = (false, eval b X.env) :: starEach [] X.env := by rfl) (hpl : (backTo pos (starEach [b] X.env)).any (·.1) = false := by rfl) : GE T E X (.Call (.Name "min" px) [a, b] [] pos) (op2 oMin2 p q) :=
  ge_cb2 (call_min2 hc) PyProof.Rows.boot_min says_min2 hg hm ha hb (by decide) (by decide) he he2 hpl
end
/-! zip -/
def zipD (xs ys : List PyData) : List PyData := (xs.zip ys).map fun p => .tuple [p.1, p.2]
theorem zipD_get {xs ys : List PyData} {i : Nat} {d : PyData} (h : (zipD xs ys)[i]? = some d) : ∃ x y, xs[i]? = some x ∧ ys[i]? = some y ∧ d = .tuple [x, y] := by
  unfold zipD at h
  rw [List.getElem?_map] at h
  obtain ⟨⟨x, y⟩, h1, rfl⟩ := Option.map_eq_some_iff.mp h
  obtain ⟨h2, h3⟩ := List.getElem?_zip_eq_some.mp h1
  exact ⟨x, y, h2, h3, rfl⟩
theorem zipD_len (xs ys : List PyData) : (zipD xs ys).length = min xs.length ys.length := by simp [zipD]
theorem zip_yld {k : Kx} {sg : L2.St} {H Z : Hp} {en : En} {t : Addr} {v w : V} {x y : PyData} (r : Rel k sg H Z en) (ht : H t = none) (hd : Dp k.K Z v x) (he : Dp k.K Z w y) :
    ∃ Z', Aft k sg H Z en sg (upd H t (.tup [v, w])) Z' en ∧ Dp k.K Z' (.ref t) (.tuple [x, y]) :=
  ⟨_, aft_all r ht, .tup (.inl (.inl upd_same)) (.cons (dp_mono (aft_all r ht (o := .tup [v, w])).zz hd) (.cons (dp_mono (aft_all r ht (o := .tup [v, w])).zz he) .nil))⟩
theorem itis_zipL {k : Kx} {l m : Addr} {vs ws : List V} {ds es : List PyData} {Zs : Hp} (h : SqL k.K Zs l vs) (h2 : SqL k.K Zs m ws) (hd : DpAll k.K Zs vs ds) (he : DpAll k.K Zs ws es) : ItIs k (zipD ds es) (Itz k.K l m) Zs where
  stop := fun sg H Z en r hz => ⟨vs, ws, Same.seq (fun x o q => r.sub x o (hz x o q)) h, Same.seq (fun x o q => r.sub x o (hz x o q)) h2, by rw [zipD_len, dpa_length hd, dpa_length he]; omega⟩
  go := fun sg H Z en i d r hz hi => by
    have hs : SqL k.K H l vs := Same.seq (fun x o q => r.sub x o (hz x o q)) h
    have hs2 : SqL k.K H m ws := Same.seq (fun x o q => r.sub x o (hz x o q)) h2
    obtain ⟨x, y, hx, hy, rfl⟩ := zipD_get hi
    obtain ⟨v, hv, hvd⟩ := dpa_get hd hx
    obtain ⟨w, hw, hwd⟩ := dpa_get he hy
    refine ⟨⟨vs, ws, v, w, hs, hs2, hv, hw⟩, fun z H' hz' => ?_⟩
    obtain ⟨t, u, u2, rfl, ht, rfl, hu, hu2⟩ := hz'
    cases hv.symm.trans (hu vs hs)
    cases hw.symm.trans (hu2 ws hs2)
    exact zip_yld r ht (dp_mono hz hvd) (dp_mono hz hwd)
theorem itis_zipT {k : Kx} {l m : Addr} {vs ws : List V} {ds es : List PyData} {Zs : Hp} (h : SqT k.K Zs l vs) (h2 : SqT k.K Zs m ws) (hd : DpAll k.K Zs vs ds) (he : DpAll k.K Zs ws es) : ItIs k (zipD ds es) (RZ.ItzT k.K l m) Zs where
  stop := fun sg H Z en r hz => ⟨vs, ws, SqT.mono (fun x o q => r.sub x o (hz x o q)) h, SqT.mono (fun x o q => r.sub x o (hz x o q)) h2, by rw [zipD_len, dpa_length hd, dpa_length he]; omega⟩
  go := fun sg H Z en i d r hz hi => by
    have hs : SqT k.K H l vs := SqT.mono (fun x o q => r.sub x o (hz x o q)) h
    have hs2 : SqT k.K H m ws := SqT.mono (fun x o q => r.sub x o (hz x o q)) h2
    obtain ⟨x, y, hx, hy, rfl⟩ := zipD_get hi
    obtain ⟨v, hv, hvd⟩ := dpa_get hd hx
    obtain ⟨w, hw, hwd⟩ := dpa_get he hy
    refine ⟨⟨vs, ws, v, w, hs, hs2, hv, hw⟩, fun z H' hz' => ?_⟩
    obtain ⟨t, u, u2, rfl, ht, rfl, hu, hu2⟩ := hz'
    cases hv.symm.trans (hu vs hs)
    cases hw.symm.trans (hu2 ws hs2)
    exact zip_yld r ht (dp_mono hz hvd) (dp_mono hz hwd)
def zipF (d e : PyData) : Option (List PyData) := match d, e with
  | .list ds, .list es => some (zipD ds es)
  | .tuple ds, .tuple es => some (zipD ds es)
  | _, _ => none
def zipM (m : M (List PyData)) : M (List PyData) := bnd m fun ds => match ds with
  | [d, e] => (match zipF d e with
    | some xs => ret xs
    | none => ZD.fail)
  | _ => ZD.fail
theorem gi_zip {X : Cx} {T : List Addr} {E : Wish} {a b : Expr} {p pos tpos : Pos} {elts : List Expr} {kk : Nat} {m : M (List PyData)} (hg : Gl X "zip") (hm : X.mg "zip" = none) (h : GA T E X [a, b] m)
    (hs : starEach [a, b] X.env = (false, eval a X.env) :: starEach [b] X.env := by rfl) (hpl : (backTo pos (starEach [b] X.env)).any (·.1) = false := by rfl) :
    GI T E X (.Tuple elts kk tpos) (.Call (.Name "zip" p) [a, b] [] pos) (zipM m) :=
  pi_imp (RZ.pi_zipA hg hm h hs hpl) fun sg H R ⟨en, Z, r, q⟩ => by
    refine ⟨en, Z, r, post_mono (post_bnd r q) fun ds en1 H1 Z1 _ ⟨a1, q1⟩ vs hvs => ?_⟩
    match ds, hvs, q1 with
    | [d, e], .cons h1 (.cons h2 .nil), q1 =>
      cases hz : zipF d e with
      | none => simp only [hz] at q1; exact q1.elim
      | some xs =>
        simp only [hz] at q1
        cases d with
        | list ds =>
          cases e with
          | list es =>
            cases hz
            cases h1 with
            | lst g1 g2 =>
              cases h2 with
              | lst k1 k2 => exact ⟨_, _, _, _, rfl, .inl ⟨Same.seq a1.rel.sub g1, Same.seq a1.rel.sub k1, post_ret a1.rel q1 _ (itis_zipL (k := ⟨X.K, T⟩) g1 k1 g2 k2)⟩⟩
          | _ => cases hz
        | tuple ds =>
          cases e with
          | tuple es =>
            cases hz
            cases h1 with
            | tup g1 g2 =>
              cases h2 with
              | tup k1 k2 => exact ⟨_, _, _, _, rfl, .inr ⟨SqT.mono a1.rel.sub g1, SqT.mono a1.rel.sub k1, post_ret a1.rel q1 _ (itis_zipT (k := ⟨X.K, T⟩) g1 k1 g2 k2)⟩⟩
          | _ => cases hz
        | _ => cases hz
    | [], _, q1 => exact q1.elim
    | [_], _, q1 => exact q1.elim
    | _ :: _ :: _ :: _, _, q1 => exact q1.elim
end ZD

namespace ZD
open PySem PySem.Spec PyProof.Rows L2 GxR ZG
/-! one's own list lent to a def that hands back a thing without lists -/
mutual
def flatT : PyData → Bool
  | .none | .bool _ | .int _ | .str _ => true
  | .tuple ds => flatTs ds
  | _ => false
def flatTs : List PyData → Bool
  | [] => true
  | d :: ds => flatT d && flatTs ds
end
def lookL (en : En) (x : Od) : Option PyData := match x with
  | .d d => some d
  | .s i => match en[i]? with
    | some (.sh d) => some d
    | some (.ow (.list ds)) => some (.list ds)
    | some (.io (.list ds)) => some (.list ds)
    | _ => none
def looksL (en : En) : List Od → Option (List PyData)
  | [] => some []
  | x :: xs => match lookL en x, looksL en xs with
    | some d, some ds => some (d :: ds)
    | _, _ => none
def lentB (en : En) (x : Od) : Bool := match x with
  | .d _ => false
  | .s i => (en[i]?.map isOwn).getD false
def monil : M (List Od) := ret []
def mocons (m : M Od) (ms : M (List Od)) : M (List Od) := bnd m fun x => bnd ms fun xs => ret (x :: xs)
def lendR (b : Bool) (y : Vl) (en : En) : Res Vl := if b = true then (match y with
  | .sh d => if flatT d = true then .ok (.sh d) en else .bad
  | _ => .bad) else .ok y en
def mcallO (np : Nat) (F : Fn) (ms : M (List Od)) : M Vl := bnd ms fun xs en => match looksL en xs with
  | some ds => if ds.length = np then (match F (ds.map .sh) with
    | .ok y _ => lendR (xs.any (lentB en)) y en
    | _ => .bad) else .bad
  | none => .bad
inductive OdsOk (k : Kx) (sg : L2.St) (Z : Hp) : List V → List Od → Prop
  | nil : OdsOk k sg Z [] []
  | cons {v : V} {vs : List V} {x : Od} {xs : List Od} : OdOk k sg Z v x → OdsOk k sg Z vs xs → OdsOk k sg Z (v :: vs) (x :: xs)
def tOA (k : Kx) (E : Wish) (m : M (List Od)) : TA := fun sg H Q => ∃ en Z, Rel k sg H Z en ∧ Post k E sg H Z en (m en) fun xs _ H' Z' => ∀ vs, OdsOk k sg Z' vs xs → Q vs H'
abbrev GOA (T : List Addr) (E : Wish) (X : Cx) (es : List Expr) (m : M (List Od)) : Prop := PA X es (tOA ⟨X.K, T⟩ E m)
section
variable {T : List Addr} {E : Wish} {X : Cx} {f : Addr} {fd : FuncData} {ps : List Str} {x : Str} {p pos : Pos} {a e : Expr} {es : List Expr} {k : Nat} {np : Nat} {F : Fn}
theorem od_mono' {kk : Kx} {sg : L2.St} {Z Z' : Hp} (h : ∀ a o, Z a = some o → Z' a = some o) {v : V} {x : Od} (q : OdOk kk sg Z v x) : OdOk kk sg Z' v x := by
  cases x with
  | d d => exact dp_mono h q
  | s i => exact q
theorem goa_nil : GOA T E X [] monil := pa_imp pa_nil fun sg H Q ⟨en, Z, r, q⟩ => post_ret r q [] .nil
theorem goa_cons {m : M Od} {ms : M (List Od)} (h : GO T E X a m) (hs : GOA T E X es ms) (hq : starEach (a :: es) X.env = (false, eval a X.env) :: starEach es X.env := by rfl) : GOA T E X (a :: es) (mocons m ms) :=
  pa_imp (pa_cons h hs hq) fun sg H Q ⟨en, Z, r, q⟩ => ⟨en, Z, r, post_mono (post_bnd r q) fun d en1 H1 Z1 _ ⟨a1, q1⟩ v hv => ⟨en1, Z1, a1.rel, post_mono (post_bnd a1.rel q1) fun ds en2 H2 Z2 _ ⟨a2, q2⟩ vs hvs =>
    post_ret a2.rel q2 (v :: vs) (.cons (od_mono' a2.zz hv) hvs)⟩⟩
/-- a place that is lent -/
def Lent (sg : L2.St) (en : En) (xs : List Od) (b : Addr) : Prop := ∃ i, Od.s i ∈ xs ∧ ∃ s, en[i]? = some s ∧ isOwn s = true ∧ sg[i]? = some (some (V.ref b))
theorem lent_mine {sg : L2.St} {en : En} {xs : List Od} {b : Addr} (h : Lent sg en xs b) : Mine sg en b := let ⟨i, _, s, h1, h2, h3⟩ := h; ⟨i, s, h1, h2, h3⟩
mutual
theorem dp_flat {K : PySem.W.Frag} {Z Z' : Hp} {B : Addr → Prop} (hB : ∀ b vs, B b → Z b ≠ some (.tup vs) ∧ ∀ o, Z b ≠ some (.frz o (.tup vs))) (h : ∀ a o, Z a = some o → ¬ B a → Z' a = some o) : ∀ {v : V} {d : PyData}, Dp K Z v d → flatT d = true → Dp K Z' v d
  | _, _, .non, _ => .non
  | _, _, .bl b, _ => .bl b
  | _, _, .int i, _ => .int i
  | _, _, .str x, _ => .str x
  | _, _, .lst hs ha, e => by simp [flatT] at e
  | _, _, .tup hs ha, e => .tup (by
      rcases hs with (q | ⟨o, q⟩) | q
      · exact .inl (.inl (h _ _ q fun hb => (hB _ _ hb).1 q))
      · exact .inl (.inr ⟨o, h _ _ q fun hb => (hB _ _ hb).2 o q⟩)
      · exact .inr q) (dpAll_flat hB h ha (by simpa [flatT] using e))
theorem dpAll_flat {K : PySem.W.Frag} {Z Z' : Hp} {B : Addr → Prop} (hB : ∀ b vs, B b → Z b ≠ some (.tup vs) ∧ ∀ o, Z b ≠ some (.frz o (.tup vs))) (h : ∀ a o, Z a = some o → ¬ B a → Z' a = some o) : ∀ {vs : List V} {ds : List PyData}, DpAll K Z vs ds → flatTs ds = true → DpAll K Z' vs ds
  | _, _, .nil, _ => .nil
  | _, _, .cons q r, e => by
    simp only [flatTs, Bool.and_eq_true] at e
    exact .cons (dp_flat hB h q e.1) (dpAll_flat hB h r e.2)
end
open Classical in
noncomputable def lendZ (sg : L2.St) (en : En) (xs : List Od) (H Z : Hp) : Hp := fun b => if Lent sg en xs b then H b else Z b
theorem lent_args {kk : Kx} {sg : L2.St} {H Z : Hp} {en : En} (r : Rel kk sg H Z en) {ys : List Od} : ∀ {xs : List Od} {vs : List V} {ds : List PyData}, (∀ x ∈ xs, x ∈ ys) → OdsOk kk sg Z vs xs → looksL en xs = some ds → DpAll kk.K (lendZ sg en ys H Z) vs ds
  | [], vs, ds, _, h, l => by cases h; cases l; exact .nil
  | x :: xs, vs, ds, hsub, h, l => by
    cases h with
    | cons h1 h2 =>
      rename_i v vs
      simp only [looksL] at l
      cases hx : lookL en x with
      | none => simp only [hx] at l; cases l
      | some d =>
        cases hxs : looksL en xs with
        | none => simp only [hx, hxs] at l; cases l
        | some ds' =>
          simp only [hx, hxs] at l
          cases l
          have zz : ∀ b o, Z b = some o → lendZ sg en ys H Z b = some o := fun b o hb => by
            unfold lendZ
            split
            · exact r.sub b o hb
            · exact hb
          refine .cons ?_ (lent_args r (fun y hy => hsub y (List.mem_cons_of_mem _ hy)) h2 hxs)
          cases x with
          | d y =>
            cases hx
            exact dp_mono zz h1
          | s i =>
            simp only [lookL] at hx
            cases hi : en[i]? with
            | none => rw [hi] at hx; cases hx
            | some s =>
              rw [hi] at hx
              obtain ⟨u, hu, hs⟩ := r.sl i s hi
              have h1' : sg[i]? = some (some v) := h1
              rw [h1'] at hu
              cases hu
              have own : ∀ ds, (s = .ow (.list ds) ∨ s = .io (.list ds)) → d = .list ds → Dp kk.K (lendZ sg en ys H Z) v d := fun ds e ed => by
                have ho : ∃ b, some v = some (V.ref b) ∧ Z b = none ∧ Own kk.K H Z b (.list ds) := by rcases e with rfl | rfl <;> exact hs
                obtain ⟨b, eb, hz, hb⟩ := ho
                cases eb
                have hL : Lent sg en ys b := ⟨i, hsub _ List.mem_cons_self, s, hi, by rcases e with rfl | rfl <;> rfl, h1'⟩
                cases hb with
                | lst g1 g2 =>
                  subst ed
                  refine .lst (.inl (.inl ?_)) (dpAll_mono zz g2)
                  unfold lendZ
                  rw [if_pos hL]; exact g1
              cases s with
              | no => cases hx
              | sh y =>
                cases hx
                obtain ⟨y', e, hd⟩ := hs
                cases e
                exact dp_mono zz hd
              | ow y =>
                cases y with
                | list ds => cases hx; exact own ds (.inl rfl) rfl
                | _ => cases hx
              | io y =>
                cases y with
                | list ds => cases hx; exact own ds (.inr rfl) rfl
                | _ => cases hx
theorem looks_mem {en : En} : ∀ {xs : List Od} {ds : List PyData}, looksL en xs = some ds → ∀ x ∈ xs, ∃ d, lookL en x = some d
  | [], _, _, x, hx => by cases hx
  | y :: xs, ds, l, x, hx => by
    simp only [looksL] at l
    cases h1 : lookL en y with
    | none => simp only [h1] at l; cases l
    | some d =>
      cases h2 : looksL en xs with
      | none => simp only [h1, h2] at l; cases l
      | some ds' =>
        rcases List.mem_cons.mp hx with rfl | hx
        · exact ⟨d, h1⟩
        · exact looks_mem h2 x hx
theorem lent_lst {kk : Kx} {sg : L2.St} {H Z : Hp} {en : En} (r : Rel kk sg H Z en) {xs : List Od} {ds : List PyData} (l : looksL en xs = some ds) {b : Addr} (hb : Lent sg en xs b) : ∃ ls, H b = some (.lst ls) ∧ Z b = none ∧ b ∉ kk.T := by
  obtain ⟨i, hx, s, hs, ho, hg⟩ := id hb
  obtain ⟨o, h1, h2⟩ := mine_there r (lent_mine hb)
  obtain ⟨d, hd⟩ := looks_mem l _ hx
  simp only [lookL, hs] at hd
  obtain ⟨u, hu, hk⟩ := r.sl i s hs
  rw [hg] at hu
  cases hu
  have fin : ∀ ds, (∃ a, some (V.ref b) = some (V.ref a) ∧ Z a = none ∧ Own kk.K H Z a (.list ds)) → ∃ ls, H b = some (.lst ls) ∧ Z b = none ∧ b ∉ kk.T := fun ds ⟨a, e, hz, hw⟩ => by
    cases e
    cases hw with
    | lst g1 g2 => exact ⟨_, g1, hz, h2⟩
  cases s with
  | no => cases ho
  | sh y => cases ho
  | ow y =>
    cases y with
    | list ds => exact fin ds hk
    | _ => cases hd
  | io y =>
    cases y with
    | list ds => exact fin ds hk
    | _ => cases hd
theorem lentB_no {sg : L2.St} {en : En} {xs : List Od} (h : xs.any (lentB en) = false) (b : Addr) : ¬ Lent sg en xs b := fun ⟨i, hx, s, hs, ho, _⟩ => by
  rw [List.any_eq_false] at h
  have z := h _ hx
  simp [lentB, hs, ho] at z
theorem callO_post {sg : L2.St} {H : Hp} {Q : VK} {ms : M (List Od)} (h : tV ⟨X.K, T⟩ E (mcallO np F ms) sg H Q) :
    tOA ⟨X.K, T⟩ E ms sg H fun vs H1 => spF ⟨X.K, T⟩ np F (vs ++ []) H1 Q E0 := by
  obtain ⟨en, Z, r, q⟩ := h
  refine ⟨en, Z, r, post_mono (post_bnd r q) fun xs en1 H1 Z1 _ ⟨a1, q1⟩ vs hvs => ?_⟩
  show spF ⟨X.K, T⟩ np F (vs ++ []) H1 Q E0
  rw [List.append_nil]
  cases hl : looksL en1 xs with
  | none => simp only [hl] at q1; exact q1.elim
  | some ds =>
    simp only [hl] at q1
    by_cases hnp : ds.length = np
    · rw [if_pos hnp] at q1
      have rr := a1.rel
      have hd := lent_args rr (fun _ h => h) hvs hl
      generalize hZL : lendZ sg en1 xs H1 Z1 = ZL at hd
      have zl : ∀ b, ZL b = open Classical in if Lent sg en1 xs b then H1 b else Z1 b := fun b => by rw [← hZL]; rfl
      have zin : ∀ b, Lent sg en1 xs b → ∃ ls, H1 b = some (.lst ls) ∧ Z1 b = none ∧ b ∉ T := fun b hb => lent_lst rr hl hb
      have r2 : Rel ⟨X.K, T⟩ (vs.map some) H1 ZL (ds.map .sh) := rel_sh (kk := ⟨X.K, T⟩) (sg := []) (en := []) ⟨fun b o hb => by
          rw [zl] at hb
          split at hb
          · exact hb
          · exact rr.sub b o hb, fun i s hi => by simp at hi, fun i j s t b h1 => by simp at h1, fun P hP => ⟨(rr.tab P hP).1, by
            rw [zl]
            split
            · rename_i hb
              obtain ⟨_, _, _, g⟩ := zin P hb
              exact absurd hP g
            · exact (rr.tab P hP).2⟩⟩ hd
      refine ⟨(dpa_length hd).trans hnp, ds.map .sh, ZL, by rw [List.length_map]; exact hnp, all_sh ds, r2, ?_⟩
      cases hF : F (ds.map .sh) with
      | bad => simp only [hF] at q1; exact q1.elim
      | err c en2 => simp only [hF] at q1; exact q1.elim
      | ok y en2 =>
        simp only [hF] at q1
        intro v H' Z' a hv
        have nm : ∀ b, ¬ Mine (vs.map some) (ds.map Sl.sh) b := fun b => mine_sh
        unfold lendR at q1
        cases hb : xs.any (lentB en1) with
        | false =>
          rw [hb, if_neg Bool.false_ne_true] at q1
          have e : ZL = Z1 := funext fun b => by rw [zl, if_neg (lentB_no hb b)]
          subst e
          have a2 := aft_call rr nm a
          refine q1 H' Z' a2 v ?_
          cases y with
          | sh d => exact hv
          | ow d =>
            obtain ⟨b, h1, h2, h3, h4, h5⟩ := hv
            have hb : H1 b = none := h5.resolve_right mine_sh
            refine ⟨b, h1, h2, h3, fun m => ?_, free_back a1 hb⟩
            obtain ⟨o, ho, _⟩ := mine_there rr m
            rw [hb] at ho; cases ho
        | true =>
          rw [hb, if_pos rfl] at q1
          cases y with
          | ow d => exact q1.elim
          | sh d =>
            dsimp only at q1
            by_cases hf : flatT d = true
            · rw [if_pos hf] at q1
              obtain ⟨Z2, hZ2⟩ : ∃ Z2 : Hp, ∀ b, Z2 b = open Classical in if Lent sg en1 xs b then none else Z' b := ⟨_, fun _ => rfl⟩
              have z12 : ∀ b o, Z1 b = some o → Z2 b = some o := fun b o h => by
                have nl : ¬ Lent sg en1 xs b := fun q => by
                  obtain ⟨ls, _, g, _⟩ := zin b q
                  rw [g] at h; cases h
                rw [hZ2, if_neg nl]
                exact a.zz b o (by rw [zl, if_neg nl]; exact h)
              have own : ∀ b, Mine sg en1 b → Z2 b = none ∧ ∀ o, H1 b = some o → H' b = some o := fun b m => by
                obtain ⟨o, h1, h2⟩ := mine_there rr m
                obtain ⟨hz, _⟩ := rr.mine m
                refine ⟨?_, fun o' q => a.keep b o' q (nm b) h2⟩
                rw [hZ2]
                split
                · rfl
                · rename_i nl
                  cases q : Z' b with
                  | none => rfl
                  | some u =>
                    rcases a.new b u q with z | z | z
                    · rw [zl, if_neg nl, hz] at z; cases z
                    · rw [h1] at z; cases z
                    · exact (nm b z).elim
              have a2 : Aft ⟨X.K, T⟩ sg H1 Z1 en1 sg H' Z2 en1 := by
                refine ⟨⟨fun b o h => ?_, fun i s h => ?_, rr.dis, fun P hP => ⟨(a.rel.tab P hP).1, ?_⟩⟩, z12, fun b o h => ?_, fun b o h m t => a.keep b o h (nm b) t, fun b h => .inl h, fun i d h => ⟨⟨d, h⟩, rfl⟩⟩
                · rw [hZ2] at h
                  split at h
                  · cases h
                  · exact a.rel.sub b o h
                · obtain ⟨u, hu, q⟩ := rr.sl i s h
                  refine ⟨u, hu, ?_⟩
                  cases s with
                  | no => trivial
                  | sh d => obtain ⟨y, e, q⟩ := q; exact ⟨y, e, dp_mono z12 q⟩
                  | ow d =>
                    obtain ⟨b, e, h1, h2⟩ := q
                    obtain ⟨g1, g2⟩ := own b ⟨i, _, h, rfl, by rw [hu, e]⟩
                    exact ⟨b, e, g1, h2.mono g2 z12⟩
                  | io d =>
                    obtain ⟨b, e, h1, h2⟩ := q
                    obtain ⟨g1, g2⟩ := own b ⟨i, _, h, rfl, by rw [hu, e]⟩
                    exact ⟨b, e, g1, h2.mono g2 z12⟩
                · rw [hZ2]
                  split
                  · rfl
                  · exact (a.rel.tab P hP).2
                · rw [hZ2] at h
                  split at h
                  · cases h
                  · rename_i nl
                    rcases a.new b o h with q | q | q
                    · rw [zl, if_neg nl] at q; exact .inl q
                    · exact .inr (.inl q)
                    · exact (nm b q).elim
              refine q1 H' Z2 a2 v ?_
              have hv' : Dp X.K Z' v d := hv
              refine dp_flat (B := Lent sg en1 xs) (fun b ws hL => ?_) (fun b o h nl => by rw [hZ2, if_neg nl]; exact h) hv' hf
              obtain ⟨ls, g1, _⟩ := zin b hL
              have g2 : Z' b = some (.lst ls) := a.zz b _ (by rw [zl, if_pos hL]; exact g1)
              rw [g2]
              exact ⟨(fun e => nomatch e), (fun o e => nomatch e)⟩
            · rw [if_neg hf] at q1; exact q1.elim
    · rw [if_neg hnp] at q1; exact q1.elim
theorem ge_callHO {j : Nat} {ms : M (List Od)} (G : Has X.prog X.w X.K X.mg X.base T x k ps np F) (hr : Room j X.A) (hk : k ≤ j) (hg : Gl X x)
    (ha : GOA T E X (e :: es) ms) (hdb : (x == ("__debug__" : Str)) = false := by decide) (he : starEach (e :: es) X.env = (false, eval e X.env) :: starEach es X.env := by rfl) (hpl : (backTo pos (starEach es X.env)).any (·.1) = false := by rfl) :
    GE T E X (.Call (.Name x p) (e :: es) [] pos) (mcallO np F ms) := by
  obtain ⟨fd, h1, h2, h3, h4⟩ := G
  exact pe_imp (pe_call h4 (hr.mono hk) hg h1 h2 h3 .nil pass0 ha hdb he hpl) fun sg H Q h => callO_post h
end
end ZD

namespace ZD
open PySem PySem.Spec PyProof.Rows L2 GxR ZG
/-! a tuple once, or not at all -/
theorem tuple_mul1 (l : Addr) (items : Array Value) (n : Nat) (dd : Option Addr) (sl : Array (Option Value)) (x : Int) (u : Tok) (c0 : (decide (x < -(2 ^ 63)) || decide (x ≥ 2 ^ 63)) = false) (c1 : (items.isEmpty || x == 1) = true) :
    Meets (Builtin.«tuple.__mul__» ⟨[.ref l, .int x u], []⟩) (fun _ R s => s.heap.get? l = some { cls := .type "tuple", dict := dd, data := .seq items n, slots := sl } ∧
      R (.ok (.ret (Value.ref l))) s) :=
  .of_wp fun prog w A R s h => by
    obtain ⟨hp, g, d, tk, os⟩ := s
    obtain ⟨hl, h⟩ := h
    have f1 := AutoSeq1.idx_int
    wp_walk using wpAny_loadPart' hl
    repeat (first
      | (refine wpAny_ite_false (decide_eq_false (by rw [c0]; exact Bool.false_ne_true)) ?_; wp_walk using wpAny_loadPart' hl)
      | (refine wpAny_ite_true (decide_eq_true c1) ?_; wp_walk using wpAny_loadPart' hl))
    exact ⟨_, rfl, h⟩
theorem tuple_mul0 (l : Addr) (items : Array Value) (n : Nat) (dd : Option Addr) (sl : Array (Option Value)) (x : Int) (u : Tok) (c0 : (decide (x < -(2 ^ 63)) || decide (x ≥ 2 ^ 63)) = false) (c1 : (items.isEmpty || x == 1) = false) (c2 : (decide (x ≤ 0) || items.isEmpty) = true) :
    Meets (Builtin.«tuple.__mul__» ⟨[.ref l, .int x u], []⟩) (fun _ R s => s.heap.get? l = some { cls := .type "tuple", dict := dd, data := .seq items n, slots := sl } ∧
      R (.ok (.ret (Value.ref s.heap.objs.size))) { s with heap := s.heap.push { cls := Value.type "tuple", data := Data.seq #[] }, toks := s.toks }) :=
  .of_wp fun prog w A R s h => by
    obtain ⟨hp, g, d, tk, os⟩ := s
    obtain ⟨hl, h⟩ := h
    have f1 := AutoSeq1.idx_int
    wp_walk using wpAny_loadPart' hl
    repeat (first
      | (refine wpAny_ite_false (decide_eq_false (by rw [c0]; exact Bool.false_ne_true)) ?_; wp_walk using wpAny_loadPart' hl)
      | (refine wpAny_ite_false (decide_eq_false (by rw [c1]; exact Bool.false_ne_true)) ?_; wp_walk using wpAny_loadPart' hl)
      | (refine wpAny_ite_true (decide_eq_true c2) ?_; wp_walk using wpAny_loadPart' hl))
    exact ⟨_, rfl, h⟩
def rRepT1 (K : PySem.W.Frag) : R2 := fun x y H Q => ∃ l k xs, x = .ref l ∧ y = .int k ∧ SqT K H l xs ∧ (xs = [] ∨ k = 1) ∧ -1000 ≤ k ∧ k ≤ 1000 ∧ Q (.ref l) H
def rRepT0 (K : PySem.W.Frag) : R2 := fun x y H Q => ∃ l k xs, x = .ref l ∧ y = .int k ∧ SqT K H l xs ∧ xs ≠ [] ∧ -1000 ≤ k ∧ k ≤ 0 ∧ ∀ p, H p = none → Q (.ref p) (upd H p (.tup []))
section
variable {X : Cx}
theorem op_repT1 : OpR X (binaryOp .Mult) (rRepT1 X.K) := by
  intro pins s σ H x y v u Q I rx ry h
  obtain ⟨l, k, xs, rfl, rfl, hT, hne, h1, h2, q⟩ := h
  cases rx
  obtain ⟨t, rfl⟩ := ry
  obtain ⟨its, r, ⟨⟨cls, dd, data, sl⟩, ho, hc, n, hd⟩, hs⟩ := I.tuple hT
  simp only at hc hd
  subst hc hd
  have c0 : (decide (k < -(2 ^ 63)) || decide (k ≥ 2 ^ 63)) = false := by
    rw [decide_eq_false (by omega), decide_eq_false (by omega)] <;> rfl
  have c1 : (its.toArray.isEmpty || k == 1) = true := by
    rcases hne with e | e
    · have hle : its.length = xs.length := r.length.symm
      rw [e] at hle
      rw [List.eq_nil_of_length_eq_zero hle]; rfl
    · rw [e]; simp
  refine wpAny_binaryOp_repeat_ref (T := "tuple") (U := "int") (by decide) ⟨_, ho, rfl⟩ (fun s' => typeIs_int s' k t) noFill_tuple_mul F.fills_int_mul F.slot_int_rmul repeat_tuple F.slot_int_index.lookup
    (call_meets F.slot_int_rmul (typeIs_int s k t) F.entry_int_rmul (F.args_int_rmul_2 _ _) (int_rmul_tuple k t l its.toArray n dd sl)
      ⟨ho, rfl, ⟨_, ho, rfl⟩, call_meets F.slot_tuple_mul ⟨_, ho, rfl⟩ F.entry_tuple_mul (F.args_tuple_mul_2 _ _) (tuple_mul1 l its.toArray n dd sl k t c0 c1) ⟨ho, ?_⟩⟩)
  exact ⟨.ref l, H, I, rfl, q⟩
theorem op_repT0 : OpR X (binaryOp .Mult) (rRepT0 X.K) := by
  intro pins s σ H x y v u Q I rx ry h
  obtain ⟨l, k, xs, rfl, rfl, hT, hne, h1, h2, q⟩ := h
  cases rx
  obtain ⟨t, rfl⟩ := ry
  obtain ⟨its, r, ⟨⟨cls, dd, data, sl⟩, ho, hc, n, hd⟩, hs⟩ := I.tuple hT
  simp only at hc hd
  subst hc hd
  have hle : its.length = xs.length := r.length.symm
  have hn : its ≠ [] := fun e => hne (by
    rw [e] at hle
    exact List.eq_nil_of_length_eq_zero hle.symm)
  have hi : its.toArray.isEmpty = false := by
    cases its with
    | nil => exact absurd rfl hn
    | cons a b => rfl
  have c0 : (decide (k < -(2 ^ 63)) || decide (k ≥ 2 ^ 63)) = false := by
    rw [decide_eq_false (by omega), decide_eq_false (by omega)] <;> rfl
  have c1 : (its.toArray.isEmpty || k == 1) = false := by
    rw [hi, Bool.false_or]
    exact beq_eq_false_iff_ne.mpr (by omega)
  have c2 : (decide (k ≤ 0) || its.toArray.isEmpty) = true := by rw [decide_eq_true h2]; rfl
  refine wpAny_binaryOp_repeat_ref (T := "tuple") (U := "int") (by decide) ⟨_, ho, rfl⟩ (fun s' => typeIs_int s' k t) noFill_tuple_mul F.fills_int_mul F.slot_int_rmul repeat_tuple F.slot_int_index.lookup
    (call_meets F.slot_int_rmul (typeIs_int s k t) F.entry_int_rmul (F.args_int_rmul_2 _ _) (int_rmul_tuple k t l its.toArray n dd sl)
      ⟨ho, rfl, ⟨_, ho, rfl⟩, call_meets F.slot_tuple_mul ⟨_, ho, rfl⟩ F.entry_tuple_mul (F.args_tuple_mul_2 _ _) (tuple_mul0 l its.toArray n dd sl k t c0 c1 c2) ⟨ho, ?_⟩⟩)
  refine ⟨.ref s.heap.objs.size, _, I.laid (t' := s.toks) (o := .tup []) (fun b ob q => Heap.get?_push_of_some _ q) (Nat.le_refl _) ?_, rfl, q _ (I.hok.fresh (Nat.le_refl _))⟩
  exact ⟨by rw [sizeLine_eq]; decide, _, .nil, IsTup.new _ _⟩
end
def oMulU : PyData → PyData → Out
  | .tuple ds, .int n => if (decide (-1000 ≤ n) && decide (n ≤ 1000) && decide (ds.length ≤ 1000)) = true then (if (ds.isEmpty || n == 1) = true then .d (.tuple ds) else .nt (List.replicate n.toNat ds).flatten) else .bad
  | d, e => oMulX d e
section
variable {T : List Addr} {E : Wish} {X : Cx} {a b : Expr} {pos : Pos} {p q : M Od}
theorem says_mulU : Says2 X.K oMulU fun x y H Q => rI CMulX (fun i j => .int (i * j)) x y H Q ∨ (rRepT1 X.K x y H Q ∨ (rRepT0 X.K x y H Q ∨ rRepT X.K x y H Q)) := by
  intro H Z v w d e Q hz hv hw ho
  by_cases ht : ∃ ds n, d = .tuple ds ∧ e = .int n
  · obtain ⟨ds, n, rfl, rfl⟩ := ht
    obtain ⟨l, xs, rfl, h1, h2⟩ := hv.tup hz
    cases hw.int
    simp only [oMulU] at ho
    have hl := dpa_length h2
    by_cases hc : (decide (-1000 ≤ n) && decide (n ≤ 1000) && decide (ds.length ≤ 1000)) = true
    · rw [if_pos hc] at ho
      simp only [Bool.and_eq_true, decide_eq_true_eq] at hc
      by_cases h3 : (ds.isEmpty || n == 1) = true
      · rw [if_pos h3] at ho
        have hd : Dp X.K Z (.ref l) (.tuple ds) := by
          rcases hv with hv | ⟨_, _, hv⟩
          · exact hv
          · cases hv
        refine .inr (.inl ⟨l, n, xs, rfl, rfl, h1, ?_, hc.1.1, hc.1.2, ho _ hd⟩)
        simp only [Bool.or_eq_true, List.isEmpty_iff, beq_iff_eq] at h3
        rcases h3 with e | e
        · rw [e] at hl; exact .inl (List.eq_nil_of_length_eq_zero hl)
        · exact .inr e
      · rw [if_neg h3] at ho
        have h3' : ds.isEmpty = false ∧ ¬ n = 1 := by simpa using h3
        have hne : xs ≠ [] := fun e => by
          rw [e] at hl
          have : ds = [] := List.eq_nil_of_length_eq_zero (by simpa using hl.symm)
          rw [this] at h3'
          cases h3'.1
        by_cases h4 : n ≤ 0
        · refine .inr (.inr (.inl ⟨l, n, xs, rfl, rfl, h1, hne, hc.1.1, h4, fun y hy => ?_⟩))
          have e : n.toNat = 0 := by omega
          have ho2 := ho.2
          rw [e] at ho2
          exact ho2 y _ hy .nil
        · exact .inr (.inr (.inr ⟨l, n, xs, rfl, rfl, h1, hne, by omega, hc.1.2, by omega, fun y hy => ho.2 y _ hy (dpa_rep h2 _)⟩))
    · rw [if_neg hc] at ho; exact ho.elim
  · have e0 : oMulU d e = oMulX d e := by
      unfold oMulU
      split
      · rename_i ds n
        exact absurd ⟨ds, n, rfl, rfl⟩ ht
      · rfl
    rw [e0] at ho
    exact .inl (says_int (X := X) (fun i j h => mulX_of (of_decide_eq_true h)) H Z v w d e Q hz hv hw ho)
theorem ge_mulU (ha : GO T E X a p) (hb : GO T E X b q) : GE T E X (.BinOp a .Mult b pos) (op2 oMulU p q) := ge_op2 ha hb (fun _ _ h1 h2 => pe_op (op_mulX.or (op_repT1.or (op_repT0.or op_repT))) h1 h2) says_mulU
end
end ZD

namespace ZD
open PySem PySem.Spec PyProof.Rows L2 GxR ZG
/-! a, b = e1, e2 -/
def mpar (i j : Nat) (ms : M (List PyData)) : M Fl := bnd ms fun ds => match ds with
  | [d, e] => bnd (masg i (.sh d)) fun _ => masg j (.sh e)
  | _ => ZD.fail
section
variable {T : List Addr} {E : Wish} {X : Cx} {a b : Expr} {pos px py pt pt2 : Pos} {kt k2 : Nat} {i j : Nat} {x y : Str} {ms : M (List PyData)}
theorem gs_par (hc : X.calm = true) (hN : X.N.Nodup) (hi : X.N[i]? = some x) (hj : X.N[j]? = some y) (hij : i ≠ j)
    (hx : X.env.scope.names.lookup x = some .local) (hy : X.env.scope.names.lookup y = some .local) (ha : GA T E X [a, b] ms)
    (hw : swappedStores [.Tuple [.Name x px, .Name y py] kt pt] (.Tuple [a, b] k2 pt2) X.env = pure (some [x, y]) := by rfl)
    (hs : swapsWithSole [.Tuple [.Name x px, .Name y py] kt pt] (.Tuple [a, b] k2 pt2) pos.line X.env = pure false := by rfl) :
    GS T E X (.Assign [.Tuple [.Name x px, .Name y py] kt pt] (.Tuple [a, b] k2 pt2) pos) (mpar i j ms) :=
  ps_imp (ps_par hc hN hi hj hij hx hy ha hw hs) fun D sg H ⟨en, Z, r, q⟩ => ⟨en, Z, r, post_mono (posts_post (posts_bnd r q)) fun ds en1 H1 Z1 _ ⟨a1, q1⟩ vs hvs => by
    match ds, hvs, q1 with
    | [d, e], .cons h1 (.cons h2 .nil), q1 =>
      refine ⟨_, _, rfl, ?_⟩
      obtain ⟨a2, q2⟩ := masg_ok (x := .sh d) (Aft.refl a1.rel) h1 (posts_bnd a1.rel q1)
      exact masg_ok (x := .sh e) (Aft.refl a2.rel) h2 q2
    | [], _, q1 => exact q1.elim
    | [_], _, q1 => exact q1.elim
    | _ :: _ :: _ :: _, _, q1 => exact q1.elim⟩
end
end ZD

namespace ZD
open PySem PySem.Spec PyProof.Rows L2 GxR ZG
/-! ### x.extend(e): any list or tuple -/
theorem list_extendW (l : Addr) (items : Array Value) (n : Nat) (b : Addr) (items2 : Array Value) (n2 : Nat) (dd2 : Option Addr) (sl2 : Array (Option Value)) (hc0 : ¬(!items.isEmpty && Builtin.List.listTooLong (items.size + items2.size)) = true) (hc1 : items.size ≤ sizeLine) (hs2 : items.size + items2.size ≤ sizeLine + 1) :
    Meets (Builtin.«list.extend» ⟨[.ref l, .ref b], []⟩) (fun _ R s => s.heap.get? l = some { cls := .type "list", dict := none, data := .seq items n, slots := #[] } ∧ s.heap.get? b = some { cls := .type "list", dict := dd2, data := .seq items2 n2, slots := sl2 } ∧ R (.ok (.ret Value.none)) { s with heap := s.heap.update l (Obj.mapSeq fun x => x ++ items2), toks := s.toks }) :=
  .of_wp fun prog w A R s h => by
    obtain ⟨hp, g, d, tk, os⟩ := s; obtain ⟨hl, hb, h⟩ := h; have f1 := AutoSeq1.idx_int; have f2 := AutoSeq1.sub_tuple_tuple; have f3 := AutoSeq1.sub_list_list; have f4 := AutoSeq1.sub_tuple_list; have f5 := AutoSeq1.sub_list_tuple;
    have hz' : (items ++ items2).size ≤ sizeLine + 1 := by rw [Array.size_append]; exact hs2
    wp_walk using (wpAny_updateSeq hl rfl (hz := hc1) (_hz' := hz')), wpAny_loadPart' hl, wpAny_loadPart' hb; exact ⟨_, rfl, h⟩
theorem list_extendV (l : Addr) (items : Array Value) (n : Nat) (b : Addr) (items2 : Array Value) (n2 : Nat) (dd2 : Option Addr) (sl2 : Array (Option Value)) (hc0 : ¬(!items.isEmpty && Builtin.List.listTooLong (items.size + items2.size)) = true) (hc1 : items.size ≤ sizeLine) (hs2 : items.size + items2.size ≤ sizeLine + 1) :
    Meets (Builtin.«list.extend» ⟨[.ref l, .ref b], []⟩) (fun _ R s => s.heap.get? l = some { cls := .type "list", dict := none, data := .seq items n, slots := #[] } ∧ s.heap.get? b = some { cls := .type "tuple", dict := dd2, data := .seq items2 n2, slots := sl2 } ∧ R (.ok (.ret Value.none)) { s with heap := s.heap.update l (Obj.mapSeq fun x => x ++ items2), toks := s.toks }) :=
  .of_wp fun prog w A R s h => by
    obtain ⟨hp, g, d, tk, os⟩ := s; obtain ⟨hl, hb, h⟩ := h; have f1 := AutoSeq1.idx_int; have f2 := AutoSeq1.sub_tuple_tuple; have f3 := AutoSeq1.sub_list_list; have f4 := AutoSeq1.sub_tuple_list; have f5 := AutoSeq1.sub_list_tuple;
    have hz' : (items ++ items2).size ≤ sizeLine + 1 := by rw [Array.size_append]; exact hs2
    wp_walk using (wpAny_updateSeq hl rfl (hz := hc1) (_hz' := hz')), wpAny_loadPart' hl, wpAny_loadPart' hb; exact ⟨_, rfl, h⟩
def rExtW (K : PySem.W.Frag) : V → List V → Hp → VK → Prop := fun x vs H Q => ∃ l b xs zs, x = .ref l ∧ vs = [.ref b] ∧ H l = some (.lst xs) ∧ (SqL K H b zs ∨ SqT K H b zs) ∧ xs.length + zs.length ≤ sizeLine ∧ Q .non (upd H l (.lst (xs ++ zs)))
section
variable {X : Cx}
theorem mt_extW : MtM X "list.extend" (rExtW X.K) := by
  intro pins s σ H x vs v us Q I rx rv h
  obtain ⟨l, b, xs, zs, rfl, rfl, hH, hB, hz, q⟩ := h
  cases rx
  obtain ⟨u, rfl, ru⟩ := rv.one
  cases ru
  obtain ⟨z, its, n, r, hl, e⟩ := I.lstM hH
  rcases hB with hB | hB
  · obtain ⟨its2, r2, ⟨⟨cls2, dd2, data2, sl2⟩, n2, ho2, hc2, hd02, hd2⟩, z2⟩ := I.list hB
    simp only at hc2 hd2
    subst hc2 hd2
    have hl2 := r2.length
    have hsz : its.toArray.size + its2.toArray.size ≤ sizeLine := by rw [List.size_toArray, List.size_toArray]; omega
    have hlong : ¬ (!its.toArray.isEmpty && Builtin.List.listTooLong (its.toArray.size + its2.toArray.size)) = true := by
      rw [notLongL hsz, Bool.and_false]
      exact Bool.false_ne_true
    refine call_meets F.slot_list_extend ⟨_, e, rfl⟩ F.entry_list_extend (F.args_list_extend_2 _ _)
      (list_extendW l its.toArray n b its2.toArray n2 dd2 sl2 hlong (by rw [List.size_toArray]; omega) (by omega)) ⟨e, ho2, ?_⟩
    refine ⟨.non, _, I.lset (its' := its ++ its2) hH e (by simp) (r.append r2) ?_, rfl, q⟩
    rw [List.length_append]
    omega
  · obtain ⟨its2, r2, ⟨⟨cls2, dd2, data2, sl2⟩, ho2, hc2, n2, hd2⟩, z2⟩ := I.tuple hB
    simp only at hc2 hd2
    subst hc2 hd2
    have hl2 := r2.length
    have hsz : its.toArray.size + its2.toArray.size ≤ sizeLine := by rw [List.size_toArray, List.size_toArray]; omega
    have hlong : ¬ (!its.toArray.isEmpty && Builtin.List.listTooLong (its.toArray.size + its2.toArray.size)) = true := by
      rw [notLongL hsz, Bool.and_false]
      exact Bool.false_ne_true
    refine call_meets F.slot_list_extend ⟨_, e, rfl⟩ F.entry_list_extend (F.args_list_extend_2 _ _)
      (list_extendV l its.toArray n b its2.toArray n2 dd2 sl2 hlong (by rw [List.size_toArray]; omega) (by omega)) ⟨e, ho2, ?_⟩
    refine ⟨.non, _, I.lset (its' := its ++ its2) hH e (by simp) (r.append r2) ?_, rfl, q⟩
    rw [List.length_append]
    omega
end
section
variable {T : List Addr} {E : Wish} {X : Cx} {a b c : Expr} {pos : Pos} {k : Nat} {i : Nat} {x : Str} {px : Pos}
def gExtW (y : PyData) : PyData → Option (PyData × PyData)
  | .list xs => match y with
    | .list ys => if xs.length + ys.length ≤ 1000000 then some (.list (xs ++ ys), .none) else none
    | .tuple ys => if xs.length + ys.length ≤ 1000000 then some (.list (xs ++ ys), .none) else none
    | _ => none
  | _ => none
def mext (i : Nat) (m : M PyData) : M PyData := chk isLs i (bnd m fun y => wr i (gExtW y))
theorem gd_extend {m : M PyData} {apos cpos : Pos} (hv : PE X (.Name x px) (tVar i)) (ha : GD T E X a m)
    (hbase : attributeBase (.Name x px) "extend" X.env (eval (.Name x px) X.env) = eval (.Name x px) X.env := by rfl)
    (hfew : ((backTo cpos (starEach [a] X.env)).all (fun x => !x.1) && (backToKw cpos (keywordEach [] X.env)).all (fun x => x.1.isSome)
      && decide (([a] : List Expr).length + ([] : List Keyword).length + (if ([] : List Keyword).isEmpty then 0 else 1) < 30)) = true := by rfl)
    (hline : (apos.endLine == cpos.line) = true := by rfl) (hs : starEach [a] X.env = (false, eval a X.env) :: starEach [] X.env := by rfl) (hplain : (backTo cpos (starEach [] X.env)).any (·.1) = false := by rfl) :
    GD T E X (.Call (.Attribute (.Name x px) "extend" apos) [a] [] cpos) (mext i m) :=
  pe_imp (pe_bm PySem.F.plainAttrs_list PySem.F.slot_list_extend PySem.F.type_list_extend (show MtR X "list.extend" (rExtW X.K) from mt_extW) hv (pa_cons ha pa_nil hs) hbase hfew hline hs hplain) fun sg H Q ⟨en, Z, r, q⟩ => by
    unfold mext chk at q
    by_cases hc : isLs en[i]? = true
    · rw [if_pos hc] at q
      obtain ⟨l, xs, h1, h2⟩ := is_ls r hc
      refine ⟨_, h1, .inl ⟨rfl, xs, .inl (.inl h2)⟩, en, Z, r, post_mono (post_bnd r q) fun y en1 H1 Z1 _ ⟨a1, q1⟩ v hv => ?_⟩
      obtain ⟨a, d, d', z, en', g1, g2, g3, g4⟩ := wr_ok a1.rel q1
      rw [h1] at g1
      cases g1
      have hm := million
      cases d with
      | list ds =>
        cases y with
        | list ys =>
          simp only [gExtW] at g3
          by_cases hl : ds.length + ys.length ≤ 1000000
          · rw [if_pos hl] at g3
            cases g3
            obtain ⟨b, zs, rfl, f1, f2⟩ := (Top.of_d (H := H1) hv).list a1.rel.sub
            cases g2 with
            | lst e1 e2 =>
              refine ⟨l, b, _, zs, rfl, rfl, e1, .inl f1, by rw [dpa_length e2, dpa_length f2]; omega, ?_⟩
              exact g4 _ (.lst upd_same (dpa_append e2 f2)) _ .non
          · rw [if_neg hl] at g3; cases g3
        | tuple ys =>
          simp only [gExtW] at g3
          by_cases hl : ds.length + ys.length ≤ 1000000
          · rw [if_pos hl] at g3
            cases g3
            obtain ⟨b, zs, rfl, f1, f2⟩ := (Top.of_d (H := H1) hv).tup a1.rel.sub
            cases g2 with
            | lst e1 e2 =>
              refine ⟨l, b, _, zs, rfl, rfl, e1, .inr f1, by rw [dpa_length e2, dpa_length f2]; omega, ?_⟩
              exact g4 _ (.lst upd_same (dpa_append e2 f2)) _ .non
          · rw [if_neg hl] at g3; cases g3
        | _ => cases g3
      | _ => cases y <;> cases g3
    · rw [if_neg hc] at q; exact False.elim q
end
/-! ### list * int, text * int -/
theorem int_rmul_listW (a : Int) (t : Tok) (l : Addr) (items : Array Value) (n : Nat) (dd : Option Addr) (sl : Array (Option Value)) :
    Meets (Builtin.«int.__rmul__» ⟨[.int a t, .ref l], []⟩) (fun _ R s => s.heap.get? l = some { cls := .type "list", dict := dd, data := .seq items n, slots := sl } ∧ R (.ok (.ret Value.notImplemented)) s) :=
  .of_wp fun prog w A R s h => by obtain ⟨hp, g, d, tk, os⟩ := s; obtain ⟨hl, h⟩ := h; wp_walk using wpAny_loadPart' hl; exact ⟨_, rfl, h⟩
theorem list_mulW (l : Addr) (items : Array Value) (n : Nat) (dd : Option Addr) (sl : Array (Option Value)) (x : Int) (u : Tok) (hc0 : ¬(!Builtin.List.listFitsIndex x) = true) (hc1 : ¬items.size * x.toNat > (2 ^ 63 - 1) / 8) (hc2 : ¬Builtin.List.listTooLong (items.size * x.toNat) = true) :
    Meets (Builtin.«list.__mul__» ⟨[.ref l, .int x u], []⟩) (fun _ R s => s.heap.get? l = some { cls := .type "list", dict := dd, data := .seq items n, slots := sl } ∧ R (.ok (.ret (Value.ref s.heap.objs.size))) { s with heap := s.heap.push { cls := Value.type "list", data := Data.seq (List.foldl (fun x1 x2 => x1 ++ x2) #[] (List.replicate (if items.isEmpty = true then 0 else x.toNat) items)) }, toks := s.toks }) :=
  .of_wp fun prog w A R s h => by
    obtain ⟨hp, g, d, tk, os⟩ := s; obtain ⟨hl, h⟩ := h
    have hsz := AutoListH.joined_fits hc2
    wp_walk using wpAny_loadPart' hl; refine wpAny_ite_false (decide_eq_false (Nat.not_lt.mpr hsz)) ?_; wp_walk using wpAny_loadPart' hl; exact ⟨_, rfl, h⟩
def rRepL (K : PySem.W.Frag) : R2 := fun x y H Q => ∃ l k xs, x = .ref l ∧ y = .int k ∧ SqL K H l xs ∧ -1000 ≤ k ∧ k ≤ 1000 ∧ xs.length ≤ 1000 ∧ ∀ p, H p = none → Q (.ref p) (upd H p (.lst (List.replicate k.toNat xs).flatten))
section
variable {X : Cx}
theorem op_repL : OpR X (binaryOp .Mult) (rRepL X.K) := by
  intro pins s σ H x y v u Q I rx ry h
  obtain ⟨l, k, xs, rfl, rfl, hH, h1, h2, hz, q⟩ := h
  cases rx
  obtain ⟨t, rfl⟩ := ry
  obtain ⟨its, r, ⟨⟨cls, dd, data, sl⟩, n, ho, hc, hd0, hd⟩, z⟩ := I.list hH
  simp only at hc hd
  subst hc hd
  have hl := r.length
  have hmul : its.length * k.toNat ≤ 1000000 := by
    have : its.length * k.toNat ≤ 1000 * 1000 := Nat.mul_le_mul (by omega) (by omega)
    omega
  have hm := million
  have hlen : its.toArray.size * k.toNat ≤ sizeLine := by rw [List.size_toArray]; omega
  have hcap : ¬ its.toArray.size * k.toNat > (2 ^ 63 - 1) / 8 := by
    have : (sizeLine : Nat) ≤ (2 ^ 63 - 1) / 8 := by decide
    omega
  have hfit : ¬ (!Builtin.List.listFitsIndex k) = true := by
    rw [fitsIndex_both (by omega) (by omega)]
    exact Bool.false_ne_true
  have hlong : ¬ Builtin.List.listTooLong (its.toArray.size * k.toNat) = true := by
    rw [notLongL hlen]
    exact Bool.false_ne_true
  have hnew : List.foldl (fun x1 x2 => x1 ++ x2) #[] (List.replicate (if its.toArray.isEmpty = true then 0 else k.toNat) its.toArray) = (List.replicate k.toNat its).flatten.toArray := by
    have f0 : ∀ m : Nat, List.foldl (fun x1 x2 => x1 ++ x2) #[] (List.replicate m its.toArray) = (List.replicate m its).flatten.toArray := fun m => by
      have := foldl_rep its m []
      rw [List.nil_append] at this
      exact this
    rw [f0]
    cases its with
    | nil => simp
    | cons a r' => rw [if_neg (by simp)]
  refine wpAny_binaryOp_repeat_ref (T := "list") (U := "int") (by decide) ⟨_, ho, rfl⟩ (fun s' => typeIs_int s' k t) noFill_list_mul F.fills_int_mul F.slot_int_rmul repeat_list F.slot_int_index.lookup
    (call_meets F.slot_int_rmul (typeIs_int s k t) F.entry_int_rmul (F.args_int_rmul_2 _ _) (int_rmul_listW k t l its.toArray n dd sl)
      ⟨ho, rfl, ⟨_, ho, rfl⟩, call_meets F.slot_list_mul ⟨_, ho, rfl⟩ F.entry_list_mul (F.args_list_mul_2 _ _) (list_mulW l its.toArray n dd sl k t hfit hcap hlong) ⟨ho, ?_⟩⟩)
  rw [hnew]
  exact ⟨.ref _, _, I.lnew (t' := s.toks) (r.rep k.toNat) (by rw [PyProof.Rows.lm_len_rep_flat, Nat.mul_comm, hl]; omega), rfl, q _ I.fresh⟩
end
end ZD

namespace ZD
open PySem PySem.Spec PyProof.Rows L2 GxR ZG
/-! ### text * int -/
def strRep (z : Str) (n : Int) : Str := if n < 1 then Str.empty else if (n == 1 || z.length == 0) = true then z else ⟨(List.replicate n.toNat z.cps).foldl (· ++ ·) #[]⟩
theorem foldl_app_size (m : Nat) (xs : Array Nat) : ∀ acc : Array Nat, ((List.replicate m xs).foldl (· ++ ·) acc).size = acc.size + m * xs.size := by
  induction m with
  | zero => intro acc; simp
  | succ m ih => intro acc; rw [List.replicate_succ, List.foldl_cons, ih, Array.size_append, Nat.succ_mul]; omega
def rRepS : R2 := fun x y H Q => ∃ z k, x = .str z ∧ y = .int k ∧ -1000 ≤ k ∧ k ≤ 1000 ∧ z.length ≤ 1000 ∧ Q (.str (strRep z k)) H
section
variable {X : Cx}
theorem op_repS : OpR X (binaryOp .Mult) rRepS := by
  intro pins s σ H x y v u Q I rx ry h
  obtain ⟨z, k, rfl, rfl, h1, h2, hz, q⟩ := h
  obtain ⟨t, rfl⟩ := rx
  obtain ⟨t', rfl⟩ := ry
  have hm := million
  have hmul : z.length * k.toNat ≤ 1000000 := by
    have : z.length * k.toNat ≤ 1000 * 1000 := Nat.mul_le_mul (by omega) (by omega)
    omega
  refine PySem.P.mul_str ?_ ?_ ?_ ?_
  · rw [decide_eq_false (by omega), decide_eq_false (by omega)] <;> rfl
  · intro g1 g2 g3
    have h3 : (1000 : Int) ≤ (2 ^ 63 - 1) / k := by
      rw [Int.le_ediv_iff_mul_le (by omega)]
      omega
    omega
  · intro g1 g2
    show decide (_ > sizeLine) = false
    exact decide_eq_false (by omega)
  · unfold strRep at q
    by_cases c1 : k < 1
    · rw [if_pos c1] at q ⊢
      exact ⟨by show 0 ≤ sizeLine; omega, .str Str.empty, H, I.tok _, ⟨_, rfl⟩, q⟩
    · rw [if_neg c1] at q ⊢
      by_cases c2 : (k == 1 || z.length == 0) = true
      · rw [if_pos c2] at q ⊢
        exact ⟨.str z, H, I, ⟨_, rfl⟩, q⟩
      · rw [if_neg c2] at q ⊢
        refine ⟨?_, .str _, H, I.tok _, ⟨_, rfl⟩, q⟩
        show ((List.replicate k.toNat z.cps).foldl (· ++ ·) #[]).size ≤ sizeLine
        rw [foldl_app_size]
        have e : z.cps.size = z.length := rfl
        rw [e, Nat.mul_comm]
        simp only [List.size_toArray, List.length_nil]
        omega
end
def oMulV : PyData → PyData → Out
  | .list ds, .int n => if (decide (-1000 ≤ n) && decide (n ≤ 1000) && decide (ds.length ≤ 1000)) = true then .nl (List.replicate n.toNat ds).flatten else .bad
  | .str z, .int n => if (decide (-1000 ≤ n) && decide (n ≤ 1000) && decide (z.length ≤ 1000)) = true then .d (.str (strRep z n)) else .bad
  | d, e => oMulU d e
section
variable {T : List Addr} {E : Wish} {X : Cx} {a b : Expr} {pos : Pos} {p q : M Od} {k : Nat}
theorem says_mulV : Says2 X.K oMulV fun x y H Q => (rI CMulX (fun i j => .int (i * j)) x y H Q ∨ (rRepT1 X.K x y H Q ∨ (rRepT0 X.K x y H Q ∨ rRepT X.K x y H Q))) ∨ (rRepL X.K x y H Q ∨ rRepS x y H Q) := by
  intro H Z v w d e Q hz hv hw ho
  by_cases ht : ∃ ds n, d = .list ds ∧ e = .int n
  · obtain ⟨ds, n, rfl, rfl⟩ := ht
    obtain ⟨l, xs, rfl, h1, h2⟩ := hv.list hz
    cases hw.int
    simp only [oMulV] at ho
    have hl := dpa_length h2
    by_cases hc : (decide (-1000 ≤ n) && decide (n ≤ 1000) && decide (ds.length ≤ 1000)) = true
    · rw [if_pos hc] at ho
      simp only [Bool.and_eq_true, decide_eq_true_eq] at hc
      exact .inr (.inl ⟨l, n, xs, rfl, rfl, h1, hc.1.1, hc.1.2, by omega, fun y hy => ho y _ hy (dpa_rep h2 _)⟩)
    · rw [if_neg hc] at ho; exact ho.elim
  · by_cases hs : ∃ z n, d = .str z ∧ e = .int n
    · obtain ⟨z, n, rfl, rfl⟩ := hs
      cases hv.str
      cases hw.int
      simp only [oMulV] at ho
      by_cases hc : (decide (-1000 ≤ n) && decide (n ≤ 1000) && decide (z.length ≤ 1000)) = true
      · rw [if_pos hc] at ho
        simp only [Bool.and_eq_true, decide_eq_true_eq] at hc
        exact .inr (.inr ⟨z, n, rfl, rfl, hc.1.1, hc.1.2, hc.2, ho _ (.str _)⟩)
      · rw [if_neg hc] at ho; exact ho.elim
    · have e0 : oMulV d e = oMulU d e := by
        unfold oMulV
        split
        · rename_i ds n
          exact absurd ⟨ds, n, rfl, rfl⟩ ht
        · rename_i ds n
          exact absurd ⟨ds, n, rfl, rfl⟩ hs
        · rfl
      rw [e0] at ho
      exact .inl (says_mulU H Z v w d e Q hz hv hw ho)
theorem ge_mulV (ha : GO T E X a p) (hb : GO T E X b q) : GE T E X (.BinOp a .Mult b pos) (op2 oMulV p q) := ge_op2 ha hb (fun _ _ h1 h2 => pe_op ((op_mulX.or (op_repT1.or (op_repT0.or op_repT))).or (op_repL.or op_repS)) h1 h2) says_mulV
/-! ### in, things of any depth -/
def rInT (K : PySem.W.Frag) (n : Bool) : R2 := fun x y H Q => ∃ d ds, Dp K H x d ∧ (Dp K H y (.list ds) ∨ Dp K H y (.tuple ds)) ∧ SeqAt.shaped d = true ∧ PyData.canLayAll0 ds = true ∧ Q (.bl (xor n (ds.any fun z => PyData.eqv z d))) H
theorem op_inT (hu : X.A.units + 65 < cLine) : OpR X (compareOp .In) (rInT X.K false) := by
  intro pins s σ H x y v u Q I rx ry h
  obtain ⟨d, ds, hd, he, sd, se, q⟩ := h
  rw [Bool.false_xor] at q
  obtain ⟨as, r1⟩ := Dp.reads I d x v hd rx
  rcases he with he | he
  · obtain ⟨bs, r2⟩ := Dp.reads I (.list ds) y u he ry
    exact SeqAt.in_list_reads r2 r1 se (SeqAt.canLay_of_shaped sd) (room_in_shaped sd hu) ⟨.bl _, H, I, rfl, q⟩
  · obtain ⟨bs, r2⟩ := Dp.reads I (.tuple ds) y u he ry
    exact SeqAt.in_tuple_reads r2 r1 se (SeqAt.canLay_of_shaped sd) (room_in_shaped sd hu) ⟨.bl _, H, I, rfl, q⟩
theorem op_notInT (hu : X.A.units + 65 < cLine) : OpR X (compareOp .NotIn) (rInT X.K true) := by
  intro pins s σ H x y v u Q I rx ry h
  obtain ⟨d, ds, hd, he, sd, se, q⟩ := h
  rw [Bool.true_xor] at q
  obtain ⟨as, r1⟩ := Dp.reads I d x v hd rx
  rcases he with he | he
  · obtain ⟨bs, r2⟩ := Dp.reads I (.list ds) y u he ry
    exact SeqAt.notIn_list_reads r2 r1 se (SeqAt.canLay_of_shaped sd) (room_in_shaped sd hu) ⟨.bl _, H, I, rfl, q⟩
  · obtain ⟨bs, r2⟩ := Dp.reads I (.tuple ds) y u he ry
    exact SeqAt.notIn_tuple_reads r2 r1 se (SeqAt.canLay_of_shaped sd) (room_in_shaped sd hu) ⟨.bl _, H, I, rfl, q⟩
def inS (n : Bool) (d : PyData) (ds : List PyData) : Out := if (SeqAt.shaped d && PyData.canLayAll0 ds) = true then .d (.bool (xor n (ds.any fun y => PyData.eqv y d))) else .bad
def oInS (n : Bool) : PyData → PyData → Out
  | d, .list ds => inS n d ds
  | d, .tuple ds => inS n d ds
  | _, _ => .bad
theorem says_inS {n : Bool} : Says2 X.K (oInS n) (rInT X.K n) := by
  intro H Z v w d e Q hz hv hw ho
  have fin : ∀ ds, (Dp X.K H w (.list ds) ∨ Dp X.K H w (.tuple ds)) → OutOk X.K H Z Q (inS n d ds) → rInT X.K n v w H Q := fun ds hw' ho => by
    unfold inS at ho
    by_cases hc : (SeqAt.shaped d && PyData.canLayAll0 ds) = true
    · rw [if_pos hc] at ho
      rw [Bool.and_eq_true] at hc
      exact ⟨d, ds, hv.dp hz (shaped_nodict hc.1), hw', hc.1, hc.2, ho _ (.bl _)⟩
    · rw [if_neg hc] at ho; exact ho.elim
  cases e with
  | list ds => exact fin ds (.inl (hw.dp hz fun _ e => by cases e)) (by cases d <;> exact ho)
  | tuple ds => exact fin ds (.inr (hw.dp hz fun _ e => by cases e)) (by cases d <;> exact ho)
  | _ => cases d <;> exact False.elim ho
theorem c_inS (hr : Room k X.A) : CmpOk X .In (oInS false) := ⟨_, op_inT (by have := hr.un; omega), says_inS⟩
theorem c_notinS (hr : Room k X.A) : CmpOk X .NotIn (oInS true) := ⟨_, op_notInT (by have := hr.un; omega), says_inS⟩
/-! ### int(x) -/
def oIntB : PyData → Out
  | .int i => .d (.int i)
  | .bool b => .d (.int (if b then 1 else 0))
  | _ => .bad
theorem ge_intB {px : Pos} (hg : Gl X "int") (hm : X.mg "int" = none) (ha : GO T E X a p) (he : starEach [a] X.env = (false, eval a X.env) :: starEach [] X.env := by rfl) (hpl : (backTo pos (starEach [] X.env)).any (·.1) = false := by rfl) : GE T E X (.Call (.Name "int" px) [a] [] pos) (op1 oIntB p) :=
  ge_ct1 call_int1 boot_int (by
    intro H Z v d Q hz hv ho
    cases d with
    | int i =>
      cases hv.int
      exact .inl ⟨i, rfl, (show OutOk X.K H Z Q (.d (.int i)) from ho) _ (.int _)⟩
    | bool i =>
      cases hv.bool
      exact .inr ⟨i, rfl, (show OutOk X.K H Z Q (.d (.int (if i then 1 else 0))) from ho) _ (.int _)⟩
    | _ => exact False.elim ho) hg hm ha (by decide) (by decide) he hpl
end
end ZD

namespace ZK
open PySem PySem.Spec PyProof.Rows L2
section
variable {X : Cx}
/-- {elt for target in iter if ..}, elt a number or a text: D the new set -/
def tKc (P : Program) (w : World) (wi : TI) (g : TG) (tt : TT) (te : TE) (vs : List Nat) : TE := fun σ H Q => wi σ H fun J H1 => ∀ D, H1 D = none → ∃ W : Nat → Nat → Hp → Prop, (∃ m, W 0 m (upd H1 D (SetK P w D (fun _ => false) 0))) ∧ ∀ i m H, W i m H →
  (J.stop i H ∧ Q (.ref D) H) ∨ (J.go i H ∧ ∃ Nx : Hp → Prop, (∀ H', Nx H' → ∃ m', m' < m ∧ W (i + 1) m' H') ∧ ∀ x H', J.yld i H x H' → g x (wipe σ vs) H' fun σ2 H2 => wipe σ2 vs = wipe σ vs ∧ tt σ2 H2 fun b H3 =>
    if b = true then te σ2 H3 fun y H4 => ∃ (c : Key) (S : Key → Bool) (n : Nat), y = kV c ∧ H4 D = some (SetK P w D S n) ∧ n + 1 < scanBound ∧ Nx (upd H4 D (SetK P w D (fun j => S j || decide (j = c)) (if S c = true then n else n + 1))) else Nx H3)
theorem addK_ok {pins : List (Addr × Obj)} {σ : L2.St} {H : Hp} {s : Shared} {E : Value → Shared → Prop} {D : Addr} {S : Key → Bool} {n : Nat} {y : Key} {u : Value} {Q : Value → Shared → Prop} (I : Inv X pins σ H s) (ry : RelV (kV y) u) (hD : H D = some (SetK X.prog X.w D S n)) (room : n + 1 < scanBound)
    (h : ∀ s', Inv X pins σ (upd H D (SetK X.prog X.w D (fun j => S j || decide (j = y)) (if S y = true then n else n + 1))) s' → Q .none s') : wpAny (model X.prog X.w) X.A (call (.builtin "set.add") [.ref D, u]) Q E s := by
  refine call_set_add (kV_is ry) (key_scan ry) (setK_get I hD) room fun h' sb new => ?_
  have he : ∃ u, h'.get? D = some u := by
    have ⟨o, _, _, _, ho, _⟩ := new
    exact ⟨o, ho⟩
  exact h _ (I.write (e := D) (t' := s.toks + 1) (by rw [hD]; trivial) (.inl rfl) (fun b u hb hu => (sb.2 b hb).trans hu) he (setK_new new))
theorem kc_core {pins : List (Addr × Obj)} {s : Shared} {σ : L2.St} {H : Hp} {Q : VK} {elt tg iter : Expr} {ifs : List Expr} {scope : Scope} {own : List (Str × Nat)} {pos pos' : Pos} {wi : TI} {g : TG} {tt : TT} {te : TE} {use : Option (Value → Sem Unit)} {Qf : Value → Shared → Prop}
    (hc : X.calm = true) (hN : X.N.Nodup) (I : Inv X pins σ H s) (hi : PI X tg iter wi) (ok : BlkOk X.N X.env.scope scope own)
    (hg : ∀ (s : Shared) (H : Hp) (C : Addr) (cl : List (Str × Addr)) (fp : List Addr), PG (X.blk s H scope (compEnvC scope cl C X.env) fp) tg g) (ht : ∀ (s : Shared) (H : Hp) (C : Addr) (cl : List (Str × Addr)) (fp : List Addr), PTs (X.blk s H scope (compEnvC scope cl C X.env) fp) ifs tt)
    (he : ∀ (s : Shared) (H : Hp) (C : Addr) (cl : List (Str × Addr)) (fp : List Addr), PE (X.blk s H scope (compEnvC scope cl C X.env) fp) elt te) (hs : ∀ x, foldedSetIterable iter X.env x = pure x)
    (h : tKc X.prog X.w wi g tt te (own.map (·.2)) σ H Q)
    (hRR : ∀ D C s' m H', Inv X pins σ H' s' → Q (.ref D) H' → s'.heap.Ns C m → FpOk X pins H' C → compPost (model X.prog X.w) X.A X.xe use Qf (.ref D) C (.ok .next) s') :
    wpAny (model X.prog X.w) X.A (comprehension (.SetComp elt [⟨tg, iter, ifs, 0⟩] scope pos) scope X.env pos' (newSet (.type "set")) false (eval iter X.env) use) Qf X.xe s := by
  have hfree : ∀ y ∈ scope.names, y.2 = .free → ∃ c, X.env.cells.lookup y.1 = some c := fun y hy e => by
    rcases ok.free y hy e with k | k
    · exact I.ok.has _ (.inl k)
    · exact I.ok.has _ (.inr k)
  refine wpAny_comprehension_free (use := use) rfl hs (closure_ok hfree) ok.kind (fun y hy e => by rw [ok.uniq y hy, e])
    (thn (hi.run pins s σ H _ I h) fun xv s1 hx => thn hx fun itv s2 h2 => ?_)
  obtain ⟨it, fp, tn, J, H2, e, I2, T, st2, f2, q⟩ := h2
  subst e
  refine PpSet.newSet_ok (newEnv_comp ?_)
  generalize hD : s2.heap.objs.size = D
  have hDn : H2 D = none := I2.hok.fresh (Nat.le_of_eq hD)
  obtain ⟨W, ⟨m0, w0⟩, turn⟩ := q D hDn
  -- the new list
  generalize hs3 : ({ s2 with heap := s2.heap.push { cls := .type "set", dict := none, data := .set #[] 0 (.fresh 0 0 (!X.w.params.followText "set-order")) } } : Shared) = s3
  have I3 : Inv X pins σ (upd H2 D (SetK X.prog X.w D (fun _ => false) 0)) s3 := by
    rw [← hs3]
    refine I2.laid (t' := s2.toks) (fun b o e => Heap.get?_push_of_some _ e) (Nat.le_of_eq hD) ?_
    rw [← hD]
    exact setK_new ⟨_, #[], 0, _, Heap.get?_push_size _ rfl, ⟨rfl, rfl, rfl⟩, rfl, (fun e he => by simp at he), (fun k => by simp), (by decide), (by rfl), rfl⟩
  have h3 : s3.heap = s2.heap.push { cls := .type "set", dict := none, data := .set #[] 0 (.fresh 0 0 (!X.w.params.followText "set-order")) } := by rw [← hs3]
  have sz : ∀ b ∈ fp, b < s2.heap.objs.size := fun b hb => by
    obtain ⟨o, e, _⟩ := T.obj _ _ st2 b hb
    exact Heap.lt_size e
  have f3 : ∀ b ∈ fp, FpOk X pins (upd H2 D (SetK X.prog X.w D (fun _ => false) 0)) b ∧ b < s3.heap.objs.size := fun b hb => by
    have hlt := sz b hb
    refine ⟨⟨?_, (f2 b hb).2⟩, by rw [h3, Heap.size_push]; exact Nat.lt_succ_of_lt hlt⟩
    rw [upd_ne (by rw [← hD]; exact Nat.ne_of_lt hlt)]
    exact (f2 b hb).1
  have st3 : tn 0 s3.heap := T.keep _ _ _ st2 fun b _ o e => by rw [h3]; exact Heap.get?_push_of_some _ e
  have I4 := block_start I3 ok hN f3
  have pg := hg s3 (upd H2 D (SetK X.prog X.w D (fun _ => false) 0)) s3.heap.objs.size (cellsFrom (s3.heap.objs.size + 1) scope.names (cloFrom X.env.cells scope.names [])) fp
  have pt := ht s3 (upd H2 D (SetK X.prog X.w D (fun _ => false) 0)) s3.heap.objs.size (cellsFrom (s3.heap.objs.size + 1) scope.names (cloFrom X.env.cells scope.names [])) fp
  have pe := he s3 (upd H2 D (SetK X.prog X.w D (fun _ => false) 0)) s3.heap.objs.size (cellsFrom (s3.heap.objs.size + 1) scope.names (cloFrom X.env.cells scope.names [])) fp
  show codeAny _ _ (.compStart (.SetComp elt [⟨tg, iter, ifs, 0⟩] scope pos) 0 (.ref it) (.ref D) (compEnvC scope (cellsFrom (s3.heap.objs.size + 1) scope.names (cloFrom X.env.cells scope.names [])) s3.heap.objs.size X.env)) (compPost (model X.prog X.w) X.A X.xe use Qf (.ref D) s3.heap.objs.size) { s3 with heap := pushCells (s3.heap.push { cls := .type "dict", data := .dict #[] }) scope.names }
  have nfp : ∀ b ∈ fp, (upd H2 D (SetK X.prog X.w D (fun _ => false) 0)) b = none := fun b hb => (f3 b hb).1.1
  generalize hce : compEnvC scope (cellsFrom (s3.heap.objs.size + 1) scope.names (cloFrom X.env.cells scope.names [])) s3.heap.objs.size X.env = ce at I4 pg pt pe ⊢
  have cL : ce.locals = s3.heap.objs.size := by subst hce; rfl
  generalize hH3 : upd H2 D (SetK X.prog X.w D (fun _ => false) 0) = H3 at I3 I4 pg pt pe w0 nfp f3
  generalize hs4 : ({ s3 with heap := pushCells (s3.heap.push { cls := .type "dict", data := .dict #[] }) scope.names } : Shared) = s4 at I4 ⊢
  have st4 : tn 0 s4.heap := T.keep _ _ _ st3 fun b _ o e => by rw [← hs4]; exact pushCells_keeps _ _ _ _ (Heap.get?_push_of_some _ e)
  have stat : ∀ {σ' : L2.St} {H' : Hp} {s' : Shared}, Inv (X.blk s3 H3 scope ce fp) [] σ' H' s' → (∀ b ∈ fp, H' b = none) → ∀ b ∈ fp, FpOk (X.blk s3 H3 scope ce fp) [] H' b := fun {σ' H' s'} I' hn b hb =>
    ⟨hn b hb, (I'.ok.exf b hb).1, I'.ok.exfs b hb, .inl hb, fun x c e => (I'.ok.exf b hb).2 x c e, fun p hp => absurd (show p ∈ ([] : List (Addr × Obj)) ++ [] from hp) (by simp)⟩
  have loop : codeAny (model X.prog X.w) X.A (.compLoop (.SetComp elt [⟨tg, iter, ifs, 0⟩] scope pos) 0 (.ref it) (.ref D) ce) (compPost (model X.prog X.w) X.A X.xe use Qf (.ref D) s3.heap.objs.size) s4 := by
    refine PpSet.compLoopS_any (fun n s' => ∃ i H', Inv (X.blk s3 H3 scope ce fp) [] (wipe σ (own.map (·.2))) H' s' ∧ tn i s'.heap ∧ (∀ b ∈ fp, H' b = none) ∧ W i n H') ?_ m0 ⟨0, H3, I4, st4, nfp, w0⟩
    rintro n s5 ⟨i, H5, I5, st5, n5, w5⟩
    rcases turn i n H5 w5 with ⟨stop, qq⟩ | ⟨go, Nx, hNx, step⟩
    · have td := T.done (X.blk s3 H3 scope ce fp) rfl rfl rfl hc i [] s5 _ H5 (fun _ _ => False) I5 (stat I5 n5) st5 stop
      refine thnF td fun r s6 ⟨hr, I6⟩ => ?_
      subst hr
      -- back in the def's context
      have I7 : Inv X pins σ H5 s6 := I3.call' (ch := fp) I6.os I6.base I6.hok I6.bare fun b hb => ⟨(f3 b hb).1.2.2.2.1, (f3 b hb).1.2.1, (f3 b hb).1.2.2.2.2.1, (f3 b hb).1.2.2.2.2.2⟩
      have nC : H5 s3.heap.objs.size = none := by
        have z : H5 ce.locals = none := I6.free
        rw [cL] at z
        exact z
      obtain ⟨m, hn, _⟩ := I6.loc
      have hn : s6.heap.Ns ce.locals m := hn
      rw [cL] at hn
      exact hRR D s3.heap.objs.size s6 m H5 I7 qq hn (I3.fpOk (Nat.le_refl _) nC)
    · have ti := T.item (X.blk s3 H3 scope ce fp) rfl rfl rfl hc i [] s5 _ H5 (fun _ _ => False) I5 (stat I5 n5) st5 go
      refine thnF ti fun r s6 ⟨u, hr, h6⟩ => ?_
      subst hr
      refine thnF h6 fun _ s7 ⟨x, H7, I7, r7, y7, st7, n7⟩ => ?_
      have I7' := I7.pinned (stat I7 n7) (T.obj _ _ st7)
      refine thnF (pg.run _ s7 _ H7 x u _ I7' r7 (step x H7 y7)) fun _ s8 ⟨σ8, H8, I8, hw8, q8⟩ => ?_
      refine thnF (pt.run _ s8 σ8 H8 _ I8 q8) fun b s9 ⟨H9, I9, q9⟩ => ?_
      -- the turn's end
      have fin : ∀ {s' : Shared} {H' : Hp}, Inv (X.blk s3 H3 scope ce fp) ([] ++ pinsAt fp s7.heap) σ8 H' s' → Nx H' → ∃ m, m < n ∧ ∃ i H', Inv (X.blk s3 H3 scope ce fp) [] (wipe σ (own.map (·.2))) H' s' ∧ tn i s'.heap ∧ (∀ b ∈ fp, H' b = none) ∧ W i m H' := fun {s' H'} I' nx => by
        obtain ⟨m', hm, w'⟩ := hNx H' nx
        have pin' : ∀ b ∈ fp, ∀ o, s7.heap.get? b = some o → s'.heap.get? b = some o ∧ H' b = none := fun b hb o e =>
          let z := I'.pin (b, o) (List.mem_append_right _ (List.mem_append_right _ (mem_pinsAt hb e)))
          ⟨z.1, z.2.1⟩
        have hl : (wipe σ (own.map (·.2))).length = σ8.length := by rw [← hw8, wipe_length]
        refine ⟨m', hm, i + 1, H', (I'.unpinned (pins := [])).weak hl (fun j v e => ?_), T.keep _ _ _ st7 fun b hb o e => (pin' b hb o e).1, fun b hb => ?_, w'⟩
        · rw [← hw8] at e
          exact (wipe_some e).1
        · obtain ⟨o, e, _⟩ := T.obj _ _ st7 b hb
          exact (pin' b hb o e).2
      cases b with
      | false =>
        simp only [Bool.false_eq_true, if_false] at q9 ⊢
        exact fin I9 q9
      | true =>
        simp only [if_true] at q9 ⊢
        refine thnF (pe.run _ s9 σ8 H9 _ I9 q9) fun z s10 ⟨yv, H10, I10, r10, cb, S0, n0, ey, hD10, hz10, nx⟩ => ?_
        subst ey
        exact addK_ok (X := X.blk s3 H3 scope ce fp) I10 r10 hD10 hz10 fun s11 I11 => fin I11 nx
  exact PpSet.codeAny_compStart_set loop (T.self X.A 0 _ _ _ st4 loop)
/-- as a value -/
theorem pe_kc {elt tg iter : Expr} {ifs : List Expr} {scope : Scope} {own : List (Str × Nat)} {pos : Pos} {wi : TI} {g : TG} {tt : TT} {te : TE} (hc : X.calm = true) (hN : X.N.Nodup) (hi : PI X tg iter wi) (ok : BlkOk X.N X.env.scope scope own)
    (hg : ∀ (s : Shared) (H : Hp) (C : Addr) (cl : List (Str × Addr)) (fp : List Addr), PG (X.blk s H scope (compEnvC scope cl C X.env) fp) tg g) (ht : ∀ (s : Shared) (H : Hp) (C : Addr) (cl : List (Str × Addr)) (fp : List Addr), PTs (X.blk s H scope (compEnvC scope cl C X.env) fp) ifs tt)
    (he : ∀ (s : Shared) (H : Hp) (C : Addr) (cl : List (Str × Addr)) (fp : List Addr), PE (X.blk s H scope (compEnvC scope cl C X.env) fp) elt te) (hs : ∀ x, foldedSetIterable iter X.env x = pure x := by intro _; rfl) :
    PE X (.SetComp elt [⟨tg, iter, ifs, 0⟩] scope pos) (tKc X.prog X.w wi g tt te (own.map (·.2))) := by
  refine ⟨fun pins s σ H Q I h => ?_⟩
  rw [PpSet.eval_SetComp]
  refine kc_core hc hN I hi ok hg ht he hs h fun D C s' m H' I' q hn f => ⟨m, hn, fun h'' sb => ?_⟩
  obtain ⟨f0, f1, f2, f3, f4, f5⟩ := f
  exact ⟨.ref D, H', I'.turned (t' := s'.toks) (fun b o hb e => (sb.2 b hb).trans e) f0 f1 f3 f4 f5, rfl, q⟩
/-- len of such a set -/
def rLenK (P : Program) (w : World) : List V → Hp → VK → Prop := fun xs H Q => ∃ (a : Addr) (S : Key → Bool) (n : Nat), xs = [V.ref a] ∧ H a = some (SetK P w a S n) ∧ n ≤ 4000 ∧ Q (.int (n : Nat)) H
theorem cr_lenK : CallR X (.builtin "len") (rLenK X.prog X.w) := by
  intro pins s σ H xs us Q I r h
  obtain ⟨a, S, n, rfl, hH, hn, q⟩ := h
  cases r with
  | cons ry rt =>
    cases rt
    cases ry
    obtain ⟨o, es, ep, t, ho, hex, hd, _, _, _, hf, hn'⟩ := setK_get I hH
    exact call_len_set ho hex hd hf (by rw [hn'] <;> omega) ⟨.int n, H, I.tok _, ⟨_, by rw [hn']⟩, q⟩
end
end ZK

namespace ZD
open PySem PySem.Spec PyProof.Rows L2 GxR ZG ZK

/-! ### len of a set comprehension -/
instance decKey (c : Key) (ks : List Key) : Decidable (c ∈ ks) := decidable_of_iff (ks.any (fun j => decide (j = c)) = true) (by simp)
def keysOf : List PyData → Option (List Key)
  | [] => some []
  | y :: ys => match keyOfD y, keysOf ys with
    | some c, some cs => some (c :: cs)
    | _, _ => none
def addU (ks : List Key) (c : Key) : List Key := if c ∈ ks then ks else ks ++ [c]
def uniq (ks : List Key) : List Key := ks.foldl addU []
theorem uniq_snoc (ks : List Key) (c : Key) : uniq (ks ++ [c]) = addU (uniq ks) c := by unfold uniq; rw [List.foldl_append]; rfl
theorem mem_addU {ks : List Key} {c j : Key} : j ∈ addU ks c ↔ j ∈ ks ∨ j = c := by
  unfold addU
  by_cases h : c ∈ ks
  · rw [if_pos h]
    exact ⟨.inl, fun q => q.elim id fun e => e ▸ h⟩
  · rw [if_neg h, List.mem_append, List.mem_singleton]
theorem mem_foldU {j : Key} : ∀ (ks acc : List Key), j ∈ ks.foldl addU acc ↔ j ∈ acc ∨ j ∈ ks
  | [], acc => by simp
  | c :: ks, acc => by rw [List.foldl_cons, mem_foldU ks, mem_addU, List.mem_cons, or_assoc]
theorem mem_uniq {j : Key} {ks : List Key} : j ∈ uniq ks ↔ j ∈ ks := by unfold uniq; rw [mem_foldU]; simp
theorem len_addU (ks : List Key) (c : Key) : (addU ks c).length ≤ ks.length + 1 := by
  unfold addU
  split
  · omega
  · rw [List.length_append]; simp
theorem len_foldU : ∀ (ks acc : List Key), (ks.foldl addU acc).length ≤ acc.length + ks.length
  | [], acc => by simp
  | c :: ks, acc => by
    rw [List.foldl_cons]
    have h1 := len_foldU ks (addU acc c)
    have h2 := len_addU acc c
    rw [List.length_cons]
    omega
theorem uniq_le (ks : List Key) : (uniq ks).length ≤ ks.length := by have := len_foldU ks []; simpa [uniq] using this
theorem keysOf_len : ∀ {ys : List PyData} {ks : List Key}, keysOf ys = some ks → ks.length = ys.length
  | [], ks, h => by cases h; rfl
  | y :: ys, ks, h => by
    unfold keysOf at h
    cases h1 : keyOfD y with
    | none => rw [h1] at h; cases h
    | some c =>
      cases h2 : keysOf ys with
      | none => rw [h1, h2] at h; cases h
      | some cs =>
        rw [h1, h2] at h
        cases h
        rw [List.length_cons, List.length_cons, keysOf_len h2]
theorem keysOf_app : ∀ {xs ys : List PyData} {ks : List Key}, keysOf (xs ++ ys) = some ks → ∃ k1 k2, keysOf xs = some k1 ∧ keysOf ys = some k2 ∧ ks = k1 ++ k2
  | [], ys, ks, h => ⟨[], ks, rfl, h, rfl⟩
  | x :: xs, ys, ks, h => by
    rw [List.cons_append] at h
    unfold keysOf at h
    cases h1 : keyOfD x with
    | none => rw [h1] at h; cases h
    | some c =>
      cases h2 : keysOf (xs ++ ys) with
      | none => rw [h1, h2] at h; cases h
      | some cs =>
        rw [h1, h2] at h
        cases h
        obtain ⟨k1, k2, g1, g2, g3⟩ := keysOf_app h2
        exact ⟨c :: k1, k2, by unfold keysOf; rw [h1, g1], g2, by rw [g3]; rfl⟩
theorem key_v {K : PySem.W.Frag} {Z : Hp} {v : V} {y : PyData} {c : Key} (h : keyOfD y = some c) (d : Dp K Z v y) : v = kV c := by
  cases d <;> cases h <;> rfl
/-- len of {e for f in m if t} -/
def mlset (vs : List Nat) (m : M (List PyData)) (f : TgF) (t : M Bool) (e : M PyData) : M PyData := bnd m fun ds => if ds.length ≤ 4000 then bnd (blk vs (compL vs f t e ds)) (fun ys => match keysOf ys with
  | some ks => ret (.int (uniq ks).length)
  | none => fail) else fail
section
variable {T : List Addr} {E : Wish} {X : Cx} {elt tg iter : Expr} {ifs : List Expr} {scope : Scope} {pos : Pos}
theorem tKc_ok {own : List (Str × Nat)} {m : M (List PyData)} {f : TgF} {t : M Bool} {e : M PyData} {L : List Nat} (hL : ∀ i ∈ L, i ∈ own.map (·.2)) {sg : L2.St} {H : Hp} {Q : VK}
    (h : tD ⟨X.K, T⟩ E (mlset (own.map (·.2)) m f t e) sg H Q) :
    tKc X.prog X.w (tI ⟨X.K, T⟩ E m) (tG ⟨X.K, T⟩ W0 L f) (tT ⟨X.K, T⟩ W0 t) (tD ⟨X.K, T⟩ W0 e) (own.map (·.2)) sg H (fun x H1 => rLenK X.prog X.w [x] H1 Q) := by
  generalize hvs : own.map (·.2) = vs at h hL ⊢
  obtain ⟨en, Z, r, q⟩ := h
  refine ⟨en, Z, r, post_mono (post_bnd r q) fun ds en1 H1 Z1 _ ⟨a1, q1⟩ J hJ => ?_⟩
  by_cases hlen : ds.length ≤ 4000
  · rw [if_pos hlen] at q1
    intro D hD
    unfold bnd blk at q1
    by_cases hw : wipeable en1 vs = true
    · rw [if_pos hw] at q1
      have aD : Aft ⟨X.K, T⟩ sg H1 Z1 en1 sg (upd H1 D (SetK X.prog X.w D (fun _ => false) 0)) Z1 en1 := aft_new a1.rel hD
      have r0 : Rel ⟨X.K, T⟩ (wipe sg vs) (upd H1 D (SetK X.prog X.w D (fun _ => false) 0)) Z1 (wipeE en1 vs) := rel_wipe aD.rel
      have hkD : ∀ a o, H1 a = some o → upd H1 D (SetK X.prog X.w D (fun _ => false) 0) a = some o := fun a o h => by rw [upd_ne (ne_of_none h hD)]; exact h
      have hnD : ∀ a, upd H1 D (SetK X.prog X.w D (fun _ => false) 0) a = none → H1 a = none := fun a h => by
        by_cases e : a = D
        · rw [e, upd_same] at h; cases h
        · rw [upd_ne e] at h; exact h
      have nD : ¬ Mine (wipe sg vs) (wipeE en1 vs) D := fun q => by
        obtain ⟨o, ho, _⟩ := mine_there a1.rel (mine_wipe q)
        rw [hD] at ho; cases ho
      have tD' : D ∉ T := fun q => by
        obtain ⟨⟨ps, hp, _⟩, _⟩ := a1.rel.tab D q
        rw [hD] at hp; cases hp
      -- the end
      have kys : ∀ ys en', compL vs f t e ds (wipeE en1 vs) = .ok ys en' → ∃ ks, keysOf ys = some ks := fun ys en' hc => by
        rw [hc] at q1
        dsimp only at q1
        cases hk : keysOf ys with
        | some ks => exact ⟨ks, rfl⟩
        | none => rw [hk] at q1; exact q1.elim
      have fin : ∀ (ys : List PyData) (en' : En) (H' Z' : Hp) (S : Key → Bool) (n : Nat) (ks : List Key), compL vs f t e ds (wipeE en1 vs) = .ok ys en' → Aft ⟨X.K, T⟩ (wipe sg vs) H1 Z1 (wipeE en1 vs) (wipe sg vs) H' Z' en' →
          H' D = some (SetK X.prog X.w D S n) → ys.length ≤ 4000 → keysOf ys = some ks → n = (uniq ks).length → rLenK X.prog X.w [.ref D] H' Q := by
        intro ys en' H' Z' S n ks hc ab hDl hyl hk hn
        rw [hc] at q1
        have b := blk_back a1.rel hw (fun _ _ h => h) (fun _ h => h) ab
        dsimp only at q1
        rw [hk] at q1
        have kl := keysOf_len hk
        have ul := uniq_le ks
        refine ⟨D, S, n, rfl, hDl, by omega, ?_⟩
        rw [hn]
        exact q1 H' Z' b _ (.int _)
      -- what stands between two turns
      have nb : compL vs f t e ds (wipeE en1 vs) = compL vs f t e ds (wipeE en1 vs) := rfl
      refine ⟨fun i m' H2 => m' = ds.length - i ∧ i ≤ ds.length ∧ ∃ en2 Z2 S n ks dn, Rel ⟨X.K, T⟩ (wipe sg vs) H2 Z2 en2 ∧ H2 D = some (SetK X.prog X.w D S n) ∧ Z2 D = none ∧ ¬ Mine (wipe sg vs) en2 D ∧ keysOf dn = some ks ∧ (∀ c, S c = decide (c ∈ ks)) ∧ n = (uniq ks).length ∧ dn.length ≤ i ∧
          (∀ a o, Z1 a = some o → Z2 a = some o) ∧ Aft ⟨X.K, T⟩ (wipe sg vs) H1 Z1 (wipeE en1 vs) (wipe sg vs) H2 Z2 en2 ∧
          Cont (compL vs f t e (ds.drop i) en2) (compL vs f t e ds (wipeE en1 vs)) dn, ⟨ds.length, by simp, Nat.zero_le _, wipeE en1 vs, Z1, _, 0, [], [], r0, upd_same, aD.rel.sub D |> fun _ => (a1.rel.free hD), nD, rfl, fun c => (by simp), rfl, Nat.le_refl _, fun _ _ h => h, aft_new (rel_wipe a1.rel) hD, ?_⟩, ?_⟩
      · rw [List.drop_zero]
        cases hc : compL vs f t e ds (wipeE en1 vs) with
        | ok ys en' => rfl
        | err c en' => rw [hc] at q1; exact q1
        | bad => rw [hc] at q1; exact q1
      · rintro i m' H2 ⟨rfl, hi', en2, Z2, S, n, ks, dn, r2, hDl, hDz, hDm, hks, hS, hn, hdn, hz, a2, q2⟩
        by_cases hlt : i < ds.length
        · have hd : ds[i]? = some ds[i] := List.getElem?_eq_getElem hlt
          obtain ⟨hgo, hy⟩ := hJ.go (wipe sg vs) H2 Z2 en2 i _ r2 hz hd
          refine .inr ⟨hgo, fun H3 => ds.length - (i + 1) = ds.length - (i + 1) ∧ i + 1 ≤ ds.length ∧ ∃ en3 Z3 S3 n3 ks3 dn3, Rel ⟨X.K, T⟩ (wipe sg vs) H3 Z3 en3 ∧ H3 D = some (SetK X.prog X.w D S3 n3) ∧ Z3 D = none ∧ ¬ Mine (wipe sg vs) en3 D ∧ keysOf dn3 = some ks3 ∧ (∀ c, S3 c = decide (c ∈ ks3)) ∧ n3 = (uniq ks3).length ∧ dn3.length ≤ i + 1 ∧
            (∀ a o, Z1 a = some o → Z3 a = some o) ∧ Aft ⟨X.K, T⟩ (wipe sg vs) H1 Z1 (wipeE en1 vs) (wipe sg vs) H3 Z3 en3 ∧
            Cont (compL vs f t e (ds.drop (i + 1)) en3) (compL vs f t e ds (wipeE en1 vs)) dn3, fun H3 h => ⟨_, by omega, h⟩, fun x H3 hx => ?_⟩
          obtain ⟨Z3, a3, hdp⟩ := hy x H3 hx
          rw [List.drop_eq_getElem_cons hlt] at q2
          -- the turn as a reckoning
          rw [compL_cons] at q2
          have hall : PostS ⟨X.K, T⟩ W0 (wipe sg vs) H3 Z3 en2 (stepC vs f t e ds[i] en2) fun oy en' sg' H' Z' => Cont (compL vs f t e (ds.drop (i + 1)) en') (compL vs f t e ds (wipeE en1 vs)) (dn ++ oy.toList) := by
            unfold bnd at q2
            cases hst : stepC vs f t e ds[i] en2 with
            | bad => rw [hst] at q2; exact q2
            | err c e5 => rw [hst] at q2; exact q2.elim
            | ok oy e5 =>
              rw [hst] at q2
              dsimp only at q2
              intro sg' H' Z' _
              cases hc : compL vs f t e (ds.drop (i + 1)) e5 with
              | bad => rw [hc] at q2; exact q2
              | err c e6 => rw [hc] at q2; exact q2
              | ok ys e6 =>
                rw [hc] at q2
                have q2 : _ = Res.ok (dn ++ (oy.toList ++ ys)) e6 := q2
                show _ = Res.ok ((dn ++ oy.toList) ++ ys) e6
                rw [List.append_assoc]
                exact q2
          unfold stepC at hall
          refine ⟨en2, Z3, _, a3.rel, hdp, posts_mono (posts_bnd a3.rel hall) fun fl en4 sg4 H4 Z4 _ ⟨a4, q4⟩ he o4 => ?_⟩
          subst he
          refine ⟨(only_wipe o4 hL).trans wipe_wipe, en4, Z4, a4.rel, post_mono (posts_post (posts_bnd a4.rel q4)) fun b en5 H5 Z5 _ ⟨a5, q5⟩ => ?_⟩
          have hw4 : wipe sg4 vs = wipe sg vs := (only_wipe o4 hL).trans wipe_wipe
          have kD : ∀ {sgx : L2.St} {Hx Zx : Hp} {enx : En}, Aft ⟨X.K, T⟩ (wipe sg vs) H2 Z2 en2 sgx Hx Zx enx → Hx D = some (SetK X.prog X.w D S n) ∧ Zx D = none ∧ ¬ Mine sgx enx D := fun {sgx Hx Zx enx} ax => by
            refine ⟨ax.keep D _ hDl hDm tD', ?_, fun mq => ?_⟩
            · cases hzx : Zx D with
              | none => rfl
              | some o =>
                rcases ax.new D o hzx with z | z | z
                · rw [hDz] at z; cases z
                · rw [hDl] at z; cases z
                · exact (hDm z).elim
            · rcases ax.own D mq with z | z
              · exact hDm z
              · rw [hDl] at z; cases z
          cases b with
          | false =>
            have q5 : PostS ⟨X.K, T⟩ W0 sg4 H5 Z5 en5 (bnd (wp vs) (fun _ => ret none) en5) _ := q5
            obtain ⟨hw5, a6, q6⟩ := wp_ok a5.rel (posts_bnd a5.rel q5)
            rw [hw4] at a6 q6
            have hc := posts_ret (a := (none : Option PyData)) a6.rel q6
            rw [show (none : Option PyData).toList = [] from rfl, List.append_nil] at hc
            have aX := ((a3.trans a4 r2).trans a5 r2).trans a6 r2
            obtain ⟨d1, d2, d3⟩ := kD aX
            dsimp only
            rw [if_neg Bool.false_ne_true]
            refine ⟨rfl, hlt, wipeE en5 vs, Z5, S, n, ks, dn, a6.rel, d1, d2, d3, hks, hS, hn, Nat.le_succ_of_le hdn, fun a o h => aX.zz a o (hz a o h), a2.trans aX (rel_wipe a1.rel), ?_⟩
            exact hc
          | true =>
            have q5 : PostS ⟨X.K, T⟩ W0 sg4 H5 Z5 en5 (bnd e (fun y => bnd (wp vs) fun _ => ret (some y)) en5) _ := q5
            dsimp only
            rw [if_pos rfl]
            refine ⟨en5, Z5, a5.rel, post_mono (posts_post (posts_bnd a5.rel q5)) fun y en6 H6 Z6 _ ⟨a6, q6⟩ v hv => ?_⟩
            obtain ⟨hw6, a7, q7⟩ := wp_ok a6.rel (posts_bnd a6.rel q6)
            rw [hw4] at a7 q7
            have hc := posts_ret (a := some y) a7.rel q7
            have aX := (((a3.trans a4 r2).trans a5 r2).trans a6 r2).trans a7 r2
            obtain ⟨d1, d2, d3⟩ := kD aX
            have kl := keysOf_len hks
            have ul := uniq_le ks
            obtain ⟨c, hc1, hc2⟩ : ∃ c, keyOfD y = some c ∧ keysOf (dn ++ [y]) = some (ks ++ [c]) := by
              cases hcr : compL vs f t e (ds.drop (i + 1)) (wipeE en6 vs) with
              | ok ys e6 =>
                rw [hcr] at hc
                obtain ⟨ks', hk'⟩ := kys _ _ hc
                obtain ⟨k1, k2, g1, g2, g3⟩ := keysOf_app hk'
                have e1 : keysOf (dn ++ [y]) = some k1 := g1
                obtain ⟨k3, k4, g4, g5, g6⟩ := keysOf_app e1
                rw [hks] at g4
                cases g4
                unfold keysOf at g5
                cases hy : keyOfD y with
                | none => rw [hy] at g5; cases g5
                | some c =>
                  rw [hy] at g5
                  cases g5
                  exact ⟨c, rfl, by rw [e1, g6]⟩
              | err c e6 => rw [hcr] at hc; exact hc.elim
              | bad => rw [hcr] at hc; exact hc.elim
            have a27 := a2.trans aX (rel_wipe a1.rel)
            have r7 := a7.rel
            have up : ∀ a o, a ≠ D → H6 a = some o → upd H6 D (SetK X.prog X.w D (fun j => S j || decide (j = c)) (if S c = true then n else n + 1)) a = some o := fun a o h e => by rw [upd_ne h]; exact e
            have r8 : Rel ⟨X.K, T⟩ (wipe sg vs) (upd H6 D (SetK X.prog X.w D (fun j => S j || decide (j = c)) (if S c = true then n else n + 1))) Z6 (wipeE en6 vs) := by
              refine ⟨fun a o h => up a o (fun z => by rw [z, d2] at h; cases h) (r7.sub a o h), fun j s h => ?_, r7.dis, fun P hP => ?_⟩
              · obtain ⟨w, hw, q⟩ := r7.sl j s h
                refine ⟨w, hw, ?_⟩
                have nb : ∀ b, isOwn s = true → w = some (.ref b) → b ≠ D := fun b ho hwb z => d3 ⟨j, s, h, ho, by rw [hw, hwb, z]⟩
                cases s with
                | no => trivial
                | sh d => exact q
                | ow d => obtain ⟨b, e1, h1, h2⟩ := q; exact ⟨b, e1, h1, h2.mono (fun o z => up b o (nb b rfl e1) z) fun _ _ z => z⟩
                | io d => obtain ⟨b, e1, h1, h2⟩ := q; exact ⟨b, e1, h1, h2.mono (fun o z => up b o (nb b rfl e1) z) fun _ _ z => z⟩
              · obtain ⟨⟨ps, h1, h2⟩, h3⟩ := r7.tab P hP
                exact ⟨⟨ps, up P _ (fun z => by rw [z] at hP; exact tD' hP) h1, h2⟩, h3⟩
            refine ⟨c, S, n, key_v hc1 hv, d1, by unfold scanBound; omega, rfl, hlt, wipeE en6 vs, Z6, _, _, ks ++ [c], dn ++ [y], r8, upd_same, d2, d3, hc2, fun j => ?_, ?_, by rw [List.length_append, List.length_singleton]; omega, fun a o h => aX.zz a o (hz a o h), ?_, ?_⟩
            · rw [hS]; simp [List.mem_append]
            · rw [uniq_snoc, hS, hn]
              unfold addU
              simp only [mem_uniq, decide_eq_true_eq]
              by_cases hm : c ∈ ks
              · rw [if_pos hm, if_pos hm]
              · rw [if_neg hm, if_neg hm, List.length_append]; simp
            · exact ⟨r8, a27.zz, a27.new, fun a o h m tt => up a o (fun z => by rw [z, hD] at h; cases h) (a27.keep a o h m tt), a27.own, a27.io⟩
            · exact hc
        · have e : i = ds.length := by omega
          subst e
          rw [List.drop_of_length_le (Nat.le_refl _)] at q2
          refine .inl ⟨hJ.stop _ H2 Z2 en2 r2 hz, fin dn en2 H2 Z2 S n ks ?_ a2 hDl (by omega) hks hn⟩
          have q2 : _ = Res.ok (dn ++ []) en2 := q2
          rw [List.append_nil] at q2
          exact q2
    · rw [if_neg hw] at q1; exact q1.elim
  · rw [if_neg hlen] at q1; exact q1.elim
variable {own : List (Str × Nat)} {L : List Nat} {m : M (List PyData)} {f : TgF} {t : M Bool} {e : M PyData} {px cpos : Pos}
theorem gd_lenset (hL : L = own.map (·.2)) (hc : X.calm = true) (hN : X.N.Nodup) (hgl : Gl X "len") (hml : X.mg "len" = none) (hi : GI T E X tg iter m) (ok : BlkOk X.N X.env.scope scope own)
    (hg : ∀ (s : Shared) (H : Hp) (C : Addr) (cl : List (Str × Addr)) (fp : List Addr), GG T W0 (X.blk s H scope (compEnvC scope cl C X.env) fp) L tg f)
    (ht : ∀ (s : Shared) (H : Hp) (C : Addr) (cl : List (Str × Addr)) (fp : List Addr), GTs T W0 (X.blk s H scope (compEnvC scope cl C X.env) fp) ifs t)
    (he : ∀ (s : Shared) (H : Hp) (C : Addr) (cl : List (Str × Addr)) (fp : List Addr), GD T W0 (X.blk s H scope (compEnvC scope cl C X.env) fp) elt e) (hs : ∀ x, foldedSetIterable iter X.env x = pure x := by intro _; rfl)
    (hst : starEach [.SetComp elt [⟨tg, iter, ifs, 0⟩] scope pos] X.env = (false, eval (.SetComp elt [⟨tg, iter, ifs, 0⟩] scope pos) X.env) :: starEach [] X.env := by rfl) (hpl : (backTo cpos (starEach [] X.env)).any (·.1) = false := by rfl) :
    GD T E X (.Call (.Name "len" px) [.SetComp elt [⟨tg, iter, ifs, 0⟩] scope pos] [] cpos) (mlset L m f t e) := by
  subst hL
  exact pe_imp (pe_callB cr_lenK hgl hml boot_len (pa_cons (pe_kc hc hN hi ok hg ht he hs) pa_nil hst) (by decide) (by decide) hst hpl) fun sg H Q h => tKc_ok (fun i h => h) h
end
end ZD

/-! reckoning without places: each def as a function of trees, what the places say is kept in a list of kinds -/
namespace ZP
open PySem ZD

inductive PR (α : Type) where
  | ok (a : α) | er (c : String) | bad
def PR.bind {α β : Type} (p : PR α) (f : α → PR β) : PR β := match p with
  | .ok a => f a
  | .er c => .er c
  | .bad => .bad
def PR.noe {α : Type} (p : PR α) : PR α := match p with
  | .ok a => .ok a
  | _ => .bad
/-- a set of ends that are all right: for all draws -/
abbrev Dm (α : Type) := (α → Prop) → (String → Prop) → Prop
def PQ {α : Type} (p : PR α) : Dm α := fun Q E => match p with
  | .ok a => Q a
  | .er c => E c
  | .bad => False
def bD {α β : Type} (d : Dm α) (f : α → Dm β) : Dm β := fun Q E => d (fun a => f a Q E) E
def nD {α : Type} (d : Dm α) : Dm α := fun Q _ => d Q fun _ => False
def WQ {α : Type} (m : M α) (en : En) (Q : α → En → Prop) (E : String → En → Prop) : Prop := match m en with
  | .ok a e => Q a e
  | .err c e => E c e
  | .bad => False

inductive PV where
  | any | pl | val (d : PyData) | shd (d : PyData) | ownl (d : PyData) | ownd (d : PyData) | iov (I : PyData → Prop) | owv (I : PyData → Prop) | io (d : PyData)
def SR : PV → Sl → Prop
  | .any, s => ∀ d, s ≠ .io d
  | .pl, s => s = .no ∨ ∃ d, s = .sh d
  | .val d, s => s = .sh d ∨ (∃ ds, d = .list ds) ∧ s = .ow d
  | .shd d, s => s = .sh d
  | .ownl d, s => s = .ow d ∧ ∃ ds, d = .list ds
  | .ownd d, s => s = .ow d ∧ ∃ ds, d = .dict ds
  | .iov I, s => ∃ d, I d ∧ s = .io d
  | .owv I, s => ∃ d, I d ∧ s = .ow d
  | .io d, s => s = .io d
def ER (G : List PV) (en : En) : Prop := G.length = en.length ∧ ∀ (i : Nat) (pv : PV), G[i]? = some pv → ∃ s, en[i]? = some s ∧ SR pv s
def FR (L : List Nat) (en en' : En) : Prop := ∀ j, j ∉ L → ∀ b, look en (.s j) = some b → look en' (.s j) = some b
def VW (x : Vl) (b : PyData) : Prop := x = .sh b ∨ (∃ ds, b = .list ds) ∧ x = .ow b
def VS (x : Vl) (b : PyData) : Prop := x = .sh b
def VL (x : Vl) (b : PyData) : Prop := x = .ow b ∧ ∃ ds, b = .list ds
def VK (x : Vl) (b : PyData) : Prop := x = .ow b ∧ ∃ ds, b = .dict ds
section
variable {α β γ X Y : Type} {G G' : List PV} {L L' L2 N N2 : List Nat} {en en1 en' : En} {i : Nat}
theorem FR.refl : FR L en en := fun _ _ _ h => h
theorem fr_eq (h : ∀ j, j ∉ L → en'[j]? = en[j]?) : FR L en en' := fun j hj b hb => by simp only [look] at hb ⊢; rw [h j hj]; exact hb
theorem FR.trans {a b c : En} (h : FR L a b) (k : FR L b c) : FR L a c := fun j hj b hb => k j hj b (h j hj b hb)
theorem FR.mono {a b : En} (h : FR L2 a b) (s : ∀ j ∈ L2, j ∈ L) : FR L a b := fun j hj => h j fun q => hj (s j q)
theorem pq_bind (p : PR α) (f : α → PR β) : PQ (p.bind f) = bD (PQ p) (fun a => PQ (f a)) := by
  funext Q E; cases p <;> rfl
theorem pq_noe (p : PR α) : PQ p.noe = nD (PQ p) := by funext Q E; cases p <;> rfl
theorem wq_bnd {m : M α} {f : α → M β} {Q : β → En → Prop} {E : String → En → Prop} (h : WQ m en (fun a e => WQ (f a) e Q E) E) : WQ (bnd m f) en Q E := by
  unfold WQ bnd
  unfold WQ at h
  cases hm : m en with
  | ok a e => rw [hm] at h; exact h
  | err c e => rw [hm] at h; exact h
  | bad => rw [hm] at h; exact h
theorem wq_eq {m : M α} {a : α} {Q : α → En → Prop} {E : String → En → Prop} (h : m en = .ok a en1) (q : Q a en1) : WQ m en Q E := by unfold WQ; rw [h]; exact q
theorem er_get (h : ER G en) {pv : PV} (g : G[i]? = some pv) : ∃ s, en[i]? = some s ∧ SR pv s := h.2 i pv g
theorem er_set (h : ER G en) {pv : PV} {s : Sl} (hs : SR pv s) : ER (G.set i pv) (en.set i s) := by
  refine ⟨by simp [h.1], fun j p hj => ?_⟩
  by_cases e : i = j
  · subst e
    have hl : i < G.length := by have := (List.getElem?_eq_some_iff.mp hj).1; simpa using this
    rw [List.getElem?_set_self hl] at hj
    cases hj
    exact ⟨s, by rw [List.getElem?_set_self (by rw [← h.1]; exact hl)], hs⟩
  · rw [List.getElem?_set_ne e] at hj
    obtain ⟨s', h1, h2⟩ := h.2 j p hj
    exact ⟨s', by rw [List.getElem?_set_ne e]; exact h1, h2⟩
theorem er_keep (h : ER G en) {pv : PV} {s : Sl} (g : G[i]? = some pv) (hs : SR pv s) : ER G (en.set i s) := by
  have z := er_set (i := i) h hs
  have e : G.set i pv = G := by
    apply List.ext_getElem?
    intro j
    by_cases e : i = j
    · subst e
      rw [List.getElem?_set_self (List.getElem?_eq_some_iff.mp g).1, g]
    · rw [List.getElem?_set_ne e]
  rw [e] at z
  exact z

def J (G : List PV) (L : List Nat) (V : X → β → Prop) (m : M X) (d : Dm β) : Prop :=
  ∀ (en : En) (Qd : β → Prop) (Ed : String → Prop) (Q : X → En → Prop) (E : String → En → Prop), ER G en → d Qd Ed →
    (∀ b, Qd b → ∀ x en', V x b → ER G en' → FR L en en' → Q x en') → (∀ c, Ed c → ∀ en', ER G en' → E c en') → WQ m en Q E
abbrev JE (G : List PV) (L : List Nat) (m : M β) (d : Dm β) : Prop := J G L (Eq : β → β → Prop) m d
theorem J_sub {V : X → β → Prop} {m : M X} {d : Dm β} (h : J G L2 V m d) (s : ∀ j ∈ L2, j ∈ L) : J G L V m d :=
  fun en Qd Ed Q E he hd hq hE => h en Qd Ed Q E he hd (fun b hb x en' hv he' hf => hq b hb x en' hv he' (hf.mono s)) hE
theorem J_bnd {V1 : X → β → Prop} {V2 : Y → γ → Prop} {m : M X} {d : Dm β} {f : X → M Y} {g : β → Dm γ} (h : J G L V1 m d) (k : ∀ b x, V1 x b → J G L V2 (f x) (g b)) : J G L V2 (bnd m f) (bD d g) :=
  fun en Qd Ed Q E he hd hq hE => wq_bnd (h en _ Ed _ E he hd (fun b hb x en1 hv he1 hf => k b x hv en1 Qd Ed Q E he1 hb (fun b2 hb2 x2 en2 hv2 he2 hf2 => hq b2 hb2 x2 en2 hv2 he2 (hf.trans hf2)) hE) hE)
theorem J_ret {V : X → β → Prop} {x : X} {b : β} (h : V x b) : J G L V (ret x) (PQ (.ok b)) := fun en Qd Ed Q E he hd hq hE => hq b hd x en h he FR.refl
theorem J_bad {V : X → β → Prop} {m : M X} : J G L V m (PQ .bad) := fun _ _ _ _ _ _ h => h.elim
theorem J_weak {m : M Vl} {d : Dm PyData} {V : Vl → PyData → Prop} (h : J G L V m d) (hv : ∀ x b, V x b → VW x b) : J G L VW m d :=
  fun en Qd Ed Q E he hd hq hE => h en Qd Ed Q E he hd (fun b hb x en' v he' hf => hq b hb x en' (hv x b v) he' hf) hE
theorem vs_vw {x : Vl} {b : PyData} (h : VS x b) : VW x b := .inl h
theorem vl_vw {x : Vl} {b : PyData} (h : VL x b) : VW x b := .inr ⟨h.2, h.1⟩

/-! ### what is handed out -/
def outR : Out → PR PyData
  | .d x => .ok x
  | .nl ds => .ok (.list ds)
  | .nt ds => .ok (.tuple ds)
  | _ => .bad
def outS : Out → PR PyData
  | .d x => .ok x
  | .nt ds => .ok (.tuple ds)
  | _ => .bad
def outL : Out → PR PyData
  | .nl ds => .ok (.list ds)
  | _ => .bad
def outK : Out → PR PyData
  | .nd ds => .ok (.dict ds)
  | _ => .bad
/-- a way to hand out, and how it is kept -/
def OutV (V : Vl → PyData → Prop) (ox : Out → PR PyData) : Prop := ∀ (G : List PV) (L : List Nat) (o : Out), J G L V (out o) (PQ (ox o))
theorem ov_w : OutV VW outR := fun G L o => by
  cases o with
  | d x => exact J_ret (.inl rfl)
  | nl ds => exact J_ret (.inr ⟨⟨ds, rfl⟩, rfl⟩)
  | nt ds => exact J_ret (.inl rfl)
  | nd kvs => exact J_bad
  | bad => exact J_bad
theorem ov_s : OutV VS outS := fun G L o => by
  cases o with
  | d x => exact J_ret rfl
  | nt ds => exact J_ret rfl
  | _ => exact J_bad
theorem ov_l : OutV VL outL := fun G L o => by
  cases o with
  | nl ds => exact J_ret ⟨rfl, ds, rfl⟩
  | _ => exact J_bad
theorem ov_k : OutV VK outK := fun G L o => by
  cases o with
  | nd ds => exact J_ret ⟨rfl, ds, rfl⟩
  | _ => exact J_bad

/-! ### things looked at -/
def JO (G : List PV) (L N : List Nat) (m : M Od) (d : Dm PyData) : Prop :=
  ∀ (en : En) (Qd : PyData → Prop) (Ed : String → Prop) (Q : Od → En → Prop) (E : String → En → Prop), ER G en → d Qd Ed →
    (∀ b, Qd b → ∀ x en', look en' x = some b → (x = .d b ∨ ∃ i ∈ N, x = .s i) → ER G en' → FR L en en' → Q x en') → (∀ c, Ed c → ∀ en', ER G en' → E c en') → WQ m en Q E
theorem JO_d {m : M PyData} {d : Dm PyData} (h : JE G L m d) : JO G L [] (odD m) d :=
  fun en Qd Ed Q E he hd hq hE => wq_bnd (h en Qd Ed _ E he hd (fun b hb x en' hv he' hf => by subst hv; exact hq x hb (.d x) en' rfl (.inl rfl) he' hf) hE)
theorem JO_shd {d : PyData} (g : G[i]? = some (.shd d)) : JO G L [] (nm i) (PQ (.ok d)) := fun en Qd Ed Q E he hd hq hE => by
  obtain ⟨s, hs, h⟩ := er_get he g
  cases h
  exact wq_eq (a := .d d) (en1 := en) (by unfold nm; rw [hs]) (hq d hd _ en rfl (.inl rfl) he FR.refl)
theorem JO_val {d : PyData} (g : G[i]? = some (.val d)) : JO G L [i] (nm i) (PQ (.ok d)) := fun en Qd Ed Q E he hd hq hE => by
  obtain ⟨s, hs, h⟩ := er_get he g
  rcases h with rfl | ⟨⟨ds, rfl⟩, rfl⟩
  · exact wq_eq (a := .d d) (en1 := en) (by unfold nm; rw [hs]) (hq d hd _ en rfl (.inl rfl) he FR.refl)
  · exact wq_eq (a := .s i) (en1 := en) (by unfold nm; rw [hs]) (hq _ hd _ en (by simp only [look, hs]) (.inr ⟨i, by simp, rfl⟩) he FR.refl)
theorem JO_ownl {d : PyData} (g : G[i]? = some (.ownl d)) : JO G L [i] (nm i) (PQ (.ok d)) := fun en Qd Ed Q E he hd hq hE => by
  obtain ⟨s, hs, rfl, h⟩ := er_get he g
  exact wq_eq (a := .s i) (en1 := en) (by unfold nm; rw [hs]) (hq _ hd _ en (by simp only [look, hs]) (.inr ⟨i, by simp, rfl⟩) he FR.refl)
theorem JO_ownd {d : PyData} (g : G[i]? = some (.ownd d)) : JO G L [i] (nm i) (PQ (.ok d)) := fun en Qd Ed Q E he hd hq hE => by
  obtain ⟨s, hs, rfl, h⟩ := er_get he g
  exact wq_eq (a := .s i) (en1 := en) (by unfold nm; rw [hs]) (hq _ hd _ en (by simp only [look, hs]) (.inr ⟨i, by simp, rfl⟩) he FR.refl)
theorem JO_io {d : PyData} (g : G[i]? = some (.io d)) : JO G L [i] (nm i) (PQ (.ok d)) := fun en Qd Ed Q E he hd hq hE => by
  obtain ⟨s, hs, h⟩ := er_get he g
  cases h
  exact wq_eq (a := .s i) (en1 := en) (by unfold nm; rw [hs]) (hq _ hd _ en (by simp only [look, hs]) (.inr ⟨i, by simp, rfl⟩) he FR.refl)
/-- a name whose thing is handed on -/
theorem J_shd {d : PyData} (g : G[i]? = some (.shd d)) : JE G L (nv i) (PQ (.ok d)) := fun en Qd Ed Q E he hd hq hE => by
  obtain ⟨s, hs, h⟩ := er_get he g
  cases h
  exact wq_eq (a := d) (en1 := en) (by unfold nv; rw [hs]) (hq d hd _ en rfl he FR.refl)
theorem J_val {d : PyData} (g : G[i]? = some (.val d)) : JE G L (nv i) (PQ (.ok d)) := fun en Qd Ed Q E he hd hq hE => by
  obtain ⟨s, hs, h⟩ := er_get he g
  rcases h with rfl | ⟨⟨ds, rfl⟩, rfl⟩
  · exact wq_eq (a := d) (en1 := en) (by unfold nv; rw [hs]) (hq d hd _ en rfl he FR.refl)
  · refine wq_eq (a := .list ds) (en1 := en.set i (.sh (.list ds))) (by unfold nv; rw [hs]) (hq _ hd _ _ rfl (er_keep he g (.inl rfl)) fun j hj b hb => ?_)
    by_cases e : i = j
    · subst e
      simp only [look, hs] at hb
      simp only [look, List.getElem?_set_self (List.getElem?_eq_some_iff.mp hs).1]
      exact hb
    · simp only [look] at hb ⊢
      rw [List.getElem?_set_ne e]
      exact hb
theorem J_cst {d : PyData} : JE G L (cst d) (PQ (.ok d)) := J_ret rfl

/-! ### operations -/
def b1 (d : Dm PyData) (f : PyData → PR PyData) : Dm PyData := bD d fun a => PQ (f a)
def b2 (d1 d2 : Dm PyData) (f : PyData → PyData → PR PyData) : Dm PyData := bD d1 fun a => bD d2 fun b => PQ (f a b)
def o1 (p : PR PyData) (f : PyData → PR PyData) : PR PyData := p.bind f
def o2 (p q : PR PyData) (f : PyData → PyData → PR PyData) : PR PyData := p.bind fun a => q.bind fun b => f a b
theorem pq_o1 (p : PR PyData) (f : PyData → PR PyData) : PQ (o1 p f) = b1 (PQ p) f := pq_bind _ _
theorem pq_o2 (p q : PR PyData) (f : PyData → PyData → PR PyData) : PQ (o2 p q f) = b2 (PQ p) (PQ q) f := by unfold o2 b2; simp only [pq_bind]
theorem J_op1 {V : Vl → PyData → Prop} {ox : Out → PR PyData} {f : PyData → Out} {p : M Od} {d : Dm PyData} (ov : OutV V ox) (h : JO G L N p d) : J G L V (op1 f p) (b1 d fun a => ox (f a)) :=
  fun en Qd Ed Q E he hd hq hE => wq_bnd (h en _ Ed _ E he hd (fun b hb x en1 hl _ he1 hf => by
    have z := ov G L (f b) en1 Qd Ed Q E he1 hb (fun b2 hb2 x2 en2 hv2 he2 hf2 => hq b2 hb2 x2 en2 hv2 he2 (hf.trans hf2)) hE
    unfold WQ
    simp only [hl]
    exact z) hE)
theorem look_fr {x : Od} {b : PyData} (hl : look en x = some b) (hx : x = .d b ∨ ∃ i ∈ N, x = .s i) (hf : FR L2 en en') (hn : ∀ j ∈ L2, j ∉ N) : look en' x = some b := by
  rcases hx with rfl | ⟨i, hi, rfl⟩
  · rfl
  · exact hf i (fun q => hn i q hi) b hl
theorem J_op2 {V : Vl → PyData → Prop} {ox : Out → PR PyData} {f : PyData → PyData → Out} {p q : M Od} {d d2 : Dm PyData} (ov : OutV V ox) (h : JO G L N p d) (h2 : JO G L2 N2 q d2) (hn : ∀ j ∈ L2, j ∉ N) (hs : ∀ j ∈ L2, j ∈ L) : J G L V (op2 f p q) (b2 d d2 fun a b => ox (f a b)) :=
  fun en Qd Ed Q E he hd hq hE => wq_bnd (h en _ Ed _ E he hd (fun b hb x en1 hl hx he1 hf => wq_bnd (h2 en1 _ Ed _ E he1 hb (fun c hc y en2 hl2 _ he2 hf2 => by
    have z := ov G L (f b c) en2 Qd Ed Q E he2 hc (fun b2 hb2 x2 en3 hv2 he3 hf3 => hq b2 hb2 x2 en3 hv2 he3 ((hf.trans (hf2.mono hs)).trans hf3)) hE
    have l1 := look_fr hl hx hf2 hn
    unfold WQ
    simp only [l1, hl2]
    exact z) hE)) hE)
theorem J_opv2 {V V1 : Vl → PyData → Prop} {ox : Out → PR PyData} {f : PyData → PyData → Out} {m : M Vl} {q : M Od} {d d2 : Dm PyData} (ov : OutV V ox) (hv : ∀ x b, V1 x b → x.d = b) (h : J G L V1 m d) (h2 : JO G L N2 q d2) : J G L V (opv2 f m q) (b2 d d2 fun a b => ox (f a b)) :=
  fun en Qd Ed Q E he hd hq hE => wq_bnd (h en _ Ed _ E he hd (fun b hb x en1 hx he1 hf => wq_bnd (h2 en1 _ Ed _ E he1 hb (fun c hc y en2 hl2 _ he2 hf2 => by
    have z := ov G L (f b c) en2 Qd Ed Q E he2 hc (fun b2 hb2 x2 en3 hv2 he3 hf3 => hq b2 hb2 x2 en3 hv2 he3 ((hf.trans hf2).trans hf3)) hE
    unfold WQ
    simp only [hl2, hv x b hx]
    exact z) hE)) hE)
theorem vw_d (x : Vl) (b : PyData) (h : VW x b) : x.d = b := by rcases h with rfl | ⟨_, rfl⟩ <;> rfl
theorem vl_d (x : Vl) (b : PyData) (h : VL x b) : x.d = b := by rcases h with ⟨rfl, _⟩; rfl
theorem vk_d (x : Vl) (b : PyData) (h : VK x b) : x.d = b := by rcases h with ⟨rfl, _⟩; rfl
theorem J_op1P {V : Vl → PyData → Prop} {ox : Out → PR PyData} {f : PyData → Out} {p : M Od} {d : PR PyData} (ov : OutV V ox) (h : JO G L N p (PQ d)) : J G L V (op1 f p) (PQ (o1 d fun a => ox (f a))) := by rw [pq_o1]; exact J_op1 ov h
theorem J_op2P {V : Vl → PyData → Prop} {ox : Out → PR PyData} {f : PyData → PyData → Out} {p q : M Od} {d d2 : PR PyData} (ov : OutV V ox) (h : JO G L N p (PQ d)) (h2 : JO G L2 N2 q (PQ d2)) (hn : ∀ j ∈ L2, j ∉ N) (hs : ∀ j ∈ L2, j ∈ L) : J G L V (op2 f p q) (PQ (o2 d d2 fun a b => ox (f a b))) := by
  rw [pq_o2]; exact J_op2 ov h h2 hn hs
theorem J_opv2P {V V1 : Vl → PyData → Prop} {ox : Out → PR PyData} {f : PyData → PyData → Out} {m : M Vl} {q : M Od} {d d2 : PR PyData} (ov : OutV V ox) (hv : ∀ x b, V1 x b → x.d = b) (h : J G L V1 m (PQ d)) (h2 : JO G L N2 q (PQ d2)) : J G L V (opv2 f m q) (PQ (o2 d d2 fun a b => ox (f a b))) := by
  rw [pq_o2]; exact J_opv2 ov hv h h2
/-- a op b op c -/
def chB {α : Type} (o : Out) (k z e : α) : α := match o with
  | .d (.bool true) => k
  | .d (.bool false) => z
  | _ => e
def chainP (f g : PyData → PyData → Out) (p q w : PR PyData) : PR PyData := p.bind fun a => q.bind fun b => chB (f a b) (w.bind fun c => outS (g b c)) (.ok (.bool false)) .bad
def chainD (f g : PyData → PyData → Out) (p q w : Dm PyData) : Dm PyData := bD p fun a => bD q fun b => chB (f a b) (bD w fun c => PQ (outS (g b c))) (PQ (.ok (.bool false))) (PQ .bad)
theorem pq_chB {o : Out} {k z e : PR PyData} : PQ (chB o k z e) = chB o (PQ k) (PQ z) (PQ e) := by unfold chB; split <;> rfl
theorem pq_chain (f g : PyData → PyData → Out) (p q w : PR PyData) : PQ (chainP f g p q w) = chainD f g (PQ p) (PQ q) (PQ w) := by
  unfold chainP chainD
  simp only [pq_bind, pq_chB]
theorem J_op2c {f g : PyData → PyData → Out} {p q w : M Od} {d d2 d3 : Dm PyData} {N3 L3 : List Nat} (h : JO G L N p d) (h2 : JO G L2 N2 q d2) (h3 : JO G L3 N3 w d3) (hn : ∀ j ∈ L2, j ∉ N) (hs : ∀ j ∈ L2, j ∈ L) (hn3 : ∀ j ∈ L3, j ∉ N2) (hs3 : ∀ j ∈ L3, j ∈ L) : J G L VS (op2c f g p q w) (chainD f g d d2 d3) :=
  fun en Qd Ed Q E he hd hq hE => wq_bnd (h en _ Ed _ E he hd (fun b hb x en1 hl hx he1 hf => wq_bnd (h2 en1 _ Ed _ E he1 hb (fun c hc y en2 hl2 hy he2 hf2 => by
    have l1 := look_fr hl hx hf2 hn
    unfold WQ
    simp only [l1, hl2]
    have case : f b c = .d (.bool true) ∨ f b c = .d (.bool false) ∨ chB (f b c) (bD d3 fun k => PQ (outS (g c k))) (PQ (.ok (.bool false))) (PQ .bad) = PQ .bad := by
      cases f b c with
      | d z =>
        cases z with
        | bool v => cases v <;> simp
        | _ => simp [chB]
      | _ => simp [chB]
    rcases case with e | e | e
    · simp only [e, chB] at hc
      simp only [e]
      show WQ (bnd w _) en2 Q E
      refine wq_bnd (h3 en2 _ Ed _ E he2 hc (fun k hk z en3 hl3 _ he3 hf3 => ?_) hE)
      have l2 := look_fr hl2 hy hf3 hn3
      have zz := ov_s G L (g c k) en3 Qd Ed Q E he3 hk (fun b2 hb2 x2 en4 hv4 he4 hf4 => hq b2 hb2 x2 en4 hv4 he4 (((hf.trans (hf2.mono hs)).trans (hf3.mono hs3)).trans hf4)) hE
      unfold WQ
      simp only [l2, hl3]
      exact zz
    · simp only [e, chB] at hc
      simp only [e]
      exact hq _ hc _ en2 rfl he2 (hf.trans (hf2.mono hs))
    · simp only [e] at hc
      exact hc.elim) hE)) hE)
theorem J_op2cP {f g : PyData → PyData → Out} {p q w : M Od} {d d2 d3 : PR PyData} {N3 L3 : List Nat} (h : JO G L N p (PQ d)) (h2 : JO G L2 N2 q (PQ d2)) (h3 : JO G L3 N3 w (PQ d3)) (hn : ∀ j ∈ L2, j ∉ N) (hs : ∀ j ∈ L2, j ∈ L) (hn3 : ∀ j ∈ L3, j ∉ N2) (hs3 : ∀ j ∈ L3, j ∈ L) : J G L VS (op2c f g p q w) (PQ (chainP f g d d2 d3)) := by
  rw [pq_chain]; exact J_op2c h h2 h3 hn hs hn3 hs3

/-! ### made shared, truth values -/
def fzP (b : PyData) : PR PyData := match b with
  | .dict _ => .bad
  | b => .ok b
theorem J_shV {m : M PyData} {d : Dm PyData} (h : JE G L m d) : J G L VS (shV m) d :=
  fun en Qd Ed Q E he hd hq hE => wq_bnd (h en Qd Ed _ E he hd (fun b hb x en' hv he' hf => by subst hv; exact hq x hb (.sh x) en' rfl he' hf) hE)
theorem J_shW {m : M PyData} {d : Dm PyData} (h : JE G L m d) : J G L VW (shV m) d := J_weak (J_shV h) fun _ _ => vs_vw
theorem J_fz {m : M Vl} {d : Dm PyData} {V : Vl → PyData → Prop} (hv : ∀ x b, V x b → VW x b) (h : J G L V m d) : JE G L (fz m) d :=
  fun en Qd Ed Q E he hd hq hE => wq_bnd (h en Qd Ed _ E he hd (fun b hb x en' v he' hf => by
    rcases hv x b v with rfl | ⟨⟨ds, rfl⟩, rfl⟩
    · exact hq b hb b en' rfl he' hf
    · exact hq _ hb _ en' rfl he' hf) hE)
def tstF : PyData → PR Bool
  | .bool b => .ok b
  | _ => .bad
def tstP (p : PR PyData) : PR Bool := p.bind tstF
def tstD (d : Dm PyData) : Dm Bool := bD d fun a => PQ (tstF a)
theorem pq_tst (p : PR PyData) : PQ (tstP p) = tstD (PQ p) := pq_bind _ _
theorem J_tst {m : M PyData} {d : Dm PyData} (h : JE G L m d) : JE G L (tst m) (tstD d) := J_bnd h fun b x hx => by
  subst hx
  cases x with
  | bool b => exact J_ret rfl
  | _ => exact J_bad
theorem J_tstP {m : M PyData} {d : PR PyData} (h : JE G L m (PQ d)) : JE G L (tst m) (PQ (tstP d)) := by rw [pq_tst]; exact J_tst h
def notP (p : PR Bool) : PR Bool := p.bind fun b => .ok (!b)
def notD (p : Dm Bool) : Dm Bool := bD p fun b => PQ (.ok (!b))
theorem J_not {m : M Bool} {d : Dm Bool} (h : JE G L m d) : JE G L (mnot m) (notD d) := J_bnd h fun b x hx => by subst hx; exact J_ret rfl
theorem J_notP {m : M Bool} {d : PR Bool} (h : JE G L m (PQ d)) : JE G L (mnot m) (PQ (notP d)) := by unfold notP; rw [pq_bind]; exact J_not h
def ifP {α : Type} (t : PR Bool) (p q : PR α) : PR α := t.bind fun b => if b = true then p else q
def ifD {α : Type} (t : Dm Bool) (p q : Dm α) : Dm α := bD t fun b => if b = true then p else q
theorem pq_if {α : Type} (t : PR Bool) (p q : PR α) : PQ (ifP t p q) = ifD (PQ t) (PQ p) (PQ q) := by
  unfold ifP ifD
  rw [pq_bind]
  congr; funext b
  split <;> rfl
theorem J_if {V : X → β → Prop} {t : M Bool} {m n : M X} {dt : Dm Bool} {d d2 : Dm β} (ht : JE G L t dt) (h : J G L V m d) (h2 : J G L V n d2) : J G L V (mif t m n) (ifD dt d d2) := J_bnd ht fun b x hx => by
  subst hx
  cases x with
  | true => exact h
  | false => exact h2
theorem J_ifP {V : X → β → Prop} {t : M Bool} {m n : M X} {dt : PR Bool} {d d2 : PR β} (ht : JE G L t (PQ dt)) (h : J G L V m (PQ d)) (h2 : J G L V n (PQ d2)) : J G L V (mif t m n) (PQ (ifP dt d d2)) := by
  rw [pq_if]; exact J_if ht h h2
def andP (p q : PR Bool) : PR Bool := ifP p q (.ok false)
def orP (p q : PR Bool) : PR Bool := ifP p (.ok true) q
def andD (p q : Dm Bool) : Dm Bool := ifD p q (PQ (.ok false))
def orD (p q : Dm Bool) : Dm Bool := ifD p (PQ (.ok true)) q
theorem J_and {m n : M Bool} {d d2 : Dm Bool} (h : JE G L m d) (h2 : JE G L n d2) : JE G L (mand m n) (andD d d2) := J_if h h2 (J_ret rfl)
theorem J_or {m n : M Bool} {d d2 : Dm Bool} (h : JE G L m d) (h2 : JE G L n d2) : JE G L (mor m n) (orD d d2) := J_if h (J_ret rfl) h2
theorem J_andP {m n : M Bool} {d d2 : PR Bool} (h : JE G L m (PQ d)) (h2 : JE G L n (PQ d2)) : JE G L (mand m n) (PQ (andP d d2)) := J_ifP h h2 (J_ret rfl)
theorem J_orP {m n : M Bool} {d d2 : PR Bool} (h : JE G L m (PQ d)) (h2 : JE G L n (PQ d2)) : JE G L (mor m n) (PQ (orP d d2)) := J_ifP h (J_ret rfl) h2
def vandP (p q : PR PyData) : PR PyData := ifP (tstP p) q (.ok (.bool false))
def vorP (p q : PR PyData) : PR PyData := ifP (tstP p) (.ok (.bool true)) q
def vandD (p q : Dm PyData) : Dm PyData := ifD (tstD p) q (PQ (.ok (.bool false)))
def vorD (p q : Dm PyData) : Dm PyData := ifD (tstD p) (PQ (.ok (.bool true))) q
def vnotP (p : PR PyData) : PR PyData := (notP (tstP p)).bind fun b => .ok (.bool b)
def vnotD (p : Dm PyData) : Dm PyData := bD (notD (tstD p)) fun b => PQ (.ok (.bool b))
theorem bad_bind {α β : Type} (f : α → M β) (en : En) : bnd (ZD.fail : M α) f en = .bad := rfl
theorem vand_eq (m n : M PyData) : vand m n = mif (tst m) n (ret (.bool false)) := by
  funext en
  unfold vand mif tst bnd
  cases m en with
  | ok a e => cases a <;> rfl
  | err c e => rfl
  | bad => rfl
theorem vor_eq (m n : M PyData) : vor m n = mif (tst m) (ret (.bool true)) n := by
  funext en
  unfold vor mif tst bnd
  cases m en with
  | ok a e => cases a <;> rfl
  | err c e => rfl
  | bad => rfl
theorem vnot_eq (m : M PyData) : vnot m = bnd (mnot (tst m)) fun b => ret (.bool b) := by
  funext en
  unfold vnot mnot tst bnd
  cases m en with
  | ok a e => cases a <;> rfl
  | err c e => rfl
  | bad => rfl
theorem J_vand {m n : M PyData} {d d2 : Dm PyData} (h : JE G L m d) (h2 : JE G L n d2) : JE G L (vand m n) (vandD d d2) := by rw [vand_eq]; exact J_if (J_tst h) h2 (J_ret rfl)
theorem J_vor {m n : M PyData} {d d2 : Dm PyData} (h : JE G L m d) (h2 : JE G L n d2) : JE G L (vor m n) (vorD d d2) := by rw [vor_eq]; exact J_if (J_tst h) (J_ret rfl) h2
theorem J_vandP {m n : M PyData} {d d2 : PR PyData} (h : JE G L m (PQ d)) (h2 : JE G L n (PQ d2)) : JE G L (vand m n) (PQ (vandP d d2)) := by rw [vand_eq]; exact J_ifP (J_tstP h) h2 (J_ret rfl)
theorem J_vorP {m n : M PyData} {d d2 : PR PyData} (h : JE G L m (PQ d)) (h2 : JE G L n (PQ d2)) : JE G L (vor m n) (PQ (vorP d d2)) := by rw [vor_eq]; exact J_ifP (J_tstP h) (J_ret rfl) h2
theorem J_vnot {m : M PyData} {d : Dm PyData} (h : JE G L m d) : JE G L (vnot m) (vnotD d) := by rw [vnot_eq]; exact J_bnd (J_not (J_tst h)) fun b x hx => by subst hx; exact J_ret rfl
theorem J_vnotP {m : M PyData} {d : PR PyData} (h : JE G L m (PQ d)) : JE G L (vnot m) (PQ (vnotP d)) := by
  rw [vnot_eq]; unfold vnotP; rw [pq_bind]
  exact J_bnd (J_notP (J_tstP h)) fun b x hx => by subst hx; exact J_ret rfl

/-! ### argument lists, displays -/
def aconsP (p : PR PyData) (ps : PR (List PyData)) : PR (List PyData) := p.bind fun a => ps.bind fun as => .ok (a :: as)
def aconsD (p : Dm PyData) (ps : Dm (List PyData)) : Dm (List PyData) := bD p fun a => bD ps fun as => PQ (.ok (a :: as))
theorem pq_acons (p : PR PyData) (ps : PR (List PyData)) : PQ (aconsP p ps) = aconsD (PQ p) (PQ ps) := by unfold aconsP aconsD; simp only [pq_bind]
theorem J_nil : JE G L manil (PQ (.ok [])) := J_ret rfl
theorem J_cons {m : M PyData} {ms : M (List PyData)} {d : Dm PyData} {ds : Dm (List PyData)} (h : JE G L m d) (h2 : JE G L ms ds) : JE G L (macons m ms) (aconsD d ds) := J_bnd h fun b x hx => by
  subst hx
  exact J_bnd h2 fun b x hx => by subst hx; exact J_ret rfl
theorem J_consP {m : M PyData} {ms : M (List PyData)} {d : PR PyData} {ds : PR (List PyData)} (h : JE G L m (PQ d)) (h2 : JE G L ms (PQ ds)) : JE G L (macons m ms) (PQ (aconsP d ds)) := by rw [pq_acons]; exact J_cons h h2
def tupF (ds : List PyData) : PR PyData := if ds.length ≤ 1000 then .ok (.tuple ds) else .bad
def lstF (ds : List PyData) : PR PyData := if ds.length ≤ 1000 then .ok (.list ds) else .bad
theorem J_tup {ms : M (List PyData)} {ds : Dm (List PyData)} (h : JE G L ms ds) : JE G L (mtup ms) (bD ds fun ds => PQ (tupF ds)) := J_bnd h fun b x hx => by
  subst hx
  unfold tupF
  by_cases hl : x.length ≤ 1000
  · simp only [hl, if_true]; exact J_ret rfl
  · simp only [hl, if_false]; exact J_bad
theorem J_tupP {ms : M (List PyData)} {ds : PR (List PyData)} (h : JE G L ms (PQ ds)) : JE G L (mtup ms) (PQ (ds.bind tupF)) := by rw [pq_bind]; exact J_tup h
theorem J_lst {ms : M (List PyData)} {ds : Dm (List PyData)} (h : JE G L ms ds) : J G L VL (mlst ms) (bD ds fun ds => PQ (lstF ds)) := J_bnd h fun b x hx => by
  subst hx
  unfold lstF
  by_cases hl : x.length ≤ 1000
  · simp only [hl, if_true]; exact J_ret ⟨rfl, _, rfl⟩
  · simp only [hl, if_false]; exact J_bad
theorem J_lstP {ms : M (List PyData)} {ds : PR (List PyData)} (h : JE G L ms (PQ ds)) : J G L VL (mlst ms) (PQ (ds.bind lstF)) := by rw [pq_bind]; exact J_lst h
def kdixF (kvs : List (Str × PyData)) : PyData → PR PyData
  | .str x => (match kvs.lookup x with
    | some d => .ok d
    | none => .bad)
  | _ => .bad
/-! ### cuts -/
def posF : PyData → PR (Option Int)
  | .int i => .ok (some i)
  | _ => .bad
theorem J_pno : JE G L pno (PQ (.ok none)) := J_ret rfl
theorem J_pso {p : M Od} {d : Dm PyData} (h : JO G L N p d) : JE G L (pso p) (bD d fun a => PQ (posF a)) := fun en Qd Ed Q E he hd hq hE => wq_bnd (h en _ Ed _ E he hd (fun b hb x en1 hl _ he1 hf => by
    cases b with
    | int i => exact wq_eq (a := some i) (en1 := en1) (by simp only [hl]) (hq _ hb _ en1 rfl he1 hf)
    | _ => exact hb.elim) hE)
theorem J_psoP {p : M Od} {d : PR PyData} (h : JO G L N p (PQ d)) : JE G L (pso p) (PQ (d.bind posF)) := by rw [pq_bind]; exact J_pso h
def slcP (ox : Out → PR PyData) (p : PR PyData) (l u : PR (Option Int)) : PR PyData := p.bind fun a => l.bind fun lo => u.bind fun hi => ox (oSl lo hi a)
def slcD (ox : Out → PR PyData) (p : Dm PyData) (l u : Dm (Option Int)) : Dm PyData := bD p fun a => bD l fun lo => bD u fun hi => PQ (ox (oSl lo hi a))
theorem pq_slc (ox : Out → PR PyData) (p : PR PyData) (l u : PR (Option Int)) : PQ (slcP ox p l u) = slcD ox (PQ p) (PQ l) (PQ u) := by unfold slcP slcD; simp only [pq_bind]
theorem J_slc {V : Vl → PyData → Prop} {ox : Out → PR PyData} {p : M Od} {l u : M (Option Int)} {d : Dm PyData} {dl du : Dm (Option Int)} (ov : OutV V ox) (h : JO G L N p d) (hl : JE G L2 l dl) (hu : JE G L2 u du) (hn : ∀ j ∈ L2, j ∉ N) (hs : ∀ j ∈ L2, j ∈ L) : J G L V (mslice p l u) (slcD ox d dl du) :=
  fun en Qd Ed Q E he hd hq hE => wq_bnd (h en _ Ed _ E he hd (fun b hb x en1 hk hx he1 hf => wq_bnd (hl en1 _ Ed _ E he1 hb (fun lo hlo x2 en2 e2 he2 hf2 => wq_bnd (hu en2 _ Ed _ E he2 hlo (fun hi hhi x3 en3 e3 he3 hf3 => by
    subst e2 e3
    have z := ov G L (oSl x2 x3 b) en3 Qd Ed Q E he3 hhi (fun b2 hb2 x2 en3 hv2 he3 hf4 => hq b2 hb2 x2 en3 hv2 he3 (((hf.trans (hf2.mono hs)).trans (hf3.mono hs)).trans hf4)) hE
    have l1 := look_fr (look_fr hk hx hf2 hn) hx hf3 hn
    unfold WQ
    simp only [l1]
    exact z) hE)) hE)) hE)
theorem J_slcP {V : Vl → PyData → Prop} {ox : Out → PR PyData} {p : M Od} {l u : M (Option Int)} {d : PR PyData} {dl du : PR (Option Int)} (ov : OutV V ox) (h : JO G L N p (PQ d)) (hl : JE G L2 l (PQ dl)) (hu : JE G L2 u (PQ du)) (hn : ∀ j ∈ L2, j ∉ N) (hs : ∀ j ∈ L2, j ∈ L) : J G L V (mslice p l u) (PQ (slcP ox d dl du)) := by
  rw [pq_slc]; exact J_slc ov h hl hu hn hs
end
end ZP

namespace ZP
open PySem ZD
section
variable {α β γ X Y R σ : Type} {G G' G0 G1 : List PV} {L L' L2 N N2 vs : List Nat} {en en1 en' : En} {i : Nat}
/-! ### what is walked over -/
def seqF : PyData → PR (List PyData)
  | .list ds => .ok ds
  | .tuple ds => .ok ds
  | .str x => .ok (signs x)
  | _ => .bad
def rng1F : PyData → PR (List PyData)
  | .int n => if n < 2 ^ 62 ∧ -(2 ^ 62) ≤ n then .ok (rngL 0 n.toNat) else .bad
  | _ => .bad
def rng2F (d e : PyData) : PR (List PyData) := match d, e with
  | .int i, .int j => if i < 2 ^ 62 ∧ -(2 ^ 62) ≤ i ∧ j < 2 ^ 62 ∧ -(2 ^ 62) ≤ j then .ok (rngL i (j - i).toNat) else .bad
  | _, _ => .bad
def enumF : PyData → PR (List PyData)
  | .list ds => .ok (enumD ds)
  | .tuple ds => .ok (enumD ds)
  | _ => .bad
def revF : PyData → PR (List PyData)
  | .list ds => .ok ds.reverse
  | .tuple ds => .ok ds.reverse
  | _ => .bad
theorem J_of {m : M PyData} {f : PyData → M β} {d : Dm PyData} {g : PyData → PR β} (h : JE G L m d) (k : ∀ a, JE G L (f a) (PQ (g a))) : JE G L (bnd m f) (bD d fun a => PQ (g a)) := J_bnd h fun b x hx => by subst hx; exact k x
theorem J_ofP {m : M PyData} {f : PyData → M β} {d : PR PyData} {g : PyData → PR β} (h : JE G L m (PQ d)) (k : ∀ a, JE G L (f a) (PQ (g a))) : JE G L (bnd m f) (PQ (d.bind g)) := by rw [pq_bind]; exact J_of h k
theorem k_seq (a : PyData) : JE G L ((fun d => match d with
  | .list ds => ret ds
  | .tuple ds => ret ds
  | .str x => ret (signs x)
  | _ => ZD.fail : PyData → M (List PyData)) a) (PQ (seqF a)) := by cases a <;> first | exact J_ret rfl | exact J_bad
theorem J_seq {m : M PyData} {d : Dm PyData} (h : JE G L m d) : JE G L (seqM m) (bD d fun a => PQ (seqF a)) := J_of h k_seq
theorem J_seqP {m : M PyData} {d : PR PyData} (h : JE G L m (PQ d)) : JE G L (seqM m) (PQ (d.bind seqF)) := J_ofP h k_seq
theorem k_rng1 (a : PyData) : JE G L ((fun d => match d with
  | .int n => if n < 2 ^ 62 ∧ -(2 ^ 62) ≤ n then ret (rngL 0 n.toNat) else ZD.fail
  | _ => ZD.fail : PyData → M (List PyData)) a) (PQ (rng1F a)) := by
  cases a with
  | int n =>
    dsimp only [rng1F]
    split
    · exact J_ret rfl
    · exact J_bad
  | _ => exact J_bad
theorem J_rng1 {m : M PyData} {d : Dm PyData} (h : JE G L m d) : JE G L (rngM1 m) (bD d fun a => PQ (rng1F a)) := J_of h k_rng1
theorem J_rng1P {m : M PyData} {d : PR PyData} (h : JE G L m (PQ d)) : JE G L (rngM1 m) (PQ (d.bind rng1F)) := J_ofP h k_rng1
theorem k_rng2 (a b : PyData) : JE G L ((match a, b with
  | .int i, .int j => if i < 2 ^ 62 ∧ -(2 ^ 62) ≤ i ∧ j < 2 ^ 62 ∧ -(2 ^ 62) ≤ j then ret (rngL i (j - i).toNat) else ZD.fail
  | _, _ => ZD.fail : M (List PyData))) (PQ (rng2F a b)) := by
  cases a with
  | int n =>
    cases b with
    | int k =>
      dsimp only [rng2F]
      split
      · exact J_ret rfl
      · exact J_bad
    | _ => exact J_bad
  | _ => exact J_bad
theorem J_rng2 {m n : M PyData} {d d2 : Dm PyData} (h : JE G L m d) (h2 : JE G L n d2) : JE G L (rngM2 m n) (bD d fun a => bD d2 fun b => PQ (rng2F a b)) := J_bnd h fun b x hx => by
  subst hx
  exact J_of h2 fun a => k_rng2 x a
theorem J_rng2P {m n : M PyData} {d d2 : PR PyData} (h : JE G L m (PQ d)) (h2 : JE G L n (PQ d2)) : JE G L (rngM2 m n) (PQ (d.bind fun a => d2.bind fun b => rng2F a b)) := by simp only [pq_bind]; exact J_rng2 h h2
theorem J_enum {m : M PyData} {d : Dm PyData} (h : JE G L m d) : JE G L (enumM m) (bD d fun a => PQ (enumF a)) := J_of h fun a => by cases a <;> first | exact J_ret rfl | exact J_bad
theorem J_enumP {m : M PyData} {d : PR PyData} (h : JE G L m (PQ d)) : JE G L (enumM m) (PQ (d.bind enumF)) := by rw [pq_bind]; exact J_enum h
theorem J_rev {m : M PyData} {d : Dm PyData} (h : JE G L m d) : JE G L (revM m) (bD d fun a => PQ (revF a)) := J_of h fun a => by cases a <;> first | exact J_ret rfl | exact J_bad
theorem J_revP {m : M PyData} {d : PR PyData} (h : JE G L m (PQ d)) : JE G L (revM m) (PQ (d.bind revF)) := by rw [pq_bind]; exact J_rev h
/-! ### ranges as rows, dicts -/
def rg1F (f : List PyData → Out) (ox : Out → PR PyData) : PyData → PR PyData
  | .int n => if rgB 0 n = true then ox (f (rngL 0 n.toNat)) else .bad
  | _ => .bad
def rg2F (f : List PyData → Out) (ox : Out → PR PyData) (d e : PyData) : PR PyData := match d, e with
  | .int i, .int j => if rgB i j = true then ox (f (rngL i (j - i).toNat)) else .bad
  | _, _ => .bad
theorem J_rg1 {V : Vl → PyData → Prop} {ox : Out → PR PyData} (ov : OutV V ox) {f : List PyData → Out} {m : M PyData} {d : Dm PyData} (h : JE G L m d) : J G L V (rg1 f m) (bD d fun a => PQ (rg1F f ox a)) := J_bnd h fun b x hx => by
  subst hx
  cases x with
  | int n =>
    by_cases hb : rgB 0 n = true
    · have z := ov G L (f (rngL 0 n.toNat))
      intro en Qd Ed Q E he hd hq hE
      unfold WQ
      simp only [hb, if_true]
      dsimp only [rg1F] at hd
      rw [if_pos hb] at hd
      exact z en Qd Ed Q E he hd hq hE
    · intro en Qd Ed Q E he hd hq hE
      dsimp only [rg1F] at hd
      rw [if_neg hb] at hd
      exact hd.elim
  | _ => exact J_bad
theorem J_rg1P {V : Vl → PyData → Prop} {ox : Out → PR PyData} (ov : OutV V ox) {f : List PyData → Out} {m : M PyData} {d : PR PyData} (h : JE G L m (PQ d)) : J G L V (rg1 f m) (PQ (d.bind (rg1F f ox))) := by rw [pq_bind]; exact J_rg1 ov h
theorem J_rg2 {V : Vl → PyData → Prop} {ox : Out → PR PyData} (ov : OutV V ox) {f : List PyData → Out} {m n : M PyData} {d d2 : Dm PyData} (h : JE G L m d) (h2 : JE G L n d2) : J G L V (rg2 f m n) (bD d fun a => bD d2 fun b => PQ (rg2F f ox a b)) := J_bnd h fun b x hx => by
  subst hx
  refine J_bnd h2 fun b y hy => ?_
  subst hy
  cases x with
  | int n =>
    cases y with
    | int k =>
      by_cases hb : rgB n k = true
      · have z := ov G L (f (rngL n (k - n).toNat))
        intro en Qd Ed Q E he hd hq hE
        unfold WQ
        simp only [hb, if_true]
        dsimp only [rg2F] at hd
        rw [if_pos hb] at hd
        exact z en Qd Ed Q E he hd hq hE
      · intro en Qd Ed Q E he hd hq hE
        dsimp only [rg2F] at hd
        rw [if_neg hb] at hd
        exact hd.elim
    | _ => exact J_bad
  | _ => exact J_bad
theorem J_rg2P {V : Vl → PyData → Prop} {ox : Out → PR PyData} (ov : OutV V ox) {f : List PyData → Out} {m n : M PyData} {d d2 : PR PyData} (h : JE G L m (PQ d)) (h2 : JE G L n (PQ d2)) : J G L V (rg2 f m n) (PQ (d.bind fun a => d2.bind fun b => rg2F f ox a b)) := by simp only [pq_bind]; exact J_rg2 ov h h2
theorem J_kdix {kvs : List (Str × PyData)} {q : M Od} {d : Dm PyData} (h : JO G L N q d) : JE G L (kdix kvs q) (b1 d (kdixF kvs)) := fun en Qd Ed Q E he hd hq hE => wq_bnd (h en _ Ed _ E he hd (fun b hb x en1 hl _ he1 hf => by
    unfold WQ
    simp only [hl]
    cases b with
    | str z =>
      dsimp only [kdixF] at hb
      cases hk : kvs.lookup z with
      | none => simp only [hk] at hb; exact hb.elim
      | some w => simp only [hk] at hb ⊢; exact hq _ hb _ _ rfl he1 hf
    | _ => exact hb.elim) hE)
theorem J_kdixP {kvs : List (Str × PyData)} {q : M Od} {d : PR PyData} (h : JO G L N q (PQ d)) : JE G L (kdix kvs q) (PQ (o1 d (kdixF kvs))) := by rw [pq_o1]; exact J_kdix h
def dispF (ks : List _root_.L2.Key) (ds : List PyData) : PR PyData := if ds.length = ks.length then .ok (.dict (mergeD [] ((ks.map keyD).zip ds))) else .bad
def alP : List (PR PyData) → PR (List PyData)
  | [] => .ok []
  | p :: ps => aconsP p (alP ps)
def alD : List (Dm PyData) → Dm (List PyData)
  | [] => PQ (.ok [])
  | p :: ps => aconsD p (alD ps)
theorem J_disp {ks : List _root_.L2.Key} {ms : List (M PyData)} {d : Dm (List PyData)} (h : JE G L (mlist ms) d) : J G L VK (mdisp ks ms) (bD d fun ds => PQ (dispF ks ds)) := J_bnd h fun b x hx => by
  subst hx
  unfold dispF
  by_cases hl : x.length = ks.length
  · simp only [hl, if_true]; exact J_ret ⟨rfl, _, rfl⟩
  · simp only [hl, if_false]; exact J_bad
theorem J_dispP {ks : List _root_.L2.Key} {ms : List (M PyData)} {d : PR (List PyData)} (h : JE G L (mlist ms) (PQ d)) : J G L VK (mdisp ks ms) (PQ (d.bind (dispF ks))) := by rw [pq_bind]; exact J_disp h

/-! ### places that are written -/
def notIo : Option PV → Bool
  | some (.io _) => false
  | some (.iov _) => false
  | some _ => true
  | none => false
def isPl : Option PV → Bool
  | some .pl => true
  | some (.shd _) => true
  | _ => false
def plAll (G : List PV) (vs : List Nat) : Bool := vs.all fun v => isPl G[v]?
def setPl (G : List PV) : List Nat → List PV
  | [] => G
  | v :: vs => (setPl G vs).set v .pl
def setSh (G : List PV) : List Nat → List PyData → List PV
  | i :: is, d :: ds => setSh (G.set i (.shd d)) is ds
  | _, _ => G
theorem er_masg (he : ER G en) (hn : notIo G[i]? = true) (x : Vl) : masg i x en = .ok .nx (en.set i (slOf x)) := by
  cases hg : G[i]? with
  | none => rw [hg] at hn; cases hn
  | some pv =>
    obtain ⟨s, hs, h⟩ := er_get he hg
    unfold masg
    rw [hs]
    cases s with
    | io d =>
      rw [hg] at hn
      cases pv with
      | any => exact absurd rfl (h d)
      | pl => rcases h with h | ⟨_, h⟩ <;> cases h
      | val d => rcases h with h | ⟨_, h⟩ <;> cases h
      | shd d => cases h
      | ownl d => cases h.1
      | ownd d => cases h.1
      | owv I => obtain ⟨_, _, h⟩ := h; cases h
      | iov I => cases hn
      | io d => cases hn
    | _ => rfl
theorem setPl_len : ∀ vs : List Nat, (setPl G vs).length = G.length
  | [] => rfl
  | v :: vs => by unfold setPl; rw [List.length_set, setPl_len vs]
theorem setPl_get : ∀ (vs : List Nat) (j : Nat), (j ∉ vs → (setPl G vs)[j]? = G[j]?) ∧ (j ∈ vs → ∀ p, (setPl G vs)[j]? = some p → p = .pl)
  | [], j => ⟨fun _ => rfl, fun h => nomatch h⟩
  | v :: vs, j => by
    obtain ⟨h1, h2⟩ := setPl_get vs j
    unfold setPl
    by_cases e : v = j
    · refine ⟨fun h => absurd (by rw [e]; exact List.mem_cons_self) h, fun _ p hp => ?_⟩
      have hl : v < (setPl G vs).length := by
        have q := (List.getElem?_eq_some_iff.mp hp).1
        rw [List.length_set] at q
        rw [e]; exact q
      rw [← e, List.getElem?_set_self hl] at hp
      exact (Option.some.inj hp).symm
    · rw [List.getElem?_set_ne e]
      exact ⟨fun h => h1 fun q => h (List.mem_cons_of_mem _ q), fun h => h2 ((List.mem_cons.mp h).resolve_left fun q => e q.symm)⟩
theorem er_wipe (he : ER G en) (hp : plAll G vs = true) : wipeable en vs = true ∧ ER (setPl G vs) (wipeE en vs) := by
  refine ⟨List.all_eq_true.mpr fun v hv => ?_, by rw [setPl_len, wipeE_len]; exact he.1, fun j p hj => ?_⟩
  · have h := List.all_eq_true.mp hp v hv
    cases hg : G[v]? with
    | none => rw [hg] at h; cases h
    | some pv =>
      rw [hg] at h
      obtain ⟨s, hs, hr⟩ := er_get he hg
      rw [hs]
      cases pv with
      | pl => rcases hr with rfl | ⟨_, rfl⟩ <;> rfl
      | shd d => cases hr; rfl
      | _ => cases h
  · have hl : j < en.length := by
      have q := (List.getElem?_eq_some_iff.mp hj).1
      rw [setPl_len, he.1] at q
      exact q
    by_cases e : j ∈ vs
    · have h1 := (setPl_get vs j).2 e p hj
      have hl' : j < (wipeE en vs).length := by rw [wipeE_len]; exact hl
      obtain ⟨h2, _⟩ := (wipeE_get en vs j).2 e _ (List.getElem?_eq_getElem hl')
      exact ⟨.no, by rw [List.getElem?_eq_getElem hl', h2], by rw [h1]; exact .inl rfl⟩
    · rw [(setPl_get vs j).1 e] at hj
      rw [(wipeE_get en vs j).1 e]
      exact he.2 j p hj
theorem er_rest (he : ER G en) (h' : ER (setPl G vs) en') : ER G (restE en en' vs) := by
  have ll : en'.length = en.length := by rw [← h'.1, setPl_len, he.1]
  refine ⟨by rw [restE_len, ll]; exact he.1, fun j p hj => ?_⟩
  have hl : j < en.length := by rw [← he.1]; exact (List.getElem?_eq_some_iff.mp hj).1
  by_cases e : j ∈ vs
  · have hl' : j < (restE en en' vs).length := by rw [restE_len, ll]; exact hl
    obtain ⟨h2, _⟩ := (restE_get en en' vs j).2 e _ (List.getElem?_eq_getElem hl')
    obtain ⟨s, hs, hr⟩ := he.2 j p hj
    rw [hs] at h2
    exact ⟨s, by rw [List.getElem?_eq_getElem hl', h2]; rfl, hr⟩
  · rw [(restE_get en en' vs j).1 e]
    exact h'.2 j p (by rw [(setPl_get vs j).1 e]; exact hj)
def J2 (G1 G0 : List PV) (L : List Nat) (V : X → β → Prop) (m : M X) (d : Dm β) : Prop :=
  ∀ (en : En) (Qd : β → Prop) (Ed : String → Prop) (Q : X → En → Prop) (E : String → En → Prop), ER G1 en → d Qd Ed →
    (∀ b, Qd b → ∀ x en', V x b → ER G0 en' → FR L en en' → Q x en') → (∀ c, Ed c → ∀ en', E c en') → WQ m en Q E
theorem J2_bnd {G2 : List PV} {V1 : X → β → Prop} {V2 : Y → γ → Prop} {m : M X} {d : Dm β} {f : X → M Y} {g : β → Dm γ} (h : J2 G1 G0 L V1 m d) (k : ∀ b x, V1 x b → J2 G0 G2 L V2 (f x) (g b)) : J2 G1 G2 L V2 (bnd m f) (bD d g) :=
  fun en Qd Ed Q E he hd hq hE => wq_bnd (h en _ Ed _ E he hd (fun b hb x en1 hv he1 hf => k b x hv en1 Qd Ed Q E he1 hb (fun b2 hb2 x2 en2 hv2 he2 hf2 => hq b2 hb2 x2 en2 hv2 he2 (hf.trans hf2)) hE) hE)
theorem J2_ret {V : X → β → Prop} {x : X} {b : β} (h : V x b) : J2 G G L V (ret x) (PQ (.ok b)) := fun en Qd Ed Q E he hd hq hE => hq b hd x en h he FR.refl
theorem J2_bad {V : X → β → Prop} {m : M X} : J2 G1 G0 L V m (PQ .bad) := fun _ _ _ _ _ _ h => h.elim
theorem J_blk {V : X → β → Prop} {m : M X} {d : Dm β} (hp : plAll G vs = true) (h : J2 (setPl G vs) (setPl G vs) (vs ++ L) V m d) : J G L V (blk vs m) (nD d) := fun en Qd Ed Q E he hd hq hE => by
  obtain ⟨w1, w2⟩ := er_wipe he hp
  have z := h (wipeE en vs) Qd (fun _ => False) (fun x e => Q x (restE en e vs)) (fun _ _ => False) w2 hd (fun b hb x e hv he' hf => hq b hb x _ hv (er_rest he he') fun j hj b2 hb2 => ?_) fun _ h => h.elim
  · unfold WQ blk
    unfold WQ at z
    simp only [w1, if_true]
    cases hm : m (wipeE en vs) with
    | ok a e => rw [hm] at z; exact z
    | err c e => rw [hm] at z; exact z.elim
    | bad => rw [hm] at z; exact z.elim
  · have ll : e.length = en.length := by rw [← he'.1, setPl_len, he.1]
    by_cases e' : j ∈ vs
    · have e2 : (restE en e vs)[j]? = en[j]? := by
        by_cases hl : j < en.length
        · have hl' : j < (restE en e vs).length := by rw [restE_len, ll]; exact hl
          obtain ⟨h2, _⟩ := (restE_get en e vs j).2 e' _ (List.getElem?_eq_getElem hl')
          rw [List.getElem?_eq_getElem hl', h2, List.getElem?_eq_getElem hl]
          rfl
        · rw [List.getElem?_eq_none (by rw [restE_len, ll]; omega), List.getElem?_eq_none (by omega)]
      simp only [look] at hb2 ⊢
      rw [e2]; exact hb2
    · have z := hf j (by simp [e', hj]) b2 (by simp only [look] at hb2 ⊢; rw [(wipeE_get en vs j).1 e']; exact hb2)
      simp only [look] at z ⊢
      rw [(restE_get en e vs j).1 e']; exact z

/-! ### comprehensions -/
def compP (f : PyData → PR (Option PyData)) : List PyData → PR (List PyData)
  | [] => .ok []
  | d :: ds => (f d).bind fun o => (compP f ds).bind fun ys => .ok (o.toList ++ ys)
def compD (f : PyData → Dm (Option PyData)) : List PyData → Dm (List PyData)
  | [] => PQ (.ok [])
  | d :: ds => bD (f d) fun o => bD (compD f ds) fun ys => PQ (.ok (o.toList ++ ys))
def allP (f : PyData → PR (Option PyData)) : List PyData → PR Bool
  | [] => .ok true
  | d :: ds => (f d).bind fun o => match o with
    | none => allP f ds
    | some (.bool true) => allP f ds
    | some (.bool false) => .ok false
    | _ => .bad
def anyP (f : PyData → PR (Option PyData)) : List PyData → PR Bool
  | [] => .ok false
  | d :: ds => (f d).bind fun o => match o with
    | none => anyP f ds
    | some (.bool false) => anyP f ds
    | some (.bool true) => .ok true
    | _ => .bad
theorem pq_comp (f : PyData → PR (Option PyData)) : ∀ ds, PQ (compP f ds) = compD (fun d => PQ (f d)) ds
  | [] => rfl
  | d :: ds => by unfold compP compD; simp only [pq_bind, pq_comp f ds]
theorem J_compL {vs : List Nat} {f : TgF} {t : M Bool} {e : M PyData} {db : PyData → Dm (Option PyData)} (h : ∀ d, J2 G G L Eq (stepC vs f t e d) (db d)) : ∀ ds, J2 G G L Eq (compL vs f t e ds) (compD db ds)
  | [] => J2_ret rfl
  | d :: ds => by
    have e1 : compL vs f t e (d :: ds) = bnd (stepC vs f t e d) (fun oy => bnd (compL vs f t e ds) fun ys => ret (oy.toList ++ ys)) := funext fun en => compL_cons vs f t e d ds en
    rw [e1]
    refine J2_bnd (h d) fun b x hx => ?_
    subst hx
    refine J2_bnd (J_compL h ds) fun b y hy => ?_
    subst hy
    exact J2_ret rfl
theorem J_allL {vs : List Nat} {f : TgF} {t : M Bool} {e : M PyData} {db : PyData → PR (Option PyData)} (h : ∀ d, J2 G G L Eq (stepC vs f t e d) (PQ (db d))) : ∀ ds, J2 G G L Eq (allL vs f t e ds) (PQ (allP db ds))
  | [] => J2_ret rfl
  | d :: ds => by
    unfold allL allP
    rw [pq_bind]
    refine J2_bnd (h d) fun b x hx => ?_
    subst hx
    cases x with
    | none => exact J_allL h ds
    | some y =>
      cases y with
      | bool c =>
        cases c with
        | true => exact J_allL h ds
        | false => exact J2_ret rfl
      | _ => exact J2_bad
theorem J_anyL {vs : List Nat} {f : TgF} {t : M Bool} {e : M PyData} {db : PyData → PR (Option PyData)} (h : ∀ d, J2 G G L Eq (stepC vs f t e d) (PQ (db d))) : ∀ ds, J2 G G L Eq (anyL vs f t e ds) (PQ (anyP db ds))
  | [] => J2_ret rfl
  | d :: ds => by
    unfold anyL anyP
    rw [pq_bind]
    refine J2_bnd (h d) fun b x hx => ?_
    subst hx
    cases x with
    | none => exact J_anyL h ds
    | some y =>
      cases y with
      | bool c =>
        cases c with
        | false => exact J_anyL h ds
        | true => exact J2_ret rfl
      | _ => exact J2_bad
def mcompF (f : PyData → PR (Option PyData)) (ds : List PyData) : PR PyData := if ds.length ≤ 1000000 then (compP f ds).noe.bind fun ys => .ok (.list ys) else .bad
def mcompG (f : PyData → Dm (Option PyData)) (ds : List PyData) : Dm PyData := if ds.length ≤ 1000000 then bD (nD (compD f ds)) fun ys => PQ (.ok (.list ys)) else PQ .bad
def mcompP (it : PR (List PyData)) (f : PyData → PR (Option PyData)) : PR PyData := it.bind (mcompF f)
def mcompD (it : Dm (List PyData)) (f : PyData → Dm (Option PyData)) : Dm PyData := bD it (mcompG f)
theorem pq_mcomp (it : PR (List PyData)) (f : PyData → PR (Option PyData)) : PQ (mcompP it f) = mcompD (PQ it) fun d => PQ (f d) := by
  unfold mcompP mcompD mcompF mcompG
  rw [pq_bind]
  congr; funext ds
  split
  · rw [pq_bind, pq_noe, pq_comp]
  · rfl
theorem J_comp {it : M (List PyData)} {f : TgF} {t : M Bool} {e : M PyData} {dit : Dm (List PyData)} {db : PyData → Dm (Option PyData)} (hit : JE G L it dit) (hp : plAll G vs = true) (hb : ∀ d, J2 (setPl G vs) (setPl G vs) (vs ++ L) Eq (stepC vs f t e d) (db d)) : J G L VL (mcomp vs it f t e) (mcompD dit db) := J_bnd hit fun b x hx => by
  subst hx
  unfold mcompG
  by_cases hl : x.length ≤ 1000000
  · simp only [hl, if_true]
    refine J_bnd (J_blk hp (J_compL hb x)) fun b y hy => ?_
    subst hy
    exact J_ret ⟨rfl, _, rfl⟩
  · simp only [hl, if_false]; exact J_bad
theorem J_compP {it : M (List PyData)} {f : TgF} {t : M Bool} {e : M PyData} {dit : PR (List PyData)} {db : PyData → PR (Option PyData)} (hit : JE G L it (PQ dit)) (hp : plAll G vs = true) (hb : ∀ d, J2 (setPl G vs) (setPl G vs) (vs ++ L) Eq (stepC vs f t e d) (PQ (db d))) : J G L VL (mcomp vs it f t e) (PQ (mcompP dit db)) := by
  rw [pq_mcomp]; exact J_comp hit hp hb
def mallP (it : PR (List PyData)) (f : PyData → PR (Option PyData)) : PR PyData := it.bind fun ds => (allP f ds).noe.bind fun b => .ok (.bool b)
def manyP (it : PR (List PyData)) (f : PyData → PR (Option PyData)) : PR PyData := it.bind fun ds => (anyP f ds).noe.bind fun b => .ok (.bool b)
theorem J_allP {it : M (List PyData)} {f : TgF} {t : M Bool} {e : M PyData} {dit : PR (List PyData)} {db : PyData → PR (Option PyData)} (hit : JE G L it (PQ dit)) (hp : plAll G vs = true) (hb : ∀ d, J2 (setPl G vs) (setPl G vs) (vs ++ L) Eq (stepC vs f t e d) (PQ (db d))) : JE G L (mall vs it f t e) (PQ (mallP dit db)) := by
  unfold mallP
  rw [pq_bind]
  refine J_bnd hit fun b x hx => ?_
  subst hx
  rw [pq_bind, pq_noe]
  exact J_bnd (J_blk hp (J_allL hb x)) fun b y hy => by subst hy; exact J_ret rfl
theorem J_anyP {it : M (List PyData)} {f : TgF} {t : M Bool} {e : M PyData} {dit : PR (List PyData)} {db : PyData → PR (Option PyData)} (hit : JE G L it (PQ dit)) (hp : plAll G vs = true) (hb : ∀ d, J2 (setPl G vs) (setPl G vs) (vs ++ L) Eq (stepC vs f t e d) (PQ (db d))) : JE G L (many vs it f t e) (PQ (manyP dit db)) := by
  unfold manyP
  rw [pq_bind]
  refine J_bnd hit fun b x hx => ?_
  subst hx
  rw [pq_bind, pq_noe]
  exact J_bnd (J_blk hp (J_anyL hb x)) fun b y hy => by subst hy; exact J_ret rfl
/-! one turn -/
def stP (t : PR Bool) (e : PR PyData) : PR (Option PyData) := t.bind fun b => if b = true then e.bind fun y => .ok (some y) else .ok none
def st1 (e : PR PyData) : PR (Option PyData) := e.bind fun y => .ok (some y)
def stD (t : Dm Bool) (e : Dm PyData) : Dm (Option PyData) := bD t fun b => if b = true then bD e fun y => PQ (.ok (some y)) else PQ (.ok none)
def sd1 (e : Dm PyData) : Dm (Option PyData) := bD e fun y => PQ (.ok (some y))
theorem pq_st (t : PR Bool) (e : PR PyData) : PQ (stP t e) = stD (PQ t) (PQ e) := by
  unfold stP stD
  rw [pq_bind]
  congr; funext b
  split
  · rw [pq_bind]
  · rfl
theorem pq_st1 (e : PR PyData) : PQ (st1 e) = sd1 (PQ e) := pq_bind _ _
theorem sd1_eq (e : Dm PyData) : sd1 e = stD (PQ (.ok true)) e := rfl
def stT (vs : List Nat) (t : M Bool) (e : M PyData) : M (Option PyData) := bnd t fun b => if b = true then bnd e (fun y => bnd (wp vs) fun _ => ret (some y)) else bnd (wp vs) fun _ => ret none
theorem wq_wp {Q : α → En → Prop} {E : String → En → Prop} {a : α} (he : ER G en) (hp : plAll G vs = true) (hv : ∀ v ∈ vs, v ∈ L) (hq : ∀ en', ER (setPl G vs) en' → FR L en en' → Q a en') : WQ (bnd (wp vs) fun _ => ret a) en Q E := by
  obtain ⟨w1, w2⟩ := er_wipe he hp
  refine wq_eq (a := a) (en1 := wipeE en vs) ?_ (hq _ w2 (fr_eq fun j hj => (wipeE_get en vs j).1 fun q => hj (hv j q)))
  unfold bnd wp
  simp only [w1, if_true]
  rfl
theorem J2_tail {t : M Bool} {e : M PyData} {dt : Dm Bool} {de : Dm PyData} (hp : plAll G1 vs = true) (hG : setPl G1 vs = G0) (hv : ∀ v ∈ vs, v ∈ L) (ht : JE G1 L t dt) (he : JE G1 L e de) : J2 G1 G0 L Eq (stT vs t e) (stD dt de) := fun en Qd Ed Q E hE hd hq hX => by
  subst hG
  refine wq_bnd (ht en _ Ed _ E hE hd (fun b hb x en1 hx he1 hf => ?_) fun c hc en' _ => hX c hc en')
  subst hx
  cases x with
  | true => exact wq_bnd (he en1 _ Ed _ E he1 hb (fun b hb y en2 hy he2 hf2 => wq_wp he2 hp hv fun en3 he3 hf3 => by subst hy; exact hq _ hb _ en3 rfl he3 ((hf.trans hf2).trans hf3)) fun c hc en' _ => hX c hc en')
  | false => exact wq_wp he1 hp hv fun en3 he3 hf3 => hq _ hb _ en3 rfl he3 (hf.trans hf3)
theorem J2_tail1 {e : M PyData} {de : Dm PyData} (hp : plAll G1 vs = true) (hG : setPl G1 vs = G0) (hv : ∀ v ∈ vs, v ∈ L) (he : JE G1 L e de) : J2 G1 G0 L Eq (stT vs mtrue e) (sd1 de) := J2_tail hp hG hv (J_ret rfl) he
theorem J2_tailP {t : M Bool} {e : M PyData} {dt : PR Bool} {de : PR PyData} (hp : plAll G1 vs = true) (hG : setPl G1 vs = G0) (hv : ∀ v ∈ vs, v ∈ L) (ht : JE G1 L t (PQ dt)) (he : JE G1 L e (PQ de)) : J2 G1 G0 L Eq (stT vs t e) (PQ (stP dt de)) := by rw [pq_st]; exact J2_tail hp hG hv ht he
theorem J2_tail1P {e : M PyData} {de : PR PyData} (hp : plAll G1 vs = true) (hG : setPl G1 vs = G0) (hv : ∀ v ∈ vs, v ∈ L) (he : JE G1 L e (PQ de)) : J2 G1 G0 L Eq (stT vs mtrue e) (PQ (st1 de)) := by rw [pq_st1]; exact J2_tail1 hp hG hv he
theorem bnd_ok' {α β : Type} {m : M α} {f : α → M β} {en en1 : En} {a : α} (h : m en = .ok a en1) : bnd m f en = f a en1 := by unfold bnd; rw [h]
theorem step_eq (vs : List Nat) (f : TgF) (t : M Bool) (e : M PyData) (d : PyData) (en : En) (h : f d en = .ok .nx en1) : stepC vs f t e d en = stT vs t e en1 := by
  unfold stepC
  rw [bnd_ok' h]
  rfl
theorem J_stepN {t : M Bool} {e : M PyData} {d : PyData} {db : Dm (Option PyData)} (hn : notIo G[i]? = true) (hv : i ∈ L) (h : J2 (G.set i (.shd d)) G L Eq (stT [i] t e) db) : J2 G G L Eq (stepC [i] (tgN i) t e d) db := fun en Qd Ed Q E he hd hq hE => by
  have z := h (en.set i (.sh d)) Qd Ed Q E (er_set he rfl) hd (fun b hb x en' hv' he' hf => hq b hb x en' hv' he' ((fr_eq (L := L) fun j hj => List.getElem?_set_ne fun (q : i = j) => hj (q ▸ hv)).trans hf)) hE
  unfold WQ at z ⊢
  rw [step_eq [i] (tgN i) t e d en (er_masg he hn (.sh d))]
  exact z
/-- a, b = d -/
def tgs : List Nat → List PyData → M Fl
  | [] => tgnil
  | i :: is => tgcons (tgN i) (tgs is)
def unF (n : Nat) : PyData → PR (List PyData)
  | .tuple ds => if ds.length = n then .ok ds else .bad
  | .list ds => if ds.length = n then .ok ds else .bad
  | _ => .bad
def nioAll (G : List PV) (vs : List Nat) : Bool := vs.all fun v => notIo G[v]?
theorem notIo_set {pv : PV} {j : Nat} (h : notIo G[j]? = true) (hp : notIo (some pv) = true) : notIo (G.set i pv)[j]? = true := by
  by_cases e : i = j
  · subst e
    have hl : i < G.length := by
      cases hg : G[i]? with
      | none => rw [hg] at h; cases h
      | some p => exact (List.getElem?_eq_some_iff.mp hg).1
    rw [List.getElem?_set_self hl]; exact hp
  · rw [List.getElem?_set_ne e]; exact h
theorem er_tgs : ∀ (is : List Nat) (ds : List PyData) (G : List PV) (en : En), ER G en → nioAll G is = true → ds.length = is.length → ∃ en', tgs is ds en = .ok .nx en' ∧ ER (setSh G is ds) en' ∧ ∀ j, j ∉ is → en'[j]? = en[j]?
  | [], [], G, en, he, _, _ => ⟨en, rfl, he, fun _ _ => rfl⟩
  | [], _ :: _, _, _, _, _, h => by cases h
  | _ :: _, [], _, _, _, _, h => by cases h
  | i :: is, d :: ds, G, en, he, hn, hl => by
    unfold nioAll at hn
    rw [List.all_cons, Bool.and_eq_true] at hn
    have e1 := er_masg he hn.1 (.sh d)
    obtain ⟨en', h1, h2, h3⟩ := er_tgs is ds (G.set i (.shd d)) (en.set i (.sh d)) (er_set he rfl) (List.all_eq_true.mpr fun v hv => notIo_set (List.all_eq_true.mp hn.2 v hv) rfl) (Nat.succ.inj hl)
    refine ⟨en', ?_, h2, fun j hj => (h3 j fun q => hj (List.mem_cons_of_mem _ q)).trans (List.getElem?_set_ne fun (q : i = j) => hj (q ▸ List.mem_cons_self))⟩
    show bnd (tgN i d) _ en = _
    have e2 : tgN i d en = .ok .nx (en.set i (.sh d)) := e1
    rw [bnd_ok' e2]
    exact h1
def sdT (n : Nat) (d : PyData) (k : List PyData → Dm (Option PyData)) : Dm (Option PyData) := bD (PQ (unF n d)) k
def spT (n : Nat) (d : PyData) (k : List PyData → PR (Option PyData)) : PR (Option PyData) := (unF n d).bind k
theorem un_cases (n : Nat) (d : PyData) : (∃ ds, ds.length = n ∧ unF n d = .ok ds ∧ ∀ g : List PyData → M Fl, tgtup n g d = g ds) ∨ unF n d = .bad := by
  cases d with
  | tuple ds =>
    by_cases h : ds.length = n
    · exact .inl ⟨ds, h, if_pos h, fun g => if_pos h⟩
    · exact .inr (if_neg h)
  | list ds =>
    by_cases h : ds.length = n
    · exact .inl ⟨ds, h, if_pos h, fun g => if_pos h⟩
    · exact .inr (if_neg h)
  | _ => exact .inr rfl
theorem J_stepT {is : List Nat} {n : Nat} {t : M Bool} {e : M PyData} {d : PyData} {db : List PyData → Dm (Option PyData)} (hn : nioAll G is = true) (hl : is.length = n) (hv : ∀ i ∈ is, i ∈ L) (h : ∀ ds, ds.length = n → J2 (setSh G is ds) G L Eq (stT is t e) (db ds)) : J2 G G L Eq (stepC is (tgtup n (tgs is)) t e d) (sdT n d db) := fun en Qd Ed Q E he hd hq hE => by
  unfold sdT bD at hd
  rcases un_cases n d with ⟨ds, h1, h2, h3⟩ | h1
  · rw [h2] at hd
    obtain ⟨en1, k1, k2, k3⟩ := er_tgs is ds G en he hn (h1.trans hl.symm)
    have z := h ds h1 en1 Qd Ed Q E k2 hd (fun b hb x en' hv' he' hf => hq b hb x en' hv' he' ((fr_eq (L := L) fun j hj => k3 j fun q => hj (hv j q)).trans hf)) hE
    unfold WQ at z ⊢
    rw [step_eq is (tgtup n (tgs is)) t e d en (by rw [h3]; exact k1)]
    exact z
  · rw [h1] at hd; exact hd.elim
theorem J_stepTP {is : List Nat} {n : Nat} {t : M Bool} {e : M PyData} {d : PyData} {db : List PyData → PR (Option PyData)} (hn : nioAll G is = true) (hl : is.length = n) (hv : ∀ i ∈ is, i ∈ L) (h : ∀ ds, ds.length = n → J2 (setSh G is ds) G L Eq (stT is t e) (PQ (db ds))) : J2 G G L Eq (stepC is (tgtup n (tgs is)) t e d) (PQ (spT n d db)) := by
  unfold spT
  rw [pq_bind]
  exact J_stepT hn hl hv h

/-! ### calls -/
/-- what a def does, by its own function -/
def FnD (V : Vl → PyData → Prop) (np : Nat) (F : Fn) (A : List PyData → Dm PyData) : Prop := ∀ (ds : List PyData) (Qd : PyData → Prop), A ds Qd (fun _ => False) → ds.length = np ∧ ∃ x en b, F (ds.map .sh) = .ok x en ∧ V x b ∧ Qd b
def FnI (V : Vl → PyData → Prop) (I : PyData → Prop) (np : Nat) (F : Fn) (A : List PyData → Dm PyData) : Prop := ∀ (d : PyData) (ds : List PyData) (Qd : PyData → Prop), I d → A ds Qd (fun _ => False) → ds.length + 1 = np ∧ ∃ x en b d', F (.io d :: ds.map .sh) = .ok x (.io d' :: en) ∧ V x b ∧ I d' ∧ Qd b
/-- a def that makes the draws -/
def FnW (I : PyData → Prop) (np : Nat) (F : Fn) (A : List PyData → Dm Unit) : Prop := ∀ (ds : List PyData) (Qd : Unit → Prop), A ds Qd (fun _ => False) → ds.length = np ∧ ∃ d en, F (ds.map .sh) = .ok (.ow d) en ∧ I d ∧ Qd ()
theorem J_call {V : Vl → PyData → Prop} {np : Nat} {F : Fn} {A : List PyData → Dm PyData} {ms : M (List PyData)} {da : Dm (List PyData)} (hF : FnD V np F A) (h : JE G L ms da) : J G L V (mcall np F ms) (bD da fun ds => nD (A ds)) :=
  fun en Qd Ed Q E he hd hq hE => wq_bnd (h en _ Ed _ E he hd (fun ds hb x en1 hx he1 hf => by
    subst hx
    obtain ⟨h1, y, e, b, h2, h3, h4⟩ := hF x Qd hb
    refine wq_eq (a := y) (en1 := en1) ?_ (hq b h4 y en1 h3 he1 hf)
    rw [if_pos h1, h2]) hE)
theorem J_callP {V : Vl → PyData → Prop} {np : Nat} {F : Fn} {A : List PyData → PR PyData} {ms : M (List PyData)} {da : PR (List PyData)} (hF : FnD V np F fun ds => PQ (A ds)) (h : JE G L ms (PQ da)) : J G L V (mcall np F ms) (PQ (da.bind fun ds => (A ds).noe)) := by
  rw [pq_bind]; simp only [pq_noe]; exact J_call hF h
theorem J_callW {I : PyData → Prop} {np : Nat} {F : Fn} {A : List PyData → Dm Unit} {ms : M (List PyData)} {da : Dm (List PyData)} (hF : FnW I np F A) (h : JE G L ms da) : J G L (fun x (_ : Unit) => ∃ d, x = .ow d ∧ I d) (mcall np F ms) (bD da fun ds => nD (A ds)) :=
  fun en Qd Ed Q E he hd hq hE => wq_bnd (h en _ Ed _ E he hd (fun ds hb x en1 hx he1 hf => by
    subst hx
    obtain ⟨h1, d, e, h2, h3, h4⟩ := hF x Qd hb
    refine wq_eq (a := Vl.ow d) (en1 := en1) ?_ (hq () h4 _ en1 ⟨d, rfl, h3⟩ he1 hf)
    rw [if_pos h1, h2]) hE)
def isDr (I : PyData → Prop) (pv : PV) : Prop := pv = .iov I ∨ pv = .owv I
theorem J_callI {V : Vl → PyData → Prop} {I : PyData → Prop} {np : Nat} {F : Fn} {A : List PyData → Dm PyData} {ms : M (List PyData)} {da : Dm (List PyData)} {pv : PV} (hF : FnI V I np F A) (g : G[i]? = some pv) (hp : isDr I pv) (hi : i ∈ L) (h : JE G L ms da) : J G L V (mcallI np F i ms) (bD da fun ds => nD (A ds)) :=
  fun en Qd Ed Q E he hd hq hE => by
    have own : ∀ e, ER G e → ∃ d, I d ∧ (e[i]? = some (.ow d) ∨ e[i]? = some (.io d)) ∧ ∀ d', I d' → (e[i]? = some (.ow d) → ER G (e.set i (.ow d'))) ∧ (e[i]? = some (.io d) → ER G (e.set i (.io d'))) := fun e he => by
      obtain ⟨s, hs, hr⟩ := er_get he g
      rcases hp with rfl | rfl
      · obtain ⟨d, hI, rfl⟩ := hr
        exact ⟨d, hI, .inr hs, fun d' h' => ⟨fun q => (by rw [hs] at q; cases q), fun q => er_keep he g ⟨d', h', rfl⟩⟩⟩
      · obtain ⟨d, hI, rfl⟩ := hr
        exact ⟨d, hI, .inl hs, fun d' h' => ⟨fun q => er_keep he g ⟨d', h', rfl⟩, fun q => (by rw [hs] at q; cases q)⟩⟩
    have h1 : (en[i]?.map isOwn).getD false = true := by
      obtain ⟨d, _, e | e, _⟩ := own en he <;> rw [e] <;> rfl
    unfold WQ mcallI
    simp only [h1, if_true]
    refine wq_bnd (h en _ Ed _ E he hd (fun ds hb x en1 hx he1 hf => ?_) hE)
    subst hx
    obtain ⟨d, hI, e, hk⟩ := own en1 he1
    obtain ⟨g1, y, e2, b, d', h2, h3, h4, h5⟩ := hF d x Qd hI hb
    rcases e with e | e
    · refine wq_eq (a := y) (en1 := en1.set i (.ow d')) ?_ (hq b h5 y _ h3 ((hk d' h4).1 e) (hf.trans (fr_eq fun j hj => List.getElem?_set_ne fun (q : i = j) => hj (q ▸ hi))))
      · rw [if_pos g1, e]
        simp only [h2]
    · refine wq_eq (a := y) (en1 := en1.set i (.io d')) ?_ (hq b h5 y _ h3 ((hk d' h4).2 e) (hf.trans (fr_eq fun j hj => List.getElem?_set_ne fun (q : i = j) => hj (q ▸ hi))))
      · rw [if_pos g1, e]
        simp only [h2]
end
end ZP

namespace ZP
open PySem ZD
section
variable {α β γ X Y R σ : Type} {G G' G0 G1 : List PV} {L N vs : List Nat} {en en1 en' : En} {i : Nat}
/-! ### statements -/
def RS (G : List PV) (m : M Fl) (d : Dm R) (P : R → Fl → En → Prop) : Prop :=
  ∀ (en : En) (Qd : R → Prop) (Ed : String → Prop) (Q : Fl → En → Prop) (E : String → En → Prop), ER G en → d Qd Ed →
    (∀ r, Qd r → ∀ fl en', P r fl en' → Q fl en') → (∀ c, Ed c → ∀ en', E c en') → WQ m en Q E
variable {P : R → Fl → En → Prop} {m m1 m2 a b : M Fl}
theorem wq_seq {m n : M Fl} {Q : Fl → En → Prop} {E : String → En → Prop} (h : WQ m en (fun fl e => match fl with | .nx => WQ n e Q E | f => Q f e) E) : WQ (mseq m n) en Q E := by
  unfold mseq
  refine wq_bnd ?_
  unfold WQ at h ⊢
  cases hm : m en with
  | ok fl e =>
    rw [hm] at h
    cases fl <;> exact h
  | err c e => rw [hm] at h; exact h
  | bad => rw [hm] at h; exact h
inductive Sub : List PV → List PV → Prop
  | nil : Sub [] []
  | cons {a b : PV} {as bs : List PV} : (∀ s, SR a s → SR b s) → Sub as bs → Sub (a :: as) (b :: bs)
theorem er_sub (h : Sub G G') : ∀ {en : En}, ER G en → ER G' en := by
  induction h with
  | nil => exact fun h => h
  | @cons a b as bs hab _ ih =>
    intro en he
    obtain ⟨h1, h2⟩ := he
    cases en with
    | nil => cases h1
    | cons s en =>
      have k : ER as en := ⟨Nat.succ.inj h1, fun i pv hi => by
        have z := h2 (i + 1) pv (by simpa using hi)
        simpa using z⟩
      obtain ⟨k1, k2⟩ := ih k
      refine ⟨by simp [k1], fun i pv hi => ?_⟩
      cases i with
      | zero =>
        have e : b = pv := by simpa using hi
        subst e
        obtain ⟨s', e1, e2⟩ := h2 0 a rfl
        exact ⟨s', e1, hab _ e2⟩
      | succ i =>
        obtain ⟨s', e1, e2⟩ := k2 i pv (by simpa using hi)
        exact ⟨s', by simpa using e1, e2⟩
theorem s_rf {a : PV} : ∀ s, SR a s → SR a s := fun _ h => h
theorem s_pa : ∀ s, SR .pl s → SR .any s := fun s h d e => by rcases h with h | ⟨_, h⟩ <;> rw [h] at e <;> cases e
theorem s_ha {d : PyData} : ∀ s, SR (.shd d) s → SR .any s := fun s h d e => by rw [h] at e; cases e
theorem s_va {d : PyData} : ∀ s, SR (.val d) s → SR .any s := fun s h d e => by rcases h with h | ⟨_, h⟩ <;> rw [h] at e <;> cases e
theorem s_la {d : PyData} : ∀ s, SR (.ownl d) s → SR .any s := fun s h d e => by rw [h.1] at e; cases e
theorem s_ka {d : PyData} : ∀ s, SR (.ownd d) s → SR .any s := fun s h d e => by rw [h.1] at e; cases e
theorem s_wa {I : PyData → Prop} : ∀ s, SR (.owv I) s → SR .any s := fun s h d e => by obtain ⟨_, _, h⟩ := h; rw [h] at e; cases e
theorem s_hp {d : PyData} : ∀ s, SR (.shd d) s → SR .pl s := fun s h => .inr ⟨d, h⟩
theorem s_hv {d : PyData} : ∀ s, SR (.shd d) s → SR (.val d) s := fun s h => .inl h
theorem s_lv {d : PyData} : ∀ s, SR (.ownl d) s → SR (.val d) s := fun s h => .inr ⟨h.2, h.1⟩
theorem RS_sub {d : Dm R} (s : Sub G G') (h : RS G' m d P) : RS G m d P := fun en Qd Ed Q E he hd hq hE => h en Qd Ed Q E (er_sub s he) hd hq hE
theorem RS_eq {d : Dm R} (e : m = m1) (h : RS G m1 d P) : RS G m d P := e ▸ h
theorem mseq_mret (x : M Vl) (n : M Fl) : mseq (mret x) n = mret x := by
  funext en; unfold mseq mret bnd; cases x en <;> rfl
theorem mseq_mretN (i : Nat) (n : M Fl) : mseq (mretN i) n = mretN i := by
  funext en
  cases h : en[i]? with
  | none => simp only [mseq, mretN, bnd, h]
  | some s => cases s <;> simp only [mseq, mretN, bnd, h] <;> rfl
theorem mseq_bk (n : M Fl) : mseq (ret .bk) n = ret .bk := rfl
theorem mseq_ct (n : M Fl) : mseq (ret .ct) n = ret .ct := rfl
theorem mseq_rt (x : Vl) (n : M Fl) : mseq (ret (.rt x)) n = ret (.rt x) := rfl
theorem mseq_nx (n : M Fl) : mseq mnx n = n := rfl
theorem mseq_as (a b c : M Fl) : mseq (mseq a b) c = mseq a (mseq b c) := by
  funext en
  unfold mseq bnd
  cases a en with
  | ok fl e => cases fl <;> rfl
  | err c e => rfl
  | bad => rfl
theorem mseq_end (m : M Fl) : mseq m mnx = m := by
  funext en
  unfold mseq bnd
  cases m en with
  | ok fl e => cases fl <;> rfl
  | err c e => rfl
  | bad => rfl
theorem RS_as {d : Dm R} (h : RS G (mseq a (mseq b m2)) d P) : RS G (mseq (mseq a b) m2) d P := RS_eq (mseq_as _ _ _) h
theorem RS_end {d : Dm R} (h : RS G (mseq m mnx) d P) : RS G m d P := RS_eq (mseq_end _).symm h
theorem RS_nx {r : R} (h : ∀ en, ER G en → P r .nx en) : RS G mnx (PQ (.ok r)) P := fun en Qd Ed Q E he hd hq hE => hq r hd .nx en (h en he)
theorem RS_bk {r : R} (h : ∀ en, ER G en → P r .bk en) : RS G (ret .bk) (PQ (.ok r)) P := fun en Qd Ed Q E he hd hq hE => hq r hd .bk en (h en he)
theorem RS_ct {r : R} (h : ∀ en, ER G en → P r .ct en) : RS G (ret .ct) (PQ (.ok r)) P := fun en Qd Ed Q E he hd hq hE => hq r hd .ct en (h en he)
theorem RS_rtNone {r : R} (h : ∀ en, ER G en → P r (.rt (.sh .none)) en) : RS G (ret (.rt (.sh .none))) (PQ (.ok r)) P := fun en Qd Ed Q E he hd hq hE => hq r hd _ en (h en he)
theorem RS_bad : RS G m (PQ (.bad : PR R)) P := fun _ _ _ _ _ _ h => h.elim
/-- return -/
theorem RS_ret {V : Vl → PyData → Prop} {m : M Vl} {d : Dm PyData} {inj : PyData → R} (h : J G L V m d) (hP : ∀ r x en', V x r → ER G en' → P (inj r) (.rt x) en') : RS G (mret m) (bD d fun r => PQ (.ok (inj r))) P :=
  fun en Qd Ed Q E he hd hq hE => wq_bnd (h en _ Ed _ E he hd (fun b hb x en' hv he' _ => hq _ hb _ _ (hP b x en' hv he')) fun c hc en' _ => hE c hc en')
theorem RS_ret0 {V : Vl → PyData → Prop} {m : M Vl} {d : Dm PyData} {P : PyData → Fl → En → Prop} (h : J G L V m d) (hP : ∀ r x en', V x r → ER G en' → P r (.rt x) en') : RS G (mret m) d P :=
  fun en Qd Ed Q E he hd hq hE => wq_bnd (h en _ Ed _ E he hd (fun b hb x en' hv he' _ => hq _ hb _ _ (hP b x en' hv he')) fun c hc en' _ => hE c hc en')
theorem RS_retP {V : Vl → PyData → Prop} {m : M Vl} {d : PR PyData} {inj : PyData → R} (h : J G L V m (PQ d)) (hP : ∀ r x en', V x r → ER G en' → P (inj r) (.rt x) en') : RS G (mret m) (PQ (d.bind fun r => .ok (inj r))) P := by rw [pq_bind]; exact RS_ret h hP
/-- a name is given back -/
def retK (pv : PV) (d : PyData) (V : Vl → PyData → Prop) : Prop := (pv = .shd d ∧ V = VS) ∨ (pv = .shd d ∧ V = VW) ∨ (pv = .val d ∧ V = VW) ∨ (pv = .ownl d ∧ V = VL) ∨ (pv = .ownl d ∧ V = VW) ∨ (pv = .ownd d ∧ V = VK)
theorem J_retN {V : Vl → PyData → Prop} {d : PyData} {pv : PV} {Q : Fl → En → Prop} {E : String → En → Prop} (g : G[i]? = some pv) (k : retK pv d V) (he : ER G en) (hq : ∀ x en', V x d → ER (G.set i .any) en' → Q (.rt x) en') : WQ (mretN i) en Q E := by
  obtain ⟨s, hs, h⟩ := er_get he g
  have sh : ∀ (x : PyData), s = .sh x → V (.sh x) d → WQ (mretN i) en Q E := fun x e hv => by
    subst e
    refine wq_eq (a := .rt (.sh x)) (en1 := en) (by simp only [mretN, hs]) (hq _ _ hv ?_)
    have z := er_set (i := i) (pv := .any) (s := .sh x) he fun d e => by cases e
    have e1 : en.set i (.sh x) = en := by
      apply List.ext_getElem?
      intro j
      by_cases e : i = j
      · subst e; rw [List.getElem?_set_self (List.getElem?_eq_some_iff.mp hs).1, hs]
      · rw [List.getElem?_set_ne e]
    rw [e1] at z
    exact z
  have ow : ∀ (x : PyData), s = .ow x → V (.ow x) d → WQ (mretN i) en Q E := fun x e hv => by
    subst e
    exact wq_eq (a := .rt (.ow x)) (en1 := en.set i .no) (by simp only [mretN, hs]) (hq _ _ hv (er_set he fun d e => by cases e))
  rcases k with ⟨rfl, rfl⟩ | ⟨rfl, rfl⟩ | ⟨rfl, rfl⟩ | ⟨rfl, rfl⟩ | ⟨rfl, rfl⟩ | ⟨rfl, rfl⟩
  · exact sh d h rfl
  · exact sh d h (.inl rfl)
  · rcases h with h | ⟨h1, h⟩
    · exact sh d h (.inl rfl)
    · exact ow d h (.inr ⟨h1, rfl⟩)
  · exact ow d h.1 ⟨rfl, h.2⟩
  · exact ow d h.1 (.inr ⟨h.2, rfl⟩)
  · exact ow d h.1 ⟨rfl, h.2⟩
theorem RS_retN {V : Vl → PyData → Prop} {d : PyData} {pv : PV} {r : R} (g : G[i]? = some pv) (k : retK pv d V) (hP : ∀ x en', V x d → ER (G.set i .any) en' → P r (.rt x) en') : RS G (mretN i) (PQ (.ok r)) P :=
  fun en Qd Ed Q E he hd hq hE => J_retN g k he fun x en' hv he' => hq r hd _ _ (hP x en' hv he')
/-- name = e -/
theorem RS_asg {mv : M Vl} {d : Dm β} {V : Vl → β → Prop} {pv : β → PV} {d2 : β → Dm R} (h : J G L V mv d) (hV : ∀ x b, V x b → SR (pv b) (slOf x)) (hn : notIo G[i]? = true) (k : ∀ b, RS (G.set i (pv b)) m2 (d2 b) P) : RS G (mseq (asgN i mv) m2) (bD d d2) P :=
  fun en Qd Ed Q E he hd hq hE => wq_seq (wq_bnd (h en _ Ed _ E he hd (fun b hb x en1 hv he1 _ => wq_eq (er_masg he1 hn x) (k b _ Qd Ed Q E (er_set he1 (hV x b hv)) hb hq hE)) fun c hc en' _ => hE c hc en'))
theorem RS_asgP {mv : M Vl} {V : Vl → PyData → Prop} {d : PR PyData} {pv : PyData → PV} {d2 : PyData → PR R} (h : J G L V mv (PQ d)) (hV : ∀ x b, V x b → SR (pv b) (slOf x)) (hn : notIo G[i]? = true) (k : ∀ b, RS (G.set i (pv b)) m2 (PQ (d2 b)) P) : RS G (mseq (asgN i mv) m2) (PQ (d.bind d2)) P := by
  rw [pq_bind]; exact RS_asg (V := V) h hV hn k
theorem v_val (x : Vl) (b : PyData) (h : VW x b) : SR (.val b) (slOf x) := by
  rcases h with rfl | ⟨h, rfl⟩
  · exact .inl rfl
  · exact .inr ⟨h, rfl⟩
theorem v_shd (x : Vl) (b : PyData) (h : VS x b) : SR (.shd b) (slOf x) := by rw [h]; rfl
theorem v_ownl (x : Vl) (b : PyData) (h : VL x b) : SR (.ownl b) (slOf x) := by rw [h.1]; exact ⟨rfl, h.2⟩
theorem v_ownd (x : Vl) (b : PyData) (h : VK x b) : SR (.ownd b) (slOf x) := by rw [h.1]; exact ⟨rfl, h.2⟩
theorem v_owv {I : PyData → Prop} (x : Vl) (b : Unit) (h : ∃ d, x = .ow d ∧ I d) : SR (.owv I) (slOf x) := by obtain ⟨d, rfl, h⟩ := h; exact ⟨d, h, rfl⟩
/-- a, b = e -/
theorem RS_asgT {is : List Nat} {n : Nat} {mo : M Od} {d : Dm PyData} {d2 : List PyData → Dm R} (h : JO G L N mo d) (hn : nioAll G is = true) (hl : is.length = n) (k : ∀ ds, ds.length = n → RS (setSh G is ds) m2 (d2 ds) P) : RS G (mseq (asgT (tgtup n (tgs is)) mo) m2) (bD d fun a => bD (PQ (unF n a)) d2) P :=
  fun en Qd Ed Q E he hd hq hE => wq_seq (wq_bnd (h en _ Ed _ E he hd (fun b hb x en1 hk _ he1 _ => by
    rcases un_cases n b with ⟨ds, h1, h2, h3⟩ | h1
    · simp only [bD, h2] at hb
      obtain ⟨en2, k1, k2, k3⟩ := er_tgs is ds G en1 he1 hn (h1.trans hl.symm)
      refine wq_eq (a := .nx) (en1 := en2) ?_ (k ds h1 en2 Qd Ed Q E k2 hb hq hE)
      simp only [hk]
      rw [bnd_ok' (by rw [h3]; exact k1)]
      rfl
    · simp only [bD, h1] at hb; exact hb.elim) fun c hc en' _ => hE c hc en'))
theorem RS_asgTP {is : List Nat} {n : Nat} {mo : M Od} {d : PR PyData} {d2 : List PyData → PR R} (h : JO G L N mo (PQ d)) (hn : nioAll G is = true) (hl : is.length = n) (k : ∀ ds, ds.length = n → RS (setSh G is ds) m2 (PQ (d2 ds)) P) : RS G (mseq (asgT (tgtup n (tgs is)) mo) m2) (PQ (d.bind fun a => (unF n a).bind d2)) P := by
  simp only [pq_bind]; exact RS_asgT h hn hl k
/-- if -/
theorem RS_if {t : M Bool} {dt : Dm Bool} {da db : Dm R} (ht : JE G L t dt) (ha : RS G (mseq a m2) da P) (hb : RS G (mseq b m2) db P) : RS G (mseq (mifS t a b) m2) (ifD dt da db) P :=
  fun en Qd Ed Q E he hd hq hE => wq_seq (wq_bnd (ht en _ Ed _ E he hd (fun c hc x en1 hx he1 _ => by
    subst hx
    have un : ∀ (n : M Fl), WQ (mseq n m2) en1 Q E → WQ n en1 (fun fl e => match fl with | .nx => WQ m2 e Q E | f => Q f e) E := fun n z => by
      unfold WQ at z ⊢
      unfold mseq bnd at z
      cases hn : n en1 with
      | ok fl e => rw [hn] at z; cases fl <;> exact z
      | err c e => rw [hn] at z; exact z
      | bad => rw [hn] at z; exact z
    cases x with
    | true => exact un a (ha en1 Qd Ed Q E he1 hc hq hE)
    | false => exact un b (hb en1 Qd Ed Q E he1 hc hq hE)) fun c hc en' _ => hE c hc en'))
theorem RS_ifP {t : M Bool} {dt : PR Bool} {da db : PR R} (ht : JE G L t (PQ dt)) (ha : RS G (mseq a m2) (PQ da) P) (hb : RS G (mseq b m2) (PQ db) P) : RS G (mseq (mifS t a b) m2) (PQ (ifP dt da db)) P := by rw [pq_if]; exact RS_if ht ha hb
/-- a part of the statements that goes on behind it, what it changes in s -/
def PN (Gs : σ → List PV) : σ → Fl → En → Prop := fun s fl en => fl = .nx ∧ ER (Gs s) en
theorem RS_bind {Gs : σ → List PV} {d1 : Dm σ} {d2 : σ → Dm R} (h : RS G m1 d1 (PN Gs)) (k : ∀ s, RS (Gs s) m2 (d2 s) P) : RS G (mseq m1 m2) (bD d1 d2) P :=
  fun en Qd Ed Q E he hd hq hE => wq_seq (h en _ Ed _ E he hd (fun s hs fl en' ⟨h1, h2⟩ => by
    subst h1
    exact k s en' Qd Ed Q E h2 hs hq hE) hE)
theorem RS_bindP {Gs : σ → List PV} {d1 : PR σ} {d2 : σ → PR R} (h : RS G m1 (PQ d1) (PN Gs)) (k : ∀ s, RS (Gs s) m2 (PQ (d2 s)) P) : RS G (mseq m1 m2) (PQ (d1.bind d2)) P := by rw [pq_bind]; exact RS_bind h k
/-- an expression alone; append, store -/
theorem RS_drop {V : Vl → β → Prop} {mv : M Vl} {d : Dm β} {d2 : Dm R} (h : J G L V mv d) (k : RS G m2 d2 P) : RS G (mseq (mdrop mv) m2) (bD d fun _ => d2) P :=
  fun en Qd Ed Q E he hd hq hE => wq_seq (wq_bnd (h en _ Ed _ E he hd (fun b hb x en1 hv he1 _ => wq_eq (a := .nx) (en1 := en1) rfl (k en1 Qd Ed Q E he1 hb hq hE)) fun c hc en' _ => hE c hc en'))
def appF : PyData → PyData → PR PyData
  | .list xs, y => if xs.length < 1000000 then .ok (.list (xs ++ [y])) else .bad
  | _, _ => .bad
theorem wr_at {c : PyData} (g : G[i]? = some (.ownl c)) (he : ER G en) : isLs en[i]? = true ∧ ∀ g' : PyData → Option (PyData × PyData), ∀ c' x, g' c = some (c', x) → (∃ xs, c' = .list xs) → ∃ en', wr i g' en = .ok x en' ∧ ER (G.set i (.ownl c')) en' := by
  obtain ⟨s, hs, rfl, ⟨xs, rfl⟩⟩ := er_get he g
  exact ⟨by rw [hs]; rfl, fun g' c' x h hl => ⟨en.set i (.ow c'), by simp only [wr, hs, h], er_set he ⟨rfl, hl⟩⟩⟩
theorem app_cases (c y : PyData) : (∃ xs, c = .list xs ∧ appF c y = .ok (.list (xs ++ [y])) ∧ gApp y c = some (.list (xs ++ [y]), .none)) ∨ appF c y = .bad := by
  cases c with
  | list xs =>
    by_cases h : xs.length < 1000000
    · exact .inl ⟨xs, rfl, if_pos h, if_pos h⟩
    · exact .inr (if_neg h)
  | _ => exact .inr rfl
theorem RS_app {c : PyData} {my : M PyData} {d : Dm PyData} {d2 : PyData → Dm R} (g : G[i]? = some (.ownl c)) (h : JE G L my d) (k : ∀ c', RS (G.set i (.ownl c')) m2 (d2 c') P) : RS G (mseq (mdrop (shV (mapp i my))) m2) (bD d fun y => bD (PQ (appF c y)) d2) P :=
  fun en Qd Ed Q E he hd hq hE => wq_seq (wq_bnd (wq_bnd (by
    have h0 := (wr_at g he).1
    unfold WQ mapp chk
    simp only [h0, if_true]
    refine wq_bnd (h en _ Ed _ E he hd (fun y hy x en1 hx he1 _ => ?_) fun c hc en' _ => hE c hc en')
    subst hx
    rcases app_cases c x with ⟨xs, h1, h2, h3⟩ | h1
    · simp only [bD, h2] at hy
      obtain ⟨en2, q1, q2⟩ := (wr_at g he1).2 _ _ _ h3 ⟨_, rfl⟩
      exact wq_eq q1 (k _ en2 Qd Ed Q E q2 hy hq hE)
    · simp only [bD, h1] at hy; exact hy.elim)))
theorem RS_appP {c : PyData} {my : M PyData} {d : PR PyData} {d2 : PyData → PR R} (g : G[i]? = some (.ownl c)) (h : JE G L my (PQ d)) (k : ∀ c', RS (G.set i (.ownl c')) m2 (PQ (d2 c')) P) : RS G (mseq (mdrop (shV (mapp i my))) m2) (PQ (d.bind fun y => (appF c y).bind d2)) P := by
  simp only [pq_bind]; exact RS_app g h k
/-- l[j] = y -/
def stoF : PyData → PyData → PyData → PR PyData
  | .list xs, .int z, y => (match L2.ixN xs.length z with
    | some n => .ok (.list (xs.set n y))
    | none => .bad)
  | _, _, _ => .bad
theorem sto_cases (c z y : PyData) : (∃ xs c', c = .list xs ∧ stoF c z y = .ok (.list c') ∧ gSt z y c = some (.list c', .none)) ∨ stoF c z y = .bad := by
  cases c with
  | list xs =>
    cases z with
    | int z =>
      cases h : L2.ixN xs.length z with
      | none => exact .inr (by simp only [stoF, h])
      | some n => exact .inl ⟨xs, xs.set n y, rfl, by simp only [stoF, h], by simp only [gSt, h]⟩
    | _ => exact .inr rfl
  | _ => exact .inr rfl
theorem RS_sto {c : PyData} {my : M PyData} {mj : M Od} {d dj : Dm PyData} {d2 : PyData → Dm R} (g : G[i]? = some (.ownl c)) (h : JE G L my d) (hj : JO G L N mj dj) (k : ∀ c', RS (G.set i (.ownl c')) m2 (d2 c') P) : RS G (mseq (mst i my mj) m2) (bD d fun y => bD dj fun z => bD (PQ (stoF c z y)) d2) P :=
  fun en Qd Ed Q E he hd hq hE => wq_seq (wq_bnd (h en _ Ed _ E he hd (fun y hy x en1 hx he1 _ => by
    subst hx
    have h0 := (wr_at g he1).1
    unfold WQ chk
    simp only [h0, if_true]
    refine wq_bnd (hj en1 _ Ed _ E he1 hy (fun z hz o en2 ho _ he2 _ => ?_) fun c hc en' _ => hE c hc en')
    rcases sto_cases c z x with ⟨xs, c', h1, h2, h3⟩ | h1
    · simp only [bD, h2] at hz
      obtain ⟨en3, q1, q2⟩ := (wr_at g he2).2 _ _ _ h3 ⟨_, rfl⟩
      refine wq_eq (a := Fl.nx) (en1 := en3) ?_ (k _ en3 Qd Ed Q E q2 hz hq hE)
      simp only [ho]
      rw [bnd_ok' q1]
      rfl
    · simp only [bD, h1] at hz; exact hz.elim) fun c hc en' _ => hE c hc en'))
theorem RS_stoP {c : PyData} {my : M PyData} {mj : M Od} {d dj : PR PyData} {d2 : PyData → PR R} (g : G[i]? = some (.ownl c)) (h : JE G L my (PQ d)) (hj : JO G L N mj (PQ dj)) (k : ∀ c', RS (G.set i (.ownl c')) m2 (PQ (d2 c')) P) : RS G (mseq (mst i my mj) m2) (PQ (d.bind fun y => dj.bind fun z => (stoF c z y).bind d2)) P := by
  simp only [pq_bind]; exact RS_sto g h hj k

/-! ### loops -/
inductive LR (σ ρ : Type) where
  | nx (s : σ) | bk (s : σ) | rt (r : ρ)
/-- a loop without return and break -/
def foldP (f : PyData → σ → PR σ) : List PyData → σ → PR σ
  | [], s => .ok s
  | d :: ds, s => (f d s).bind (foldP f ds)
def foldD (f : PyData → σ → Dm σ) : List PyData → σ → Dm σ
  | [], s => PQ (.ok s)
  | d :: ds, s => bD (f d s) (foldD f ds)
def loopP (f : PyData → σ → PR (LR σ R)) : List PyData → σ → PR (LR σ R)
  | [], s => .ok (.nx s)
  | d :: ds, s => (f d s).bind fun r => match r with
    | .nx s => loopP f ds s
    | .bk s => .ok (.nx s)
    | .rt r => .ok (.rt r)
def loopD (f : PyData → σ → Dm (LR σ R)) : List PyData → σ → Dm (LR σ R)
  | [], s => PQ (.ok (.nx s))
  | d :: ds, s => bD (f d s) fun r => match r with
    | .nx s => loopD f ds s
    | .bk s => PQ (.ok (.nx s))
    | .rt r => PQ (.ok (.rt r))
theorem pq_fold (f : PyData → σ → PR σ) : ∀ ds s, PQ (foldP f ds s) = foldD (fun d s => PQ (f d s)) ds s
  | [], s => rfl
  | d :: ds, s => by unfold foldP foldD; rw [pq_bind]; congr; funext s; exact pq_fold f ds s
theorem pq_loop (f : PyData → σ → PR (LR σ R)) : ∀ ds s, PQ (loopP f ds s) = loopD (fun d s => PQ (f d s)) ds s
  | [], s => rfl
  | d :: ds, s => by
    unfold loopP loopD; rw [pq_bind]; congr; funext r
    cases r with
    | nx s => exact pq_loop f ds s
    | bk s => rfl
    | rt r => rfl
/-- what a turn leaves -/
def PT (Gs : σ → List PV) : σ → Fl → En → Prop := fun s fl en => (fl = .nx ∨ fl = .ct) ∧ ER (Gs s) en
def PTR (Gs : σ → List PV) (P : R → Fl → En → Prop) : LR σ R → Fl → En → Prop := fun r fl en => match r with
  | .nx s => (fl = .nx ∨ fl = .ct) ∧ ER (Gs s) en
  | .bk s => fl = .bk ∧ ER (Gs s) en
  | .rt r => (∃ x, fl = .rt x) ∧ P r fl en
/-- a target: what it does with a tree, the names' kinds behind it -/
def TG (G : List PV) (f : TgF) (d : PyData) (p : PR γ) (G1 : γ → List PV) : Prop := p = .bad ∨ ∃ s, p = .ok s ∧ ∀ en, ER G en → ∃ en', f d en = .ok .nx en' ∧ ER (G1 s) en'
theorem tg_n {d : PyData} (hn : notIo G[i]? = true) : TG G (tgN i) d (.ok ()) (fun _ => G.set i (.shd d)) := .inr ⟨(), rfl, fun en he => ⟨_, er_masg he hn (.sh d), er_set he rfl⟩⟩
theorem tg_t {is : List Nat} {n : Nat} {d : PyData} (hn : nioAll G is = true) (hl : is.length = n) : TG G (tgtup n (tgs is)) d (unF n d) (fun ds => setSh G is ds) := by
  rcases un_cases n d with ⟨ds, h1, h2, h3⟩ | h1
  · refine .inr ⟨ds, h2, fun en he => ?_⟩
    obtain ⟨en', k1, k2, _⟩ := er_tgs is ds G en he hn (h1.trans hl.symm)
    exact ⟨en', by rw [h3]; exact k1, k2⟩
  · exact .inl h1
theorem wq_fold {Gs : σ → List PV} {f : TgF} {body : M Fl} {p : PyData → PR γ} {G1 : PyData → σ → γ → List PV} {k : PyData → σ → γ → Dm σ}
    (ht : ∀ d s, TG (Gs s) f d (p d) (G1 d s)) (hb : ∀ d s g, p d = .ok g → RS (G1 d s g) body (k d s g) (PT Gs)) : ∀ (ds : List PyData) (s : σ), RS (Gs s) (ZD.forM f body ds) (foldD (fun d s => bD (PQ (p d)) (k d s)) ds s) (PN Gs)
  | [], s => fun en Qd Ed Q E he hd hq hE => hq s hd .nx en ⟨rfl, he⟩
  | d :: ds, s => fun en Qd Ed Q E he hd hq hE => by
    unfold foldD at hd
    unfold ZD.forM
    rcases ht d s with hp | ⟨g, hp, h⟩
    · simp only [bD, hp] at hd; exact hd.elim
    · obtain ⟨en1, h1, h2⟩ := h en he
      simp only [bD, hp] at hd
      refine wq_bnd (wq_eq h1 ?_)
      refine wq_bnd (hb d s g hp en1 _ Ed _ E h2 hd (fun s2 hs2 fl en2 h3 => ?_) hE)
      have z := wq_fold ht hb ds s2 en2 Qd Ed Q E h3.2 hs2 hq hE
      rcases h3.1 with rfl | rfl <;> exact z
def PL (Gs : σ → List PV) (P : R → Fl → En → Prop) : LR σ R → Fl → En → Prop := fun r fl en => match r with
  | .nx s => fl = .nx ∧ ER (Gs s) en
  | .bk s => fl = .nx ∧ ER (Gs s) en
  | .rt r => (∃ x, fl = .rt x) ∧ P r fl en
theorem wq_loop {Gs : σ → List PV} {f : TgF} {body : M Fl} {p : PyData → PR γ} {G1 : PyData → σ → γ → List PV} {k : PyData → σ → γ → Dm (LR σ R)}
    (ht : ∀ d s, TG (Gs s) f d (p d) (G1 d s)) (hb : ∀ d s g, p d = .ok g → RS (G1 d s g) body (k d s g) (PTR Gs P)) : ∀ (ds : List PyData) (s : σ), RS (Gs s) (ZD.forM f body ds) (loopD (fun d s => bD (PQ (p d)) (k d s)) ds s) (PL Gs P)
  | [], s => fun en Qd Ed Q E he hd hq hE => hq _ hd .nx en ⟨rfl, he⟩
  | d :: ds, s => fun en Qd Ed Q E he hd hq hE => by
    unfold loopD at hd
    unfold ZD.forM
    rcases ht d s with hp | ⟨g, hp, h⟩
    · simp only [bD, hp] at hd; exact hd.elim
    · obtain ⟨en1, h1, h2⟩ := h en he
      simp only [bD, hp] at hd
      refine wq_bnd (wq_eq h1 ?_)
      refine wq_bnd (hb d s g hp en1 _ Ed _ E h2 hd (fun r hr fl en2 h3 => ?_) hE)
      cases r with
      | nx s2 =>
        have z := wq_loop ht hb ds s2 en2 Qd Ed Q E h3.2 hr hq hE
        rcases h3.1 with rfl | rfl <;> exact z
      | bk s2 =>
        obtain ⟨rfl, h4⟩ := h3
        exact hq _ hr .nx en2 ⟨rfl, h4⟩
      | rt r =>
        obtain ⟨⟨x, rfl⟩, h4⟩ := h3
        exact hq _ hr _ en2 ⟨⟨x, rfl⟩, h4⟩
/-- for .. in ..: no return in it -/
theorem RS_for {Gs : σ → List PV} {it : M (List PyData)} {dit : Dm (List PyData)} {f : TgF} {body : M Fl} {p : PyData → PR γ} {G1 : PyData → σ → γ → List PV} {k : PyData → σ → γ → Dm σ} {d2 : σ → Dm R} (s0 : σ)
    (hit : JE G L it dit) (h0 : Sub G (Gs s0)) (ht : ∀ d s, TG (Gs s) f d (p d) (G1 d s)) (hb : ∀ d s g, p d = .ok g → RS (G1 d s g) body (k d s g) (PT Gs)) (h2 : ∀ s, RS (Gs s) m2 (d2 s) P) :
    RS G (mseq (mfor it f body) m2) (bD dit fun ds => bD (foldD (fun d s => bD (PQ (p d)) (k d s)) ds s0) d2) P :=
  fun en Qd Ed Q E he hd hq hE => wq_seq (wq_bnd (hit en _ Ed _ E he hd (fun ds hds x en1 hx he1 _ => by
    subst hx
    exact wq_fold ht hb x s0 en1 _ Ed _ E (er_sub h0 he1) hds (fun s hs fl en2 ⟨e1, e2⟩ => by subst e1; exact h2 s en2 Qd Ed Q E e2 hs hq hE) hE) fun c hc en' _ => hE c hc en'))
theorem RS_forP {Gs : σ → List PV} {it : M (List PyData)} {dit : PR (List PyData)} {f : TgF} {body : M Fl} {p : PyData → PR γ} {G1 : PyData → σ → γ → List PV} {k : PyData → σ → γ → PR σ} {d2 : σ → PR R} (s0 : σ)
    (hit : JE G L it (PQ dit)) (h0 : Sub G (Gs s0)) (ht : ∀ d s, TG (Gs s) f d (p d) (G1 d s)) (hb : ∀ d s g, p d = .ok g → RS (G1 d s g) body (PQ (k d s g)) (PT Gs)) (h2 : ∀ s, RS (Gs s) m2 (PQ (d2 s)) P) :
    RS G (mseq (mfor it f body) m2) (PQ (dit.bind fun ds => (foldP (fun d s => (p d).bind (k d s)) ds s0).bind d2)) P := by
  simp only [pq_bind, pq_fold]; exact RS_for s0 hit h0 ht hb h2
/-- behind a loop that may return -/
def aftD (d2 : σ → Dm β) (inj : R → β) : LR σ R → Dm β
  | .nx s => d2 s
  | .bk s => d2 s
  | .rt r => PQ (.ok (inj r))
def aftP (d2 : σ → PR β) (inj : R → β) : LR σ R → PR β
  | .nx s => d2 s
  | .bk s => d2 s
  | .rt r => .ok (inj r)
theorem pq_aft (d2 : σ → PR β) (inj : R → β) (r : LR σ R) : PQ (aftP d2 inj r) = aftD (fun s => PQ (d2 s)) inj r := by cases r <;> rfl
theorem RS_forL {ρ : Type} {PF : ρ → Fl → En → Prop} {Gs : σ → List PV} {it : M (List PyData)} {dit : Dm (List PyData)} {f : TgF} {body : M Fl} {p : PyData → PR γ} {G1 : PyData → σ → γ → List PV} {k : PyData → σ → γ → Dm (LR σ ρ)} {d2 : σ → Dm R} {inj : ρ → R} (s0 : σ)
    (hit : JE G L it dit) (h0 : Sub G (Gs s0)) (ht : ∀ d s, TG (Gs s) f d (p d) (G1 d s)) (hb : ∀ d s g, p d = .ok g → RS (G1 d s g) body (k d s g) (PTR Gs PF)) (h2 : ∀ s, RS (Gs s) m2 (d2 s) P) (hP : ∀ r x en', PF r (.rt x) en' → P (inj r) (.rt x) en') :
    RS G (mseq (mfor it f body) m2) (bD dit fun ds => bD (loopD (fun d s => bD (PQ (p d)) (k d s)) ds s0) (aftD d2 inj)) P :=
  fun en Qd Ed Q E he hd hq hE => wq_seq (wq_bnd (hit en _ Ed _ E he hd (fun ds hds x en1 hx he1 _ => by
    subst hx
    refine wq_loop (P := PF) ht hb x s0 en1 _ Ed _ E (er_sub h0 he1) hds (fun r hr fl en2 h3 => ?_) hE
    cases r with
    | nx s => obtain ⟨rfl, h4⟩ := h3; exact h2 s en2 Qd Ed Q E h4 hr hq hE
    | bk s => obtain ⟨rfl, h4⟩ := h3; exact h2 s en2 Qd Ed Q E h4 hr hq hE
    | rt r => obtain ⟨⟨y, rfl⟩, h4⟩ := h3; exact hq _ hr _ _ (hP r y en2 h4)) fun c hc en' _ => hE c hc en'))
theorem RS_forLP {ρ : Type} {PF : ρ → Fl → En → Prop} {Gs : σ → List PV} {it : M (List PyData)} {dit : PR (List PyData)} {f : TgF} {body : M Fl} {p : PyData → PR γ} {G1 : PyData → σ → γ → List PV} {k : PyData → σ → γ → PR (LR σ ρ)} {d2 : σ → PR R} {inj : ρ → R} (s0 : σ)
    (hit : JE G L it (PQ dit)) (h0 : Sub G (Gs s0)) (ht : ∀ d s, TG (Gs s) f d (p d) (G1 d s)) (hb : ∀ d s g, p d = .ok g → RS (G1 d s g) body (PQ (k d s g)) (PTR Gs PF)) (h2 : ∀ s, RS (Gs s) m2 (PQ (d2 s)) P) (hP : ∀ r x en', PF r (.rt x) en' → P (inj r) (.rt x) en') :
    RS G (mseq (mfor it f body) m2) (PQ (dit.bind fun ds => (loopP (fun d s => (p d).bind (k d s)) ds s0).bind (aftP d2 inj))) P := by
  have e : (fun r => PQ (aftP d2 inj r)) = aftD (fun s => PQ (d2 s)) inj := funext fun r => pq_aft d2 inj r
  simp only [pq_bind, pq_loop, e]; exact RS_forL (P := P) s0 hit h0 ht hb h2 hP
/-- while -/
def whilP (t : σ → PR Bool) (f : σ → PR (LR σ R)) : Nat → σ → PR (LR σ R)
  | 0, _ => .bad
  | n + 1, s => (t s).bind fun b => if b = true then (f s).bind (fun r => match r with
      | .nx s => whilP t f n s
      | .bk s => .ok (.nx s)
      | .rt r => .ok (.rt r)) else .ok (.nx s)
theorem wq_while {Gs : σ → List PV} {t : M Bool} {body : M Fl} {dt : σ → PR Bool} {k : σ → PR (LR σ R)} (ht : ∀ s, JE (Gs s) L t (PQ (dt s))) (hb : ∀ s, RS (Gs s) body (PQ (k s)) (PTR Gs P)) : ∀ (n : Nat) (s : σ), RS (Gs s) (whileM t body n) (PQ (whilP dt k n s)) (PL Gs P)
  | 0, s => RS_bad
  | n + 1, s => fun en Qd Ed Q E he hd hq hE => by
    unfold whilP at hd
    rw [pq_bind] at hd
    unfold whileM
    refine wq_bnd (ht s en _ Ed _ E he hd (fun b hb' x en1 hx he1 _ => ?_) fun c hc en' _ => hE c hc en')
    subst hx
    cases x with
    | true =>
      simp only [if_true] at hb' ⊢
      rw [pq_bind] at hb'
      refine wq_bnd (hb s en1 _ Ed _ E he1 hb' (fun r hr fl en2 h3 => ?_) hE)
      cases r with
      | nx s2 =>
        have z := wq_while ht hb n s2 en2 Qd Ed Q E h3.2 hr hq hE
        rcases h3.1 with rfl | rfl <;> exact z
      | bk s2 =>
        obtain ⟨rfl, h4⟩ := h3
        exact hq _ hr .nx en2 ⟨rfl, h4⟩
      | rt r =>
        obtain ⟨⟨x, rfl⟩, h4⟩ := h3
        exact hq _ hr _ en2 ⟨⟨x, rfl⟩, h4⟩
    | false => exact hq _ hb' .nx en1 ⟨rfl, he1⟩
theorem RS_whileP {ρ : Type} {PF : ρ → Fl → En → Prop} {Gs : σ → List PV} {t : M Bool} {body : M Fl} {n : Nat} {dt : σ → PR Bool} {k : σ → PR (LR σ ρ)} {d2 : σ → PR R} {inj : ρ → R} (s0 : σ)
    (h0 : Sub G (Gs s0)) (ht : ∀ s, JE (Gs s) L t (PQ (dt s))) (hb : ∀ s, RS (Gs s) body (PQ (k s)) (PTR Gs PF)) (h2 : ∀ s, RS (Gs s) m2 (PQ (d2 s)) P) (hP : ∀ r x en', PF r (.rt x) en' → P (inj r) (.rt x) en') :
    RS G (mseq (whileM t body n) m2) (PQ ((whilP dt k n s0).bind (aftP d2 inj))) P := fun en Qd Ed Q E he hd hq hE => by
  rw [pq_bind] at hd
  refine wq_seq (wq_while (P := PF) ht hb n s0 en _ Ed _ E (er_sub h0 he) hd (fun r hr fl en2 h3 => ?_) hE)
  cases r with
  | nx s => obtain ⟨rfl, h4⟩ := h3; exact h2 s en2 Qd Ed Q E h4 hr hq hE
  | bk s => obtain ⟨rfl, h4⟩ := h3; exact h2 s en2 Qd Ed Q E h4 hr hq hE
  | rt r => obtain ⟨⟨y, rfl⟩, h4⟩ := h3; exact hq _ hr _ _ (hP r y en2 h4)

theorem unF_len {n : Nat} {d : PyData} {ds : List PyData} (h : unF n d = .ok ds) : ds.length = n := by
  rcases un_cases n d with ⟨ds', h1, h2, _⟩ | h1
  · rw [h2] at h; cases h; exact h1
  · rw [h1] at h; cases h
theorem RS_forN {Gs : σ → List PV} {it : M (List PyData)} {dit : Dm (List PyData)} {body : M Fl} {k : PyData → σ → Dm σ} {d2 : σ → Dm R} (s0 : σ)
    (hit : JE G L it dit) (h0 : Sub G (Gs s0)) (hn : ∀ s, notIo (Gs s)[i]? = true) (hb : ∀ d s, RS ((Gs s).set i (.shd d)) body (k d s) (PT Gs)) (h2 : ∀ s, RS (Gs s) m2 (d2 s) P) :
    RS G (mseq (mfor it (tgN i) body) m2) (bD dit fun ds => bD (foldD k ds s0) d2) P :=
  RS_for (p := fun _ => .ok ()) (G1 := fun d s _ => (Gs s).set i (.shd d)) (k := fun d s _ => k d s) s0 hit h0 (fun d s => tg_n (hn s)) (fun d s _ _ => hb d s) h2
theorem RS_forNP {Gs : σ → List PV} {it : M (List PyData)} {dit : PR (List PyData)} {body : M Fl} {k : PyData → σ → PR σ} {d2 : σ → PR R} (s0 : σ)
    (hit : JE G L it (PQ dit)) (h0 : Sub G (Gs s0)) (hn : ∀ s, notIo (Gs s)[i]? = true) (hb : ∀ d s, RS ((Gs s).set i (.shd d)) body (PQ (k d s)) (PT Gs)) (h2 : ∀ s, RS (Gs s) m2 (PQ (d2 s)) P) :
    RS G (mseq (mfor it (tgN i) body) m2) (PQ (dit.bind fun ds => (foldP k ds s0).bind d2)) P :=
  RS_forP (p := fun _ => .ok ()) (G1 := fun d s _ => (Gs s).set i (.shd d)) (k := fun d s _ => k d s) s0 hit h0 (fun d s => tg_n (hn s)) (fun d s _ _ => hb d s) h2
theorem RS_forLN {ρ : Type} {PF : ρ → Fl → En → Prop} {Gs : σ → List PV} {it : M (List PyData)} {dit : Dm (List PyData)} {body : M Fl} {k : PyData → σ → Dm (LR σ ρ)} {d2 : σ → Dm R} {inj : ρ → R} (s0 : σ)
    (hit : JE G L it dit) (h0 : Sub G (Gs s0)) (hn : ∀ s, notIo (Gs s)[i]? = true) (hb : ∀ d s, RS ((Gs s).set i (.shd d)) body (k d s) (PTR Gs PF)) (h2 : ∀ s, RS (Gs s) m2 (d2 s) P) (hP : ∀ r x en', PF r (.rt x) en' → P (inj r) (.rt x) en') :
    RS G (mseq (mfor it (tgN i) body) m2) (bD dit fun ds => bD (loopD k ds s0) (aftD d2 inj)) P :=
  RS_forL (PF := PF) (p := fun _ => .ok ()) (G1 := fun d s _ => (Gs s).set i (.shd d)) (k := fun d s _ => k d s) s0 hit h0 (fun d s => tg_n (hn s)) (fun d s _ _ => hb d s) h2 hP
theorem RS_forLNP {ρ : Type} {PF : ρ → Fl → En → Prop} {Gs : σ → List PV} {it : M (List PyData)} {dit : PR (List PyData)} {body : M Fl} {k : PyData → σ → PR (LR σ ρ)} {d2 : σ → PR R} {inj : ρ → R} (s0 : σ)
    (hit : JE G L it (PQ dit)) (h0 : Sub G (Gs s0)) (hn : ∀ s, notIo (Gs s)[i]? = true) (hb : ∀ d s, RS ((Gs s).set i (.shd d)) body (PQ (k d s)) (PTR Gs PF)) (h2 : ∀ s, RS (Gs s) m2 (PQ (d2 s)) P) (hP : ∀ r x en', PF r (.rt x) en' → P (inj r) (.rt x) en') :
    RS G (mseq (mfor it (tgN i) body) m2) (PQ (dit.bind fun ds => (loopP k ds s0).bind (aftP d2 inj))) P :=
  RS_forLP (PF := PF) (p := fun _ => .ok ()) (G1 := fun d s _ => (Gs s).set i (.shd d)) (k := fun d s _ => k d s) s0 hit h0 (fun d s => tg_n (hn s)) (fun d s _ _ => hb d s) h2 hP
theorem RS_forT {Gs : σ → List PV} {it : M (List PyData)} {dit : Dm (List PyData)} {is : List Nat} {n : Nat} {body : M Fl} {k : PyData → σ → List PyData → Dm σ} {d2 : σ → Dm R} (s0 : σ)
    (hit : JE G L it dit) (h0 : Sub G (Gs s0)) (hn : ∀ s, nioAll (Gs s) is = true) (hl : is.length = n) (hb : ∀ d s ds, ds.length = n → RS (setSh (Gs s) is ds) body (k d s ds) (PT Gs)) (h2 : ∀ s, RS (Gs s) m2 (d2 s) P) :
    RS G (mseq (mfor it (tgtup n (tgs is)) body) m2) (bD dit fun ds => bD (foldD (fun d s => bD (PQ (unF n d)) (k d s)) ds s0) d2) P :=
  RS_for (p := unF n) (G1 := fun d s ds => setSh (Gs s) is ds) s0 hit h0 (fun d s => tg_t (hn s) hl) (fun d s ds h => hb d s ds (unF_len h)) h2
theorem RS_forTP {Gs : σ → List PV} {it : M (List PyData)} {dit : PR (List PyData)} {is : List Nat} {n : Nat} {body : M Fl} {k : PyData → σ → List PyData → PR σ} {d2 : σ → PR R} (s0 : σ)
    (hit : JE G L it (PQ dit)) (h0 : Sub G (Gs s0)) (hn : ∀ s, nioAll (Gs s) is = true) (hl : is.length = n) (hb : ∀ d s ds, ds.length = n → RS (setSh (Gs s) is ds) body (PQ (k d s ds)) (PT Gs)) (h2 : ∀ s, RS (Gs s) m2 (PQ (d2 s)) P) :
    RS G (mseq (mfor it (tgtup n (tgs is)) body) m2) (PQ (dit.bind fun ds => (foldP (fun d s => (unF n d).bind (k d s)) ds s0).bind d2)) P :=
  RS_forP (p := unF n) (G1 := fun d s ds => setSh (Gs s) is ds) s0 hit h0 (fun d s => tg_t (hn s) hl) (fun d s ds h => hb d s ds (unF_len h)) h2
theorem RS_forLT {ρ : Type} {PF : ρ → Fl → En → Prop} {Gs : σ → List PV} {it : M (List PyData)} {dit : Dm (List PyData)} {is : List Nat} {n : Nat} {body : M Fl} {k : PyData → σ → List PyData → Dm (LR σ ρ)} {d2 : σ → Dm R} {inj : ρ → R} (s0 : σ)
    (hit : JE G L it dit) (h0 : Sub G (Gs s0)) (hn : ∀ s, nioAll (Gs s) is = true) (hl : is.length = n) (hb : ∀ d s ds, ds.length = n → RS (setSh (Gs s) is ds) body (k d s ds) (PTR Gs PF)) (h2 : ∀ s, RS (Gs s) m2 (d2 s) P) (hP : ∀ r x en', PF r (.rt x) en' → P (inj r) (.rt x) en') :
    RS G (mseq (mfor it (tgtup n (tgs is)) body) m2) (bD dit fun ds => bD (loopD (fun d s => bD (PQ (unF n d)) (k d s)) ds s0) (aftD d2 inj)) P :=
  RS_forL (PF := PF) (p := unF n) (G1 := fun d s ds => setSh (Gs s) is ds) s0 hit h0 (fun d s => tg_t (hn s) hl) (fun d s ds h => hb d s ds (unF_len h)) h2 hP
theorem RS_forLTP {ρ : Type} {PF : ρ → Fl → En → Prop} {Gs : σ → List PV} {it : M (List PyData)} {dit : PR (List PyData)} {is : List Nat} {n : Nat} {body : M Fl} {k : PyData → σ → List PyData → PR (LR σ ρ)} {d2 : σ → PR R} {inj : ρ → R} (s0 : σ)
    (hit : JE G L it (PQ dit)) (h0 : Sub G (Gs s0)) (hn : ∀ s, nioAll (Gs s) is = true) (hl : is.length = n) (hb : ∀ d s ds, ds.length = n → RS (setSh (Gs s) is ds) body (PQ (k d s ds)) (PTR Gs PF)) (h2 : ∀ s, RS (Gs s) m2 (PQ (d2 s)) P) (hP : ∀ r x en', PF r (.rt x) en' → P (inj r) (.rt x) en') :
    RS G (mseq (mfor it (tgtup n (tgs is)) body) m2) (PQ (dit.bind fun ds => (loopP (fun d s => (unF n d).bind (k d s)) ds s0).bind (aftP d2 inj))) P :=
  RS_forLP (PF := PF) (p := unF n) (G1 := fun d s ds => setSh (Gs s) is ds) s0 hit h0 (fun d s => tg_t (hn s) hl) (fun d s ds h => hb d s ds (unF_len h)) h2 hP

/-! ### defs -/
/-- how a def's body ends -/
def PF (V : Vl → PyData → Prop) : PyData → Fl → En → Prop := fun r fl _ => match fl with
  | .rt x => V x r
  | .nx => V (.sh .none) r
  | _ => False
def PFI (V : Vl → PyData → Prop) (I : PyData → Prop) : PyData → Fl → En → Prop := fun r fl en => (match fl with
  | .rt x => V x r
  | .nx => V (.sh .none) r
  | _ => False) ∧ ∃ d e, en = .io d :: e ∧ I d
theorem pf_rt {V : Vl → PyData → Prop} (r : PyData) (x : Vl) (en' : En) (h : V x r) (_ : ER G en') : PF V r (.rt x) en' := h
theorem pfi_rt {V : Vl → PyData → Prop} {I : PyData → Prop} {Gt : List PV} (r : PyData) (x : Vl) (en' : En) (h : V x r) (he : ER (.iov I :: Gt) en') : PFI V I r (.rt x) en' := ⟨h, by
  obtain ⟨s, hs, d, hI, rfl⟩ := he.2 0 _ rfl
  cases en' with
  | nil => cases hs
  | cons s e => cases hs; exact ⟨d, e, rfl, hI⟩⟩
theorem pfi_nx {V : Vl → PyData → Prop} {I : PyData → Prop} {Gt : List PV} (r : PyData) (en' : En) (h : V (.sh .none) r) (he : ER (.iov I :: Gt) en') : PFI V I r .nx en' := ⟨h, (pfi_rt (V := V) r (.sh .none) en' h he).2⟩
def G0s (n : Nat) (ds : List PyData) : List PV := ds.map .shd ++ List.replicate (n - ds.length) .pl
theorem er_append {G1 G2 : List PV} {e1 e2 : En} (h1 : ER G1 e1) (h2 : ER G2 e2) : ER (G1 ++ G2) (e1 ++ e2) := by
  refine ⟨by simp [h1.1, h2.1], fun i pv hi => ?_⟩
  by_cases hl : i < G1.length
  · rw [List.getElem?_append_left hl] at hi
    obtain ⟨s, hs, hr⟩ := h1.2 i pv hi
    exact ⟨s, by rw [List.getElem?_append_left (by rw [← h1.1]; exact hl)]; exact hs, hr⟩
  · rw [List.getElem?_append_right (by omega)] at hi
    obtain ⟨s, hs, hr⟩ := h2.2 _ pv hi
    exact ⟨s, by rw [List.getElem?_append_right (by rw [← h1.1]; omega), ← h1.1]; exact hs, hr⟩
theorem er_shds (ds : List PyData) : ER (ds.map .shd) (ds.map .sh) := ⟨by simp, fun i pv hi => by
  rw [List.getElem?_map] at hi
  obtain ⟨d, hd, rfl⟩ := Option.map_eq_some_iff.mp hi
  exact ⟨.sh d, by rw [List.getElem?_map, hd]; rfl, rfl⟩⟩
theorem er_rep (k : Nat) : ER (List.replicate k .pl) (List.replicate k .no) := ⟨by simp, fun i pv hi => by
  rw [List.getElem?_replicate] at hi
  split at hi
  · rename_i h
    cases hi
    exact ⟨.no, by rw [List.getElem?_replicate, if_pos h], .inl rfl⟩
  · cases hi⟩
theorem er_start (n : Nat) (ds : List PyData) : ER (G0s n ds) (ds.map .sh ++ List.replicate (n - (ds.map Sl.sh).length) .no) := by
  rw [List.length_map]
  exact er_append (er_shds ds) (er_rep _)
theorem fnD_of {V : Vl → PyData → Prop} {np n : Nat} {m : M Fl} {A : List PyData → Dm PyData} (hA : ∀ ds Qd, A ds Qd (fun _ => False) → ds.length = np) (h : ∀ ds, ds.length = np → RS (G0s n ds) m (A ds) (PF V)) : FnD V np (ZD.run n m) A := fun ds Qd hd => by
  have hl := hA ds Qd hd
  refine ⟨hl, ?_⟩
  have z := h ds hl _ Qd (fun _ => False) (fun fl en => ∃ b, Qd b ∧ PF V b fl en) (fun _ _ => False) (er_start n ds) hd (fun r hr fl en' hp => ⟨r, hr, hp⟩) (fun _ h => h.elim)
  unfold WQ at z
  unfold ZD.run
  cases hm : m (ds.map .sh ++ List.replicate (n - (ds.map Sl.sh).length) .no) with
  | ok fl en =>
    rw [hm] at z
    obtain ⟨b, hb, hp⟩ := z
    cases fl with
    | rt x => exact ⟨x, en, b, rfl, hp, hb⟩
    | nx => exact ⟨.sh .none, en, b, rfl, hp, hb⟩
    | bk => exact hp.elim
    | ct => exact hp.elim
  | err c en => rw [hm] at z; exact z.elim
  | bad => rw [hm] at z; exact z.elim
theorem fnI_of {V : Vl → PyData → Prop} {I : PyData → Prop} {np n : Nat} {m : M Fl} {A : List PyData → Dm PyData} (hA : ∀ ds Qd, A ds Qd (fun _ => False) → ds.length + 1 = np) (h : ∀ ds, ds.length + 1 = np → RS (.iov I :: (ds.map .shd ++ List.replicate (n - (ds.length + 1)) .pl)) m (A ds) (PFI V I)) : FnI V I np (ZD.run n m) A := fun d ds Qd hI hd => by
  have hl := hA ds Qd hd
  refine ⟨hl, ?_⟩
  have e0 : ER (.iov I :: (ds.map .shd ++ List.replicate (n - (ds.length + 1)) .pl)) ((.io d :: ds.map .sh) ++ List.replicate (n - (Sl.io d :: ds.map Sl.sh).length) .no) := by
    have e1 : ER [.iov I] [.io d] := ⟨rfl, fun i pv hi => by
      cases i with
      | zero => cases hi; exact ⟨_, rfl, d, hI, rfl⟩
      | succ i => cases hi⟩
    have e2 := er_append e1 (er_append (er_shds ds) (er_rep (n - (ds.length + 1))))
    simpa using e2
  have z := h ds hl _ Qd (fun _ => False) (fun fl en => ∃ b, Qd b ∧ PFI V I b fl en) (fun _ _ => False) e0 hd (fun r hr fl en' hp => ⟨r, hr, hp⟩) (fun _ h => h.elim)
  unfold WQ at z
  unfold ZD.run
  cases hm : m ((.io d :: ds.map .sh) ++ List.replicate (n - (Sl.io d :: ds.map Sl.sh).length) .no) with
  | ok fl en =>
    rw [hm] at z
    obtain ⟨b, hb, hp, d', e, rfl, hI'⟩ := z
    cases fl with
    | rt x => exact ⟨x, e, b, d', rfl, hp, hI', hb⟩
    | nx => exact ⟨.sh .none, e, b, d', rfl, hp, hI', hb⟩
    | bk => exact hp.elim
    | ct => exact hp.elim
  | err c en => rw [hm] at z; exact z.elim
  | bad => rw [hm] at z; exact z.elim
/-- a def that calls itself, with fuel -/
theorem fnD_bad {V : Vl → PyData → Prop} {np : Nat} {F : Fn} : FnD V np F fun _ => PQ .bad := fun _ _ h => h.elim
end
end ZP

namespace ZP
open PySem ZD
/-- what is left to draw -/
def DS (d : PyData) : Prop := ∃ l : List Int, d = .list (l.map .int)
/-- a draw: any number from 0 on below the bound -/
def A__law_take : List PyData → Dm PyData := fun ds Q _ => ∃ b : Int, ds = [.int b] ∧ 0 < b ∧ ∀ r : Int, 0 ≤ r → r < b → Q (.int r)
/-- a script that is short and has numbers of some bits -/
def GoodScr (d : PyData) : Prop := ∃ ns : List Int, d = .list (ns.map .int) ∧ ns.length ≤ 63 ∧ ∀ z ∈ ns, Builtin.Int.intBits z ≤ 1048576
def A__law_draws : List PyData → Dm Unit := fun ds Q _ => ∃ d, ds = [d] ∧ GoodScr d ∧ Q ()
end ZP

namespace ZP
open PySem ZD
section
variable {α β γ X Y R σ : Type} {G G' G0 G1 : List PV} {L N vs : List Nat} {en en1 en' : En} {i : Nat}
/-! zip -/
def zipP : List PyData → PR (List PyData)
  | [d, e] => match zipF d e with
    | some xs => .ok xs
    | none => .bad
  | _ => .bad
theorem J_zip {ms : M (List PyData)} {d : Dm (List PyData)} (h : JE G L ms d) : JE G L (zipM ms) (bD d fun ds => PQ (zipP ds)) := J_bnd h fun b x hx => by
  subst hx
  match x with
  | [d, e] =>
    dsimp only [zipP]
    cases zipF d e with
    | none => exact J_bad
    | some xs => exact J_ret rfl
  | [] => exact J_bad
  | [_] => exact J_bad
  | _ :: _ :: _ :: _ => exact J_bad
theorem J_zipP {ms : M (List PyData)} {d : PR (List PyData)} (h : JE G L ms (PQ d)) : JE G L (zipM ms) (PQ (d.bind zipP)) := by rw [pq_bind]; exact J_zip h
/-! own lists lent -/
def LkG (G : List PV) (x : Od) (d : PyData) : Prop := x = .d d ∨ ∃ i, x = .s i ∧ (G[i]? = some (.val d) ∨ G[i]? = some (.ownl d))
inductive LkA (G : List PV) : List Od → List PyData → Prop
  | nil : LkA G [] []
  | cons {x : Od} {d : PyData} {xs : List Od} {ds : List PyData} : LkG G x d → LkA G xs ds → LkA G (x :: xs) (d :: ds)
theorem lk_look {x : Od} {d : PyData} (he : ER G en) (h : LkG G x d) : lookL en x = some d := by
  rcases h with rfl | ⟨i, rfl, h | h⟩
  · rfl
  · obtain ⟨s, hs, hr⟩ := er_get he h
    rcases hr with rfl | ⟨⟨ds, rfl⟩, rfl⟩ <;> simp only [lookL, hs]
  · obtain ⟨s, hs, rfl, ds, rfl⟩ := er_get he h
    simp only [lookL, hs]
theorem lk_looks (he : ER G en) : ∀ {xs : List Od} {ds : List PyData}, LkA G xs ds → looksL en xs = some ds
  | _, _, .nil => rfl
  | _, _, .cons h t => by simp only [looksL, lk_look he h, lk_looks he t]
abbrev JA (G : List PV) (L : List Nat) (m : M (List Od)) (d : Dm (List PyData)) : Prop := J G L (LkA G) m d
theorem JA_nil : JA G L monil (PQ (.ok [])) := J_ret .nil
theorem J_odk {m : M Od} {d : Dm PyData} (h : J G L (LkG G) m d) {ms : M (List Od)} {ds : Dm (List PyData)} (h2 : JA G L ms ds) : JA G L (mocons m ms) (aconsD d ds) := J_bnd h fun b x hx => J_bnd h2 fun b2 x2 hx2 => J_ret (.cons hx hx2)
theorem LK_d {m : M PyData} {d : Dm PyData} (h : JE G L m d) : J G L (LkG G) (odD m) d :=
  fun en Qd Ed Q E he hd hq hE => wq_bnd (h en Qd Ed _ E he hd (fun b hb x en' hv he' hf => by subst hv; exact hq x hb (.d x) en' (.inl rfl) he' hf) hE)
theorem LK_shd {d : PyData} (g : G[i]? = some (.shd d)) : J G L (LkG G) (nm i) (PQ (.ok d)) := fun en Qd Ed Q E he hd hq hE => by
  obtain ⟨s, hs, h⟩ := er_get he g
  cases h
  exact wq_eq (a := .d d) (en1 := en) (by unfold nm; rw [hs]) (hq d hd _ en (.inl rfl) he FR.refl)
theorem LK_val {d : PyData} (g : G[i]? = some (.val d)) : J G L (LkG G) (nm i) (PQ (.ok d)) := fun en Qd Ed Q E he hd hq hE => by
  obtain ⟨s, hs, h⟩ := er_get he g
  rcases h with rfl | ⟨⟨ds, rfl⟩, rfl⟩
  · exact wq_eq (a := .d d) (en1 := en) (by unfold nm; rw [hs]) (hq d hd _ en (.inl rfl) he FR.refl)
  · exact wq_eq (a := .s i) (en1 := en) (by unfold nm; rw [hs]) (hq _ hd _ en (.inr ⟨i, rfl, .inl g⟩) he FR.refl)
theorem LK_ownl {d : PyData} (g : G[i]? = some (.ownl d)) : J G L (LkG G) (nm i) (PQ (.ok d)) := fun en Qd Ed Q E he hd hq hE => by
  obtain ⟨s, hs, rfl, h⟩ := er_get he g
  exact wq_eq (a := .s i) (en1 := en) (by unfold nm; rw [hs]) (hq _ hd _ en (.inr ⟨i, rfl, .inr g⟩) he FR.refl)
theorem J_odkP {m : M Od} {d : PR PyData} (h : J G L (LkG G) m (PQ d)) {ms : M (List Od)} {ds : PR (List PyData)} (h2 : JA G L ms (PQ ds)) : JA G L (mocons m ms) (PQ (aconsP d ds)) := by rw [pq_acons]; exact J_odk h h2
def lendF (b : PyData) : PR PyData := if flatT b = true then .ok b else .bad
theorem J_callO {V : Vl → PyData → Prop} {np : Nat} {F : Fn} {A : List PyData → Dm PyData} {ms : M (List Od)} {da : Dm (List PyData)} (hF : FnD V np F A) (hV : ∀ x b, V x b → VW x b) (h : JA G L ms da) : J G L VS (mcallO np F ms) (bD da fun ds => bD (nD (A ds)) fun b => PQ (lendF b)) :=
  fun en Qd Ed Q E he hd hq hE => wq_bnd (h en _ Ed _ E he hd (fun ds hb xs en1 hx he1 hf => by
    obtain ⟨h1, y, e, b, h2, h3, h4⟩ := hF ds _ hb
    have hl := lk_looks he1 hx
    unfold lendF at h4
    by_cases c : flatT b = true
    · rw [if_pos c] at h4
      have ey : y = .sh b := by
        rcases hV y b h3 with e | ⟨⟨ls, rfl⟩, _⟩
        · exact e
        · simp [flatT] at c
      subst ey
      refine wq_eq (a := Vl.sh b) (en1 := en1) ?_ (hq b h4 _ en1 rfl he1 hf)
      simp only [hl, if_pos h1, h2, lendR, c, if_true]
      split <;> rfl
    · rw [if_neg c] at h4; exact h4.elim) hE)
theorem J_callOP {V : Vl → PyData → Prop} {np : Nat} {F : Fn} {A : List PyData → PR PyData} {ms : M (List Od)} {da : PR (List PyData)} (hF : FnD V np F fun ds => PQ (A ds)) (hV : ∀ x b, V x b → VW x b) (h : JA G L ms (PQ da)) : J G L VS (mcallO np F ms) (PQ (da.bind fun ds => (A ds).noe.bind lendF)) := by
  simp only [pq_bind, pq_noe]; exact J_callO hF hV h
end
end ZP

namespace ZP
open PySem ZD
section
variable {R : Type} {G : List PV} {L : List Nat} {i j : Nat} {m2 : M Fl} {P : R → Fl → En → Prop}
def pr2F : List PyData → PR (List PyData)
  | [d, e] => .ok [d, e]
  | _ => .bad
theorem RS_par {ms : M (List PyData)} {da : Dm (List PyData)} {d2 : List PyData → Dm R} (h : JE G L ms da) (hi : notIo G[i]? = true) (hj : notIo G[j]? = true) (k : ∀ d e, RS ((G.set i (.shd d)).set j (.shd e)) m2 (d2 [d, e]) P) : RS G (mseq (mpar i j ms) m2) (bD da fun ds => bD (PQ (pr2F ds)) d2) P :=
  fun en Qd Ed Q E he hd hq hE => wq_seq (wq_bnd (h en _ Ed _ E he hd (fun ds hb x en1 hx he1 _ => by
    subst hx
    match x, hb with
    | [d, e], hb =>
      have e1 := er_masg he1 hi (.sh d)
      have g1 := er_set (i := i) (pv := .shd d) (s := .sh d) he1 rfl
      have e2 := er_masg g1 (notIo_set hj rfl) (.sh e)
      have g2 := er_set (i := j) (pv := .shd e) (s := .sh e) g1 rfl
      refine wq_eq (a := .nx) (en1 := (en1.set i (.sh d)).set j (.sh e)) ?_ (k d e _ Qd Ed Q E g2 hb hq hE)
      show bnd (masg i (.sh d)) _ en1 = _
      rw [bnd_ok' e1]
      exact e2
    | [], hb => exact hb.elim
    | [_], hb => exact hb.elim
    | _ :: _ :: _ :: _, hb => exact hb.elim) fun c hc en' _ => hE c hc en'))
theorem RS_parP {ms : M (List PyData)} {da : PR (List PyData)} {d2 : List PyData → PR R} (h : JE G L ms (PQ da)) (hi : notIo G[i]? = true) (hj : notIo G[j]? = true) (k : ∀ d e, RS ((G.set i (.shd d)).set j (.shd e)) m2 (PQ (d2 [d, e])) P) : RS G (mseq (mpar i j ms) m2) (PQ (da.bind fun ds => (pr2F ds).bind d2)) P := by
  simp only [pq_bind]; exact RS_par h hi hj k
end
end ZP

namespace ZP
open PySem ZD
section
variable {α β γ X Y R σ : Type} {G G' G0 G1 : List PV} {L L' L2 N N2 vs : List Nat} {en en1 en' : En} {i : Nat} {P : R → Fl → En → Prop} {m m1 m2 a b : M Fl}
/-! ### len of a set comprehension -/
def lenSetF (ys : List PyData) : PR PyData := match keysOf ys with
  | some ks => .ok (.int (uniq ks).length)
  | none => .bad
def mlsetF (f : PyData → PR (Option PyData)) (ds : List PyData) : PR PyData := if ds.length ≤ 4000 then (compP f ds).noe.bind lenSetF else .bad
def mlsetG (f : PyData → Dm (Option PyData)) (ds : List PyData) : Dm PyData := if ds.length ≤ 4000 then bD (nD (compD f ds)) fun ys => PQ (lenSetF ys) else PQ .bad
def mlsetP (it : PR (List PyData)) (f : PyData → PR (Option PyData)) : PR PyData := it.bind (mlsetF f)
def mlsetD (it : Dm (List PyData)) (f : PyData → Dm (Option PyData)) : Dm PyData := bD it (mlsetG f)
theorem pq_mlset (it : PR (List PyData)) (f : PyData → PR (Option PyData)) : PQ (mlsetP it f) = mlsetD (PQ it) fun d => PQ (f d) := by
  unfold mlsetP mlsetD mlsetF mlsetG
  rw [pq_bind]
  congr; funext ds
  split
  · rw [pq_bind, pq_noe, pq_comp]
  · rfl
theorem J_lset {it : M (List PyData)} {f : TgF} {t : M Bool} {e : M PyData} {dit : Dm (List PyData)} {db : PyData → Dm (Option PyData)} (hit : JE G L it dit) (hp : plAll G vs = true) (hb : ∀ d, J2 (setPl G vs) (setPl G vs) (vs ++ L) Eq (stepC vs f t e d) (db d)) : JE G L (mlset vs it f t e) (mlsetD dit db) := J_bnd hit fun b x hx => by
  subst hx
  unfold mlsetG
  by_cases hl : x.length ≤ 4000
  · simp only [hl, if_true]
    refine J_bnd (J_blk hp (J_compL hb x)) fun b y hy => ?_
    subst hy
    unfold lenSetF
    cases keysOf y with
    | some ks => exact J_ret rfl
    | none => exact J_bad
  · simp only [hl, if_false]; exact J_bad
theorem J_lsetP {it : M (List PyData)} {f : TgF} {t : M Bool} {e : M PyData} {dit : PR (List PyData)} {db : PyData → PR (Option PyData)} (hit : JE G L it (PQ dit)) (hp : plAll G vs = true) (hb : ∀ d, J2 (setPl G vs) (setPl G vs) (vs ++ L) Eq (stepC vs f t e d) (PQ (db d))) : JE G L (mlset vs it f t e) (PQ (mlsetP dit db)) := by
  rw [pq_mlset]; exact J_lset hit hp hb
/-! ### l.append(x), x a list of one's own that is handed on -/
theorem RS_appN {j : Nat} {c y : PyData} {d2 : PyData → Dm R} (g : G[i]? = some (.ownl c)) (gj : G[j]? = some (.ownl y)) (hne : j ≠ i) (k : ∀ c', RS ((G.set j (.shd y)).set i (.ownl c')) m2 (d2 c') P) : RS G (mseq (mdrop (shV (mapp i (nv j)))) m2) (bD (PQ (appF c y)) d2) P :=
  fun en Qd Ed Q E he hd hq hE => wq_seq (wq_bnd (wq_bnd (by
    have h0 := (wr_at g he).1
    unfold WQ mapp chk
    simp only [h0, if_true]
    obtain ⟨s, hs, e1, ⟨ys, rfl⟩⟩ := er_get he gj
    subst e1
    have e2 : nv j en = .ok (.list ys) (en.set j (.sh (.list ys))) := by unfold nv; rw [hs]
    have he1 : ER (G.set j (.shd (.list ys))) (en.set j (.sh (.list ys))) := er_set he rfl
    have g1 : (G.set j (.shd (.list ys)))[i]? = some (.ownl c) := by rw [List.getElem?_set_ne hne]; exact g
    refine wq_bnd (wq_eq e2 ?_)
    rcases app_cases c (.list ys) with ⟨xs, h1, h2, h3⟩ | h1
    · simp only [bD, h2] at hd
      obtain ⟨en2, q1, q2⟩ := (wr_at g1 he1).2 _ _ _ h3 ⟨_, rfl⟩
      exact wq_eq q1 (k _ en2 Qd Ed Q E q2 hd hq hE)
    · simp only [bD, h1] at hd; exact hd.elim)))
theorem RS_appNP {j : Nat} {c y : PyData} {d2 : PyData → PR R} (g : G[i]? = some (.ownl c)) (gj : G[j]? = some (.ownl y)) (hne : j ≠ i) (k : ∀ c', RS ((G.set j (.shd y)).set i (.ownl c')) m2 (PQ (d2 c')) P) : RS G (mseq (mdrop (shV (mapp i (nv j)))) m2) (PQ ((appF c y).bind d2)) P := by
  simp only [pq_bind]; exact RS_appN g gj hne k
/-! ### extend -/
def extF : PyData → PyData → PR PyData
  | .list xs, .list ys => if xs.length + ys.length ≤ 1000000 then .ok (.list (xs ++ ys)) else .bad
  | .list xs, .tuple ys => if xs.length + ys.length ≤ 1000000 then .ok (.list (xs ++ ys)) else .bad
  | _, _ => .bad
theorem ext_cases (c y : PyData) : (∃ xs, extF c y = .ok (.list xs) ∧ gExtW y c = some (.list xs, .none)) ∨ extF c y = .bad := by
  cases c with
  | list xs =>
    cases y with
    | list ys =>
      by_cases h : xs.length + ys.length ≤ 1000000
      · exact .inl ⟨xs ++ ys, if_pos h, if_pos h⟩
      · exact .inr (if_neg h)
    | tuple ys =>
      by_cases h : xs.length + ys.length ≤ 1000000
      · exact .inl ⟨xs ++ ys, if_pos h, if_pos h⟩
      · exact .inr (if_neg h)
    | _ => exact .inr rfl
  | _ => exact .inr rfl
theorem RS_ext {c : PyData} {my : M PyData} {d : Dm PyData} {d2 : PyData → Dm R} (g : G[i]? = some (.ownl c)) (h : JE G L my d) (k : ∀ c', RS (G.set i (.ownl c')) m2 (d2 c') P) : RS G (mseq (mdrop (shV (mext i my))) m2) (bD d fun y => bD (PQ (extF c y)) d2) P :=
  fun en Qd Ed Q E he hd hq hE => wq_seq (wq_bnd (wq_bnd (by
    have h0 := (wr_at g he).1
    unfold WQ mext chk
    simp only [h0, if_true]
    refine wq_bnd (h en _ Ed _ E he hd (fun y hy x en1 hx he1 _ => ?_) fun c hc en' _ => hE c hc en')
    subst hx
    rcases ext_cases c x with ⟨xs, h2, h3⟩ | h1
    · simp only [bD, h2] at hy
      obtain ⟨en2, q1, q2⟩ := (wr_at g he1).2 _ _ _ h3 ⟨_, rfl⟩
      exact wq_eq q1 (k _ en2 Qd Ed Q E q2 hy hq hE)
    · simp only [bD, h1] at hy; exact hy.elim)))
theorem RS_extP {c : PyData} {my : M PyData} {d : PR PyData} {d2 : PyData → PR R} (g : G[i]? = some (.ownl c)) (h : JE G L my (PQ d)) (k : ∀ c', RS (G.set i (.ownl c')) m2 (PQ (d2 c')) P) : RS G (mseq (mdrop (shV (mext i my))) m2) (PQ (d.bind fun y => (extF c y).bind d2)) P := by
  simp only [pq_bind]; exact RS_ext g h k
end
end ZP

/-! plain reckoning with the functions of trees -/
namespace ZP
open PySem ZD
section
variable {α β γ σ ρ : Type}
@[simp] theorem bind_ok (a : α) (f : α → PR β) : (PR.ok a).bind f = f a := id rfl
@[simp] theorem bind_bad (f : α → PR β) : (PR.bad).bind f = .bad := id rfl
@[simp] theorem noe_ok (a : α) : (PR.ok a).noe = .ok a := id rfl
@[simp] theorem o1_ok (a : PyData) (f : PyData → PR PyData) : o1 (.ok a) f = f a := id rfl
@[simp] theorem o2_ok (a b : PyData) (f : PyData → PyData → PR PyData) : o2 (.ok a) (.ok b) f = f a b := id rfl
@[simp] theorem outR_d (x : PyData) : outR (.d x) = .ok x := id rfl
@[simp] theorem outR_nl (x : List PyData) : outR (.nl x) = .ok (.list x) := id rfl
@[simp] theorem outR_nt (x : List PyData) : outR (.nt x) = .ok (.tuple x) := id rfl
@[simp] theorem outS_d (x : PyData) : outS (.d x) = .ok x := id rfl
@[simp] theorem outS_nt (x : List PyData) : outS (.nt x) = .ok (.tuple x) := id rfl
@[simp] theorem outL_nl (x : List PyData) : outL (.nl x) = .ok (.list x) := id rfl
@[simp] theorem outK_nd (x : List (PyData × PyData)) : outK (.nd x) = .ok (.dict x) := id rfl
@[simp] theorem tstP_ok (b : Bool) : tstP (.ok (.bool b)) = .ok b := id rfl
@[simp] theorem notP_ok (b : Bool) : notP (.ok b) = .ok (!b) := id rfl
@[simp] theorem ifP_ok (b : Bool) (p q : PR α) : ifP (.ok b) p q = if b = true then p else q := id rfl
@[simp] theorem andP_f (q : PR Bool) : andP (.ok false) q = .ok false := id rfl
@[simp] theorem andP_t (q : PR Bool) : andP (.ok true) q = q := id rfl
@[simp] theorem andP_ok (a b : Bool) : andP (.ok a) (.ok b) = .ok (a && b) := by cases a <;> rfl
@[simp] theorem orP_f (q : PR Bool) : orP (.ok false) q = q := id rfl
@[simp] theorem orP_t (q : PR Bool) : orP (.ok true) q = .ok true := id rfl
@[simp] theorem orP_ok (a b : Bool) : orP (.ok a) (.ok b) = .ok (a || b) := by cases a <;> rfl
@[simp] theorem vandP_f (q : PR PyData) : vandP (.ok (.bool false)) q = .ok (.bool false) := id rfl
@[simp] theorem vandP_t (q : PR PyData) : vandP (.ok (.bool true)) q = q := id rfl
@[simp] theorem vandP_ok (a b : Bool) : vandP (.ok (.bool a)) (.ok (.bool b)) = .ok (.bool (a && b)) := by cases a <;> rfl
@[simp] theorem vorP_f (q : PR PyData) : vorP (.ok (.bool false)) q = q := id rfl
@[simp] theorem vorP_t (q : PR PyData) : vorP (.ok (.bool true)) q = .ok (.bool true) := id rfl
@[simp] theorem vorP_ok (a b : Bool) : vorP (.ok (.bool a)) (.ok (.bool b)) = .ok (.bool (a || b)) := by cases a <;> rfl
@[simp] theorem vnotP_ok (a : Bool) : vnotP (.ok (.bool a)) = .ok (.bool (!a)) := id rfl
@[simp] theorem acons_ok (a : PyData) (as : List PyData) : aconsP (.ok a) (.ok as) = .ok (a :: as) := id rfl
@[simp] theorem st1_ok (a : PyData) : st1 (.ok a) = .ok (some a) := id rfl
theorem stP_ok (b : Bool) (e : PR PyData) : stP (.ok b) e = if b = true then e.bind fun y => .ok (some y) else .ok none := id rfl
@[simp] theorem stP_ok2 (b : Bool) (y : PyData) : stP (.ok b) (.ok y) = .ok (if b = true then some y else none) := by cases b <;> rfl
@[simp] theorem stP_t (e : PR PyData) : stP (.ok true) e = e.bind fun y => .ok (some y) := id rfl
@[simp] theorem stP_f (e : PR PyData) : stP (.ok false) e = .ok none := id rfl
@[simp] theorem seqF_l (ds : List PyData) : seqF (.list ds) = .ok ds := id rfl
@[simp] theorem seqF_t (ds : List PyData) : seqF (.tuple ds) = .ok ds := id rfl
@[simp] theorem enumF_l (ds : List PyData) : enumF (.list ds) = .ok (enumD ds) := id rfl
@[simp] theorem enumF_t (ds : List PyData) : enumF (.tuple ds) = .ok (enumD ds) := id rfl
@[simp] theorem posF_i (i : Int) : posF (.int i) = .ok (some i) := id rfl
@[simp] theorem slcP_ok (ox : Out → PR PyData) (d : PyData) (l u : Option Int) : slcP ox (.ok d) (.ok l) (.ok u) = ox (oSl l u d) := id rfl
@[simp] theorem chainP_ok (f g : PyData → PyData → Out) (a b c : PyData) : chainP f g (.ok a) (.ok b) (.ok c) = chB (f a b) (outS (g b c)) (.ok (.bool false)) .bad := id rfl
@[simp] theorem chB_b (x : Bool) (k z e : α) : chB (.d (.bool x)) k z e = if x = true then k else z := by cases x <;> rfl
theorem mcompP_ok (ds : List PyData) (f : PyData → PR (Option PyData)) : mcompP (.ok ds) f = mcompF f ds := id rfl
theorem mallP_ok (ds : List PyData) (f : PyData → PR (Option PyData)) : mallP (.ok ds) f = (allP f ds).noe.bind fun b => .ok (.bool b) := id rfl
theorem manyP_ok (ds : List PyData) (f : PyData → PR (Option PyData)) : manyP (.ok ds) f = (anyP f ds).noe.bind fun b => .ok (.bool b) := id rfl
/-! ### rows of ints -/
abbrev I (l : List Int) : List PyData := l.map .int
/-- 0, 1, .. -/
def ran (n : Nat) : List Int := (List.range n).map fun (i : Nat) => (i : Int)
theorem rngL0 (n : Nat) : rngL 0 n = I (ran n) := by simp [rngL, ran, List.map_map, Function.comp_def]
theorem rngLz (z : Int) (n : Nat) : rngL z n = I ((List.range n).map fun (i : Nat) => z + (i : Int)) := by simp [rngL, List.map_map, Function.comp_def]
theorem mem_ran {n : Nat} {x : Int} : x ∈ ran n ↔ 0 ≤ x ∧ x < n := by
  unfold ran
  rw [List.mem_map]
  constructor
  · rintro ⟨i, h, rfl⟩; have := List.mem_range.mp h; omega
  · rintro ⟨h1, h2⟩; exact ⟨x.toNat, List.mem_range.mpr (by omega), by omega⟩
theorem ran_up (n : Nat) : (ran n).Pairwise (· < ·) := by
  unfold ran
  rw [List.pairwise_map]
  exact List.Pairwise.imp (fun h => by omega) List.pairwise_lt_range
@[simp] theorem ran_len (n : Nat) : (ran n).length = n := by simp [ran]
theorem rng1_ok {n : Int} (h : n ≤ 1000000) (h2 : 0 ≤ n) : rng1F (.int n) = .ok (I (ran n.toNat)) := by
  show (if n < 2 ^ 62 ∧ -(2 ^ 62) ≤ n then PR.ok (rngL 0 n.toNat) else .bad) = _
  rw [if_pos ⟨Int.lt_of_le_of_lt h (by decide), Int.le_trans (by decide) h2⟩, rngL0]
theorem rng1_n {n : Nat} (h : n ≤ 1000000) : rng1F (.int (n : Int)) = .ok (I (ran n)) := by
  rw [rng1_ok (by omega) (by omega)]; rfl
theorem rng2_ok {a n : Int} (h : n ≤ 1000000) (h2 : 0 ≤ n) (h3 : 0 ≤ a) (h4 : a ≤ 1000000) : rng2F (.int a) (.int n) = .ok (I ((List.range (n - a).toNat).map fun (i : Nat) => a + (i : Int))) := by
  show (if a < 2 ^ 62 ∧ -(2 ^ 62) ≤ a ∧ n < 2 ^ 62 ∧ -(2 ^ 62) ≤ n then PR.ok (rngL a (n - a).toNat) else .bad) = _
  rw [if_pos ⟨Int.lt_of_le_of_lt h4 (by decide), Int.le_trans (by decide) h3, Int.lt_of_le_of_lt h (by decide), Int.le_trans (by decide) h2⟩, rngLz]
/-! ### what a walk gives -/
theorem compP_fm {f : PyData → PR (Option PyData)} {g : PyData → Option PyData} : ∀ {ds : List PyData}, (∀ d ∈ ds, f d = .ok (g d)) → compP f ds = .ok (ds.filterMap g)
  | [], _ => rfl
  | d :: ds, h => by
    unfold compP
    rw [h d List.mem_cons_self, compP_fm fun x hx => h x (List.mem_cons_of_mem _ hx), List.filterMap_cons]
    cases g d <;> rfl
theorem allP_b {f : PyData → PR (Option PyData)} {g : PyData → Bool} : ∀ {ds : List PyData}, (∀ d ∈ ds, f d = .ok (some (.bool (g d)))) → allP f ds = .ok (ds.all g)
  | [], _ => rfl
  | d :: ds, h => by
    unfold allP
    rw [h d List.mem_cons_self, List.all_cons]
    cases hg : g d with
    | true => simp only [bind_ok, Bool.true_and]; exact allP_b fun x hx => h x (List.mem_cons_of_mem _ hx)
    | false => rfl
theorem anyP_b {f : PyData → PR (Option PyData)} {g : PyData → Bool} : ∀ {ds : List PyData}, (∀ d ∈ ds, f d = .ok (some (.bool (g d)))) → anyP f ds = .ok (ds.any g)
  | [], _ => rfl
  | d :: ds, h => by
    unfold anyP
    rw [h d List.mem_cons_self, List.any_cons]
    cases hg : g d with
    | false => simp only [bind_ok, Bool.false_or]; exact anyP_b fun x hx => h x (List.mem_cons_of_mem _ hx)
    | true => rfl
/-- rows of anything that are written as trees by e -/
theorem allP_m {f : PyData → PR (Option PyData)} {e : α → PyData} {g : α → Bool} (l : List α) (h : ∀ x ∈ l, f (e x) = .ok (some (.bool (g x)))) : allP f (l.map e) = .ok (l.all g) := by
  induction l with
  | nil => rfl
  | cons x l ih =>
    rw [List.map_cons]
    unfold allP
    rw [h x List.mem_cons_self, List.all_cons]
    cases hg : g x with
    | true => simp only [bind_ok, Bool.true_and]; exact ih fun y hy => h y (List.mem_cons_of_mem _ hy)
    | false => rfl
theorem anyP_m {f : PyData → PR (Option PyData)} {e : α → PyData} {g : α → Bool} (l : List α) (h : ∀ x ∈ l, f (e x) = .ok (some (.bool (g x)))) : anyP f (l.map e) = .ok (l.any g) := by
  induction l with
  | nil => rfl
  | cons x l ih =>
    rw [List.map_cons]
    unfold anyP
    rw [h x List.mem_cons_self, List.any_cons]
    cases hg : g x with
    | false => simp only [bind_ok, Bool.false_or]; exact ih fun y hy => h y (List.mem_cons_of_mem _ hy)
    | true => rfl
/-- .. the first that says no ends the walk -/
theorem allP_no {f : PyData → PR (Option PyData)} {d : PyData} {ds : List PyData} (h : f d = .ok (some (.bool false))) : allP f (d :: ds) = .ok false := by unfold allP; rw [h]; rfl
theorem compP_m {f : PyData → PR (Option PyData)} {e : α → PyData} {e2 : β → PyData} {g : α → Option β} (l : List α) (h : ∀ x ∈ l, f (e x) = .ok ((g x).map e2)) : compP f (l.map e) = .ok ((l.filterMap g).map e2) := by
  induction l with
  | nil => rfl
  | cons x l ih =>
    rw [List.map_cons]
    unfold compP
    rw [h x List.mem_cons_self, ih fun y hy => h y (List.mem_cons_of_mem _ hy), List.filterMap_cons]
    cases g x <;> rfl
theorem compP_f {f : PyData → PR (Option PyData)} {e : α → PyData} {p : α → Bool} (l : List α) (h : ∀ x ∈ l, f (e x) = .ok (if p x = true then some (e x) else none)) : compP f (l.map e) = .ok ((l.filter p).map e) := by
  induction l with
  | nil => rfl
  | cons x l ih =>
    rw [List.map_cons]
    unfold compP
    rw [h x List.mem_cons_self, ih fun y hy => h y (List.mem_cons_of_mem _ hy), List.filter_cons]
    cases p x <;> rfl
theorem compP_mp {f : PyData → PR (Option PyData)} {e : α → PyData} {e2 : β → PyData} {g : α → β} (l : List α) (h : ∀ x ∈ l, f (e x) = .ok (some (e2 (g x)))) : compP f (l.map e) = .ok ((l.map g).map e2) := by
  induction l with
  | nil => rfl
  | cons x l ih =>
    rw [List.map_cons]
    unfold compP
    rw [h x List.mem_cons_self, ih fun y hy => h y (List.mem_cons_of_mem _ hy)]
    rfl
theorem compP_none {f : PyData → PR (Option PyData)} : ∀ {ds : List PyData}, (∀ d ∈ ds, f d = .ok none) → compP f ds = .ok []
  | [], _ => rfl
  | d :: ds, h => by unfold compP; rw [h d List.mem_cons_self, compP_none fun x hx => h x (List.mem_cons_of_mem _ hx)]; rfl
theorem mcomp_of {f : PyData → PR (Option PyData)} {ds ys : List PyData} (hl : ds.length ≤ 1000000) (h : compP f ds = .ok ys) : mcompP (.ok ds) f = .ok (.list ys) := by
  rw [mcompP_ok]; unfold mcompF; rw [if_pos hl, h]; rfl
theorem mall_of {f : PyData → PR (Option PyData)} {ds : List PyData} {b : Bool} (h : allP f ds = .ok b) : mallP (.ok ds) f = .ok (.bool b) := by rw [mallP_ok, h]; rfl
theorem many_of {f : PyData → PR (Option PyData)} {ds : List PyData} {b : Bool} (h : anyP f ds = .ok b) : manyP (.ok ds) f = .ok (.bool b) := by rw [manyP_ok, h]; rfl
/-! ### operations -/
@[simp] theorem oAdd_i (i j : Int) : oAdd (.int i) (.int j) = .d (.int (i + j)) := id rfl
@[simp] theorem oSub_i (i j : Int) : oSub (.int i) (.int j) = .d (.int (i - j)) := id rfl
@[simp] theorem oI1_i (f : Int → Int) (i : Int) : oI1 f (.int i) = .d (.int (f i)) := id rfl
@[simp] theorem oLe_i (i j : Int) : oLe (.int i) (.int j) = .d (.bool (decide (i ≤ j))) := id rfl
@[simp] theorem oLt_i (i j : Int) : oLt (.int i) (.int j) = .d (.bool (decide (i < j))) := id rfl
@[simp] theorem oGe_i (i j : Int) : oGe (.int i) (.int j) = .d (.bool (decide (j ≤ i))) := id rfl
@[simp] theorem oGt_i (i j : Int) : oGt (.int i) (.int j) = .d (.bool (decide (j < i))) := id rfl
@[simp] theorem oTest_d (f : PyData → Bool) (d : PyData) : oTest f d = .d (.bool (f d)) := id rfl
@[simp] theorem oLen_l (ds : List PyData) : oLen (.list ds) = .d (.int ds.length) := id rfl
@[simp] theorem oLen_t (ds : List PyData) : oLen (.tuple ds) = .d (.int ds.length) := id rfl
@[simp] theorem oTuple_l (ds : List PyData) : oTuple (.list ds) = .nt ds := id rfl
@[simp] theorem oTuple_t (ds : List PyData) : oTuple (.tuple ds) = .d (.tuple ds) := id rfl
@[simp] theorem oList_l (ds : List PyData) : oList (.list ds) = .nl ds := id rfl
@[simp] theorem oList_t (ds : List PyData) : oList (.tuple ds) = .nl ds := id rfl
theorem oAdd_l {x y : List PyData} (h : x.length + y.length ≤ 1000000) : oAdd (.list x) (.list y) = .nl (x ++ y) := if_pos h
theorem oAdd_t {x y : List PyData} (h : x.length + y.length ≤ 1000000) : oAdd (.tuple x) (.tuple y) = .nt (x ++ y) := if_pos h
/-! ### shape and sameness -/
def shN (n : Nat) (d : PyData) : Bool := d.canLay0 && decide (d.depth ≤ n)
theorem shaped_shN (d : PyData) : SeqAt.shaped d = shN 64 d := id rfl
theorem canAll_eq (ds : List PyData) : PyData.canLayAll0 ds = ds.all PyData.canLay0 := by
  induction ds with
  | nil => rfl
  | cons d ds ih => rw [PyData.canLayAll0, ih, List.all_cons]
theorem depthAll_le (ds : List PyData) (n : Nat) : decide (PyData.depthAll ds ≤ n) = ds.all fun d => decide (d.depth ≤ n) := by
  induction ds with
  | nil => simp [PyData.depthAll]
  | cons d ds ih =>
    rw [PyData.depthAll, List.all_cons, ← ih]
    by_cases h1 : d.depth ≤ n <;> by_cases h2 : PyData.depthAll ds ≤ n <;> simp [h1, h2] <;> omega
theorem all_and (p q : PyData → Bool) (ds : List PyData) : (ds.all p && ds.all q) = ds.all fun d => p d && q d := by
  induction ds with
  | nil => rfl
  | cons d ds ih => rw [List.all_cons, List.all_cons, List.all_cons, ← ih]; cases p d <;> cases q d <;> simp
@[simp] theorem shN_i (n : Nat) (i : Int) : shN n (.int i) = true := by simp [shN, PyData.canLay0, PyData.depth]
@[simp] theorem shN_b (n : Nat) (i : Bool) : shN n (.bool i) = true := by simp [shN, PyData.canLay0, PyData.depth]
@[simp] theorem shN_n (n : Nat) : shN n .none = true := by simp [shN, PyData.canLay0, PyData.depth]
theorem shN_s (n : Nat) (x : Str) : shN n (.str x) = PyData.strOk x := by simp [shN, PyData.canLay0, PyData.depth]
@[simp] theorem shN_l (n : Nat) (ds : List PyData) : shN (n + 1) (.list ds) = ds.all (shN n) := by
  unfold shN
  rw [PyData.canLay0, PyData.depth, canAll_eq, show (decide (PyData.depthAll ds + 1 ≤ n + 1)) = decide (PyData.depthAll ds ≤ n) by simp, depthAll_le, all_and]
@[simp] theorem shN_t (n : Nat) (ds : List PyData) : shN (n + 1) (.tuple ds) = ds.all (shN n) := by
  unfold shN
  rw [PyData.canLay0, PyData.depth, canAll_eq, show (decide (PyData.depthAll ds + 1 ≤ n + 1)) = decide (PyData.depthAll ds ≤ n) by simp, depthAll_le, all_and]
theorem shN_up {n m : Nat} {d : PyData} (h : shN n d = true) (k : n ≤ m) : shN m d = true := by
  unfold shN at *
  simp only [Bool.and_eq_true, decide_eq_true_eq] at *
  exact ⟨h.1, by omega⟩
theorem oEq_of {d e : PyData} {n m : Nat} (h : shN n d = true) (k : shN m e = true) (hn : n ≤ 64) (hm : m ≤ 64) : oEq d e = .d (.bool (PyData.eqv d e)) := by
  unfold oEq; rw [shaped_shN, shaped_shN, shN_up h hn, shN_up k hm]; rfl
theorem oNe_of {d e : PyData} {n m : Nat} (h : shN n d = true) (k : shN m e = true) (hn : n ≤ 64) (hm : m ≤ 64) : oNe d e = .d (.bool (!PyData.eqv d e)) := by
  unfold oNe; rw [shaped_shN, shaped_shN, shN_up h hn, shN_up k hm]; rfl
@[simp] theorem oEq_i (i j : Int) : oEq (.int i) (.int j) = .d (.bool (i == j)) := by rw [oEq_of (shN_i 0 i) (shN_i 0 j) (by decide) (by decide), PyData.eqv]
@[simp] theorem oNe_i (i j : Int) : oNe (.int i) (.int j) = .d (.bool (!(i == j))) := by rw [oNe_of (shN_i 0 i) (shN_i 0 j) (by decide) (by decide), PyData.eqv]
@[simp] theorem oEq_b (i j : Bool) : oEq (.bool i) (.bool j) = .d (.bool (i == j)) := by rw [oEq_of (shN_b 0 i) (shN_b 0 j) (by decide) (by decide), PyData.eqv]
@[simp] theorem oNe_b (i j : Bool) : oNe (.bool i) (.bool j) = .d (.bool (!(i == j))) := by rw [oNe_of (shN_b 0 i) (shN_b 0 j) (by decide) (by decide), PyData.eqv]
theorem eqv_nilL (ds : List PyData) : PyData.eqv (.list ds) (.list []) = ds.isEmpty := by rw [PyData.eqv]; cases ds <;> simp [PyData.eqvAll]
theorem eqv_nilT (ds : List PyData) : PyData.eqv (.tuple ds) (.tuple []) = ds.isEmpty := by rw [PyData.eqv]; cases ds <;> simp [PyData.eqvAll]
/-- a row against the empty one -/
theorem oEq_nilL {ds : List PyData} (h : ds.all (shN 60) = true) : oEq (.list ds) (.list []) = .d (.bool ds.isEmpty) := by
  rw [oEq_of (n := 61) (m := 1) (by rw [shN_l]; exact h) (by simp) (by decide) (by decide), eqv_nilL]
theorem oNe_nilL {ds : List PyData} (h : ds.all (shN 60) = true) : oNe (.list ds) (.list []) = .d (.bool (!ds.isEmpty)) := by
  rw [oNe_of (n := 61) (m := 1) (by rw [shN_l]; exact h) (by simp) (by decide) (by decide), eqv_nilL]
theorem oEq_nilT {ds : List PyData} (h : ds.all (shN 60) = true) : oEq (.tuple ds) (.tuple []) = .d (.bool ds.isEmpty) := by
  rw [oEq_of (n := 61) (m := 1) (by rw [shN_t]; exact h) (by simp) (by decide) (by decide), eqv_nilT]
theorem oNe_nilT {ds : List PyData} (h : ds.all (shN 60) = true) : oNe (.tuple ds) (.tuple []) = .d (.bool (!ds.isEmpty)) := by
  rw [oNe_of (n := 61) (m := 1) (by rw [shN_t]; exact h) (by simp) (by decide) (by decide), eqv_nilT]
theorem shI (n : Nat) (l : List Int) : (I l).all (shN n) = true := by simp [I]
@[simp] theorem oIs_tn (n : Bool) (ds : List PyData) : oIs n (.tuple ds) .none = .d (.bool n) := by cases n <;> rfl
@[simp] theorem oIs_ln (n : Bool) (ds : List PyData) : oIs n (.list ds) .none = .d (.bool n) := by cases n <;> rfl
@[simp] theorem oIs_in (n : Bool) (i : Int) : oIs n (.int i) .none = .d (.bool n) := by cases n <;> rfl
@[simp] theorem oIs_sn (n : Bool) (i : Str) : oIs n (.str i) .none = .d (.bool n) := by cases n <;> rfl
@[simp] theorem oIs_bn (n : Bool) (i : Bool) : oIs n (.bool i) .none = .d (.bool n) := by cases n <;> rfl
@[simp] theorem oIs_nn (n : Bool) : oIs n .none .none = .d (.bool (!n)) := by cases n <;> rfl
@[simp] theorem oIs_bb (n i j : Bool) : oIs n (.bool i) (.bool j) = .d (.bool (xor n (i == j))) := by cases n <;> cases i <;> cases j <;> rfl
/-! ### members, places -/
theorem eqv_ii (i j : Int) : PyData.eqv (.int i) (.int j) = (i == j) := by rw [PyData.eqv]
theorem flatI (l : List Int) : (I l).all flatD = true := by simp [I, flatD]
theorem anyI (l : List Int) (x : Int) : ((I l).any fun y => PyData.eqv y (.int x)) = decide (x ∈ l) := by
  induction l with
  | nil => rfl
  | cons a l ih =>
    show (PyData.eqv (.int a) (.int x) || (I l).any _) = _
    rw [ih, eqv_ii]
    by_cases h : a = x
    · subst h; simp
    · have h2 : ¬ x = a := fun e => h e.symm
      simp [h, h2]
theorem oIn_l (n : Bool) (x : Int) (l : List Int) : oIn n (.int x) (.list (I l)) = .d (.bool (xor n (decide (x ∈ l)))) := by
  show inD n (.int x) (I l) = _
  unfold inD
  rw [flatI, anyI]; rfl
theorem oIn_t (n : Bool) (x : Int) (l : List Int) : oIn n (.int x) (.tuple (I l)) = .d (.bool (xor n (decide (x ∈ l)))) := by
  show inD n (.int x) (I l) = _
  unfold inD
  rw [flatI, anyI]; rfl
theorem atI_n {ds : List α} {j : Nat} (h : j < ds.length) : L2.atI ds (j : Int) = ds[j]? := by
  have h1 : (j : Int) < (ds.length : Int) := by omega
  simp [L2.atI, L2.ixN, h]
theorem atI_z {ds : List α} {z : Int} (h0 : 0 ≤ z) (h : z < ds.length) : L2.atI ds z = ds[z.toNat]? := by
  obtain ⟨n, rfl⟩ := Int.eq_ofNat_of_zero_le h0
  rw [atI_n (by omega)]; rfl
theorem oIx_l {ds : List PyData} {z : Int} {d : PyData} (h0 : 0 ≤ z) (h : ds[z.toNat]? = some d) : oIx (.list ds) (.int z) = .d d := by
  have hl := (List.getElem?_eq_some_iff.mp h).1
  show gotD (L2.atI ds z) = _
  rw [atI_z h0 (by omega), h]; rfl
theorem oIx_t {ds : List PyData} {z : Int} {d : PyData} (h0 : 0 ≤ z) (h : ds[z.toNat]? = some d) : oIx (.tuple ds) (.int z) = .d d := by
  have hl := (List.getElem?_eq_some_iff.mp h).1
  show gotD (L2.atI ds z) = _
  rw [atI_z h0 (by omega), h]; rfl
/-! cuts -/
theorem cut_to {xs : List PyData} {z : Int} (h0 : 0 ≤ z) : cutD xs none (some z) = xs.take z.toNat := by
  simp only [cutD, HT.sIx, if_neg (show ¬ z < 0 by omega), List.drop_zero, Nat.sub_zero]
  by_cases h : z.toNat ≤ xs.length
  · rw [Nat.min_eq_left h]
  · rw [Nat.min_eq_right (by omega), List.take_of_length_le (Nat.le_refl _), List.take_of_length_le (by omega)]
theorem cut_from {xs : List PyData} {z : Int} (h0 : 0 ≤ z) : cutD xs (some z) none = xs.drop z.toNat := by
  simp only [cutD, HT.sIx, if_neg (show ¬ z < 0 by omega)]
  by_cases h : z.toNat ≤ xs.length
  · rw [Nat.min_eq_left h, List.take_of_length_le (by simp)]
  · rw [Nat.min_eq_right (by omega), List.drop_of_length_le (Nat.le_refl _), List.drop_of_length_le (by omega)]; simp
@[simp] theorem oSl_t (lo hi : Option Int) (ds : List PyData) : oSl lo hi (.tuple ds) = .nt (cutD ds lo hi) := id rfl
@[simp] theorem oSl_l (lo hi : Option Int) (ds : List PyData) : oSl lo hi (.list ds) = .nl (cutD ds lo hi) := id rfl
/-! ### draws -/
/-- alike places stand to each other -/
inductive F2 {α β : Type} (R : α → β → Prop) : List α → List β → Prop
  | nil : F2 R [] []
  | cons {a : α} {b : β} {as : List α} {bs : List β} : R a b → F2 R as bs → F2 R (a :: as) (b :: bs)
variable {Q : α → Prop} {E : String → Prop}
theorem d_pure {p : PR β} {a : β} {f : β → Dm α} (h : p = .ok a) (k : f a Q E) : bD (PQ p) f Q E := by rw [h]; exact k
theorem d_bind {d : Dm β} {f : β → Dm α} (h : d (fun a => f a Q E) E) : bD d f Q E := h
theorem d_take {b : Int} {f : PyData → Dm α} (hb : 0 < b) (h : ∀ r : Int, 0 ≤ r → r < b → f (.int r) Q E) : bD (bD (PQ (aconsP (.ok (.int b)) (.ok []))) fun ds => nD (A__law_take ds)) f Q E := ⟨b, rfl, hb, h⟩
theorem d_takeA {p : PR PyData} {b : Int} {f : PyData → Dm α} (hp : p = .ok (.int b)) (hb : 0 < b) (h : ∀ r : Int, 0 ≤ r → r < b → f (.int r) Q E) : bD (bD (PQ (aconsP p (.ok []))) fun ds => nD (A__law_take ds)) f Q E := by
  rw [hp]; exact d_take hb h
theorem d_draws {d : PyData} {f : Unit → Dm α} (hd : GoodScr d) (h : f () Q E) : bD (bD (PQ (aconsP (.ok d) (.ok []))) fun ds => nD (A__law_draws ds)) f Q E := ⟨d, rfl, hd, h⟩
theorem d_if {t : PR Bool} {c : Bool} {a b : Dm α} (h : t = .ok c) (h1 : c = true → a Q E) (h2 : c = false → b Q E) : ifD (PQ t) a b Q E := by
  rw [h]
  show (if c = true then a else b) Q E
  cases c with
  | true => exact h1 rfl
  | false => exact h2 rfl
theorem d_ok {p : PR α} {a : α} (h : p = .ok a) (k : Q a) : PQ p Q E := by rw [h]; exact k
theorem d_fold {k : PyData → σ → Dm σ} {f : σ → Dm α} (Iv : Nat → σ → Prop) {ds : List PyData} {s0 : σ} (h0 : Iv 0 s0)
    (hk : ∀ (i : Nat) (d : PyData) (s : σ), ds[i]? = some d → Iv i s → ∀ Q' : σ → Prop, (∀ s', Iv (i + 1) s' → Q' s') → k d s Q' E)
    (h : ∀ s, Iv ds.length s → f s Q E) : bD (foldD k ds s0) f Q E := by
  have key : ∀ (n i : Nat) (s : σ), i + n = ds.length → Iv i s → foldD k (ds.drop i) s (fun a => f a Q E) E := by
    intro n
    induction n with
    | zero =>
      intro i s hi hs
      rw [List.drop_of_length_le (by omega)]
      exact h s (by have : i = ds.length := by omega
                    exact this ▸ hs)
    | succ n ih =>
      intro i s hi hs
      have hlt : i < ds.length := by omega
      rw [List.drop_eq_getElem_cons hlt]
      unfold foldD
      exact hk i _ s (List.getElem?_eq_getElem hlt) hs _ fun s' hs' => ih (i + 1) s' (by omega) hs'
  have z := key ds.length 0 s0 (by omega) h0
  rwa [List.drop_zero] at z
/-- a loop with returns, each turn with any wish behind it -/
theorem d_loopQ {k : PyData → σ → Dm (LR σ ρ)} {f : LR σ ρ → Dm α} (Iv : Nat → σ → Prop) {ds : List PyData} {s0 : σ} (h0 : Iv 0 s0)
    (hk : ∀ (i : Nat) (d : PyData) (s : σ), ds[i]? = some d → Iv i s → ∀ Q' : LR σ ρ → Prop, (∀ s', Iv (i + 1) s' → Q' (.nx s')) → k d s Q' E)
    (h : ∀ s, Iv ds.length s → f (.nx s) Q E) : bD (loopD k ds s0) f Q E := by
  have key : ∀ (n i : Nat) (s : σ), i + n = ds.length → Iv i s → loopD k (ds.drop i) s (fun a => f a Q E) E := by
    intro n
    induction n with
    | zero =>
      intro i s hi hs
      rw [List.drop_of_length_le (by omega)]
      exact h s (by have : i = ds.length := by omega
                    exact this ▸ hs)
    | succ n ih =>
      intro i s hi hs
      have hlt : i < ds.length := by omega
      rw [List.drop_eq_getElem_cons hlt]
      unfold loopD
      exact hk i _ s (List.getElem?_eq_getElem hlt) hs _ fun s' hs' => ih (i + 1) s' (by omega) hs'
  have z := key ds.length 0 s0 (by omega) h0
  rwa [List.drop_zero] at z
theorem loopP_all {k : PyData → σ → PR (LR σ ρ)} {s : σ} : ∀ {ds : List PyData}, (∀ d ∈ ds, k d s = .ok (.nx s)) → loopP k ds s = .ok (.nx s)
  | [], _ => rfl
  | d :: ds, h => by unfold loopP; rw [h d List.mem_cons_self]; exact loopP_all fun x hx => h x (List.mem_cons_of_mem _ hx)
/-- a comprehension that draws: what each turn may give -/
theorem d_comp {f : PyData → Dm (Option PyData)} (R : PyData → Option PyData → Prop) : ∀ (ds : List PyData) (Q : List PyData → Prop), (∀ d ∈ ds, ∀ Q' : Option PyData → Prop, (∀ o, R d o → Q' o) → f d Q' fun _ => False) →
    (∀ os, F2 R ds os → Q (os.flatMap Option.toList)) → compD f ds Q fun _ => False
  | [], Q, _, h => h [] .nil
  | d :: ds, Q, hf, h => by
    unfold compD
    refine hf d List.mem_cons_self _ fun o ho => ?_
    refine d_comp R ds _ (fun x hx => hf x (List.mem_cons_of_mem _ hx)) fun os hos => ?_
    have z := h (o :: os) (.cons ho hos)
    rw [List.flatMap_cons] at z
    exact z
theorem d_mcomp {it : PR (List PyData)} {ds : List PyData} {f : PyData → Dm (Option PyData)} {Q : PyData → Prop} (R : PyData → Option PyData → Prop) (hit : it = .ok ds) (hl : ds.length ≤ 1000000) (hf : ∀ d ∈ ds, ∀ Q' : Option PyData → Prop, (∀ o, R d o → Q' o) → f d Q' fun _ => False)
    (h : ∀ os, F2 R ds os → Q (.list (os.flatMap Option.toList))) : mcompD (PQ it) f Q E := by
  subst hit
  show mcompG f ds Q E
  unfold mcompG
  rw [if_pos hl]
  exact d_comp R ds _ hf h
theorem sub_of {R : PyData → Option PyData → Prop} (hR : ∀ d o, R d o → o = none ∨ o = some d) : ∀ {ds : List PyData} {os : List (Option PyData)}, F2 R ds os → (os.flatMap Option.toList).Sublist ds
  | _, _, .nil => List.Sublist.refl _
  | _, _, .cons (a := d) (b := o) h t => by
    rw [List.flatMap_cons]
    rcases hR d o h with rfl | rfl
    · exact (sub_of hR t).cons d
    · exact (sub_of hR t).cons₂ d
/-- .. a filter by draws: some of the row, in its order -/
theorem d_filter {it : PR (List PyData)} {l : List Int} {f : PyData → Dm (Option PyData)} {Q : PyData → Prop} (hit : it = .ok (I l)) (hl : l.length ≤ 1000000) (hf : ∀ x ∈ l, ∀ Q' : Option PyData → Prop, Q' none → Q' (some (.int x)) → f (.int x) Q' fun _ => False)
    (h : ∀ m : List Int, m.Sublist l → Q (.list (I m))) : mcompD (PQ it) f Q E := by
  refine d_mcomp (fun d o => o = none ∨ o = some d) hit (by simpa using hl) (fun d hd Q' h' => ?_) fun os hos => ?_
  · obtain ⟨x, hx, rfl⟩ := List.mem_map.mp hd
    exact hf x hx Q' (h' _ (.inl rfl)) (h' _ (.inr rfl))
  · have z := sub_of (fun _ _ h => h) hos
    obtain ⟨m, hm, e⟩ := List.sublist_map_iff.mp z
    rw [e]
    exact h m hm
@[simp] theorem spT_t (n : Nat) (ds : List PyData) (k : List PyData → PR (Option PyData)) (h : ds.length = n) : spT n (.tuple ds) k = k ds := by
  show ((if ds.length = n then PR.ok ds else .bad).bind k) = _
  rw [if_pos h]; rfl
theorem pairs_eq (ds : List PyData) : enumD ds = (ds.mapIdx fun i d => PyData.tuple [.int (i : Nat), d]) := id rfl
/-- a walk by enumerate -/
theorem allP_enum {f : PyData → PR (Option PyData)} {e : α → PyData} {g : Nat → α → Bool} (l : List α) (h : ∀ i x, l[i]? = some x → f (.tuple [.int (i : Nat), e x]) = .ok (some (.bool (g i x)))) : allP f (enumD (l.map e)) = .ok ((l.mapIdx g).all fun b => b) := by
  have key : ∀ (l : List α) (k : Nat) (g : Nat → α → Bool), (∀ i x, l[i]? = some x → f (.tuple [.int ((i + k : Nat) : Int), e x]) = .ok (some (.bool (g i x)))) → allP f ((l.map e).mapIdx fun i d => PyData.tuple [.int ((i + k : Nat) : Int), d]) = .ok ((l.mapIdx g).all fun b => b) := by
    intro l
    induction l with
    | nil => intro k g _; rfl
    | cons x l ih =>
      intro k g h
      rw [List.map_cons, List.mapIdx_cons, List.mapIdx_cons, List.all_cons]
      unfold allP
      have h0 := h 0 x rfl
      rw [h0]
      cases hg : g 0 x with
      | false => rfl
      | true =>
        simp only [bind_ok, Bool.true_and]
        have z := ih (k + 1) (fun i x => g (i + 1) x) fun i y hy => by
          have q := h (i + 1) y (by simpa using hy)
          rw [show i + 1 + k = i + (k + 1) by omega] at q
          exact q
        simpa [Nat.add_assoc, Nat.add_comm 1 k] using z
  have z := key l 0 g (by simpa using h)
  have e1 : (fun (i : Nat) (d : PyData) => PyData.tuple [.int (i : Nat), d]) = pairE := rfl
  simp only [Nat.add_zero] at z
  rw [e1] at z
  exact z
/-- sorted rows of ints -/
theorem dataLe_i (a b : Int) : PySem.W.dataLe false (fun d => d) (.int a) (.int b) = decide (a ≤ b) := by
  simp [PySem.W.dataLe, PySem.W.sortLe, PySem.W.keyToks, PyProof.Rows.lexLt, PyProof.Rows.itemOrd, PyProof.Rows.itemLt]
  by_cases h : a ≤ b <;> simp [h] <;> omega
theorem sortOk_I {l : List Int} (hl : l.length ≤ 1000000) : sortOk (I l) = true := by
  simp [sortOk, PySem.W.alike, PyData.depth, hl, I]
theorem sorted_I {l m : List Int} (hp : l.Perm m) (hm : m.Pairwise (· < ·)) (hl : l.length ≤ 1000000) : oSorted (.list (I l)) = .nl (I m) := by
  have e1 : sortD (I l) = I m := by
    unfold sortD
    rw [← List.map_mergeSort (r := fun a b : Int => decide (a ≤ b)) (fun a _ b _ => (dataLe_i a b).symm)]
    congr 1
    refine List.Perm.eq_of_pairwise (le := fun a b : Int => a ≤ b) (fun a b _ _ h1 h2 => by omega) ?_ (hm.imp fun h => by omega) ((List.mergeSort_perm _ _).trans hp)
    have z := List.pairwise_mergeSort (le := fun a b : Int => decide (a ≤ b)) (fun a b c h1 h2 => by simp at *; omega) (fun a b => by simp; omega) l
    exact z.imp fun h => by simpa using h
  show (if sortOk (I l) = true then Out.nl (sortD (I l)) else .bad) = _
  rw [if_pos (sortOk_I hl), e1]
theorem mcF {l : List Int} (p : Int → Bool) {f : PyData → PR (Option PyData)} (hl : l.length ≤ 1000000) (h : ∀ x ∈ l, f (.int x) = .ok (if p x = true then some (.int x) else none)) : mcompP (.ok (I l)) f = .ok (.list (I (l.filter p))) := mcomp_of (by simpa using hl) (compP_f l h)
@[simp] theorem lstF_nil : lstF [] = .ok (.list []) := id rfl
@[simp] theorem tupF_nil : tupF [] = .ok (.tuple []) := id rfl
theorem I_empty (l : List Int) : (I l).isEmpty = l.isEmpty := by cases l <;> rfl
theorem oEq_In (l : List Int) : oEq (.list (I l)) (.list []) = .d (.bool l.isEmpty) := by rw [oEq_nilL (shI 60 l), I_empty]
theorem oNe_In (l : List Int) : oNe (.list (I l)) (.list []) = .d (.bool (!l.isEmpty)) := by rw [oNe_nilL (shI 60 l), I_empty]
theorem oEq_It (l : List Int) : oEq (.tuple (I l)) (.tuple []) = .d (.bool l.isEmpty) := by rw [oEq_nilT (shI 60 l), I_empty]
theorem oNe_It (l : List Int) : oNe (.tuple (I l)) (.tuple []) = .d (.bool (!l.isEmpty)) := by rw [oNe_nilT (shI 60 l), I_empty]
/-- a filter by draws and by p -/
theorem d_filterP {it : PR (List PyData)} {l : List Int} (p : Int → Bool) {f : PyData → Dm (Option PyData)} {Q : PyData → Prop} (hit : it = .ok (I l)) (hl : l.length ≤ 1000000) (hf : ∀ x ∈ l, ∀ Q' : Option PyData → Prop, Q' none → (p x = true → Q' (some (.int x))) → f (.int x) Q' fun _ => False)
    (h : ∀ m : List Int, m.Sublist (l.filter p) → Q (.list (I m))) : mcompD (PQ it) f Q E := by
  refine d_mcomp (fun d o => o = none ∨ (o = some d ∧ ∃ x, d = .int x ∧ p x = true)) hit (by simpa using hl) (fun d hd Q' h' => ?_) fun os hos => ?_
  · obtain ⟨x, hx, rfl⟩ := List.mem_map.mp hd
    exact hf x hx Q' (h' _ (.inl rfl)) fun hp => h' _ (.inr ⟨rfl, x, rfl, hp⟩)
  · have key : ∀ (l : List Int) (os : List (Option PyData)), F2 (fun d o => o = none ∨ (o = some d ∧ ∃ x, d = PyData.int x ∧ p x = true)) (I l) os → ∃ m : List Int, m.Sublist (l.filter p) ∧ os.flatMap Option.toList = I m := by
      intro l
      induction l with
      | nil => intro os h; cases h; exact ⟨[], List.Sublist.refl _, rfl⟩
      | cons x l ih =>
        intro os h
        cases h with
        | cons h t =>
          obtain ⟨m, hm, e⟩ := ih _ t
          rcases h with rfl | ⟨rfl, y, hy, hp⟩
          · refine ⟨m, ?_, by rw [List.flatMap_cons, e]; rfl⟩
            rw [List.filter_cons]
            split
            · exact hm.cons x
            · exact hm
          · cases hy
            refine ⟨x :: m, ?_, by rw [List.flatMap_cons, e]; rfl⟩
            rw [List.filter_cons, if_pos hp]
            exact hm.cons₂ x
    obtain ⟨m, hm, e⟩ := key l os hos
    rw [e]
    exact h m hm
/-- a draw against a number -/
theorem d_chance {b c : Int} {f : PyData → PyData → Out} {Q : Bool → Prop} (hb : 0 < b) (hf : ∀ r : Int, ∃ t, f (.int r) (.int c) = .d (.bool t)) (h1 : Q true) (h2 : Q false) :
    tstD (b2 (bD (PQ (aconsP (.ok (.int b)) (.ok []))) fun ds => nD (A__law_take ds)) (PQ (.ok (.int c))) fun x y => outS (f x y)) Q E := by
  refine ⟨b, rfl, hb, fun r _ _ => ?_⟩
  obtain ⟨t, ht⟩ := hf r
  show PQ (outS (f (.int r) (.int c))) _ _
  rw [ht]
  cases t with
  | true => exact h1
  | false => exact h2
theorem d_orC {p : PR Bool} {c : Bool} {ch : Dm Bool} {a b : Dm α} (hp : p = .ok c) (hc : ∀ Q' : Bool → Prop, Q' true → Q' false → ch Q' E) (h1 : a Q E) (h2 : c = false → b Q E) : ifD (orD (PQ p) ch) a b Q E := by
  subst hp
  show (if c = true then (PQ (.ok true) : Dm Bool) else ch) (fun c => (if c = true then a else b) Q E) E
  cases c with
  | true => exact h1
  | false => exact hc _ h1 (h2 rfl)
theorem d_stC {p : PR Bool} {c : Bool} {ch : Dm Bool} {x : PyData} {Q : Option PyData → Prop} (hp : p = .ok c) (hc : ∀ Q' : Bool → Prop, Q' true → Q' false → ch Q' E) (h1 : c = true → Q (some x)) (h2 : Q none) : stD (andD (PQ p) ch) (PQ (.ok x)) Q E := by
  subst hp
  show (if c = true then ch else (PQ (.ok false) : Dm Bool)) (fun b => (if b = true then (bD (PQ (.ok x)) fun y => PQ (.ok (some y)) : Dm (Option PyData)) else PQ (.ok none)) Q E) E
  cases c with
  | true => exact hc _ (h1 rfl) h2
  | false => exact h2
theorem d_st {ch : Dm Bool} {x : PyData} {Q : Option PyData → Prop} (hc : ∀ Q' : Bool → Prop, Q' true → Q' false → ch Q' E) (h1 : Q (some x)) (h2 : Q none) : stD ch (PQ (.ok x)) Q E := hc _ h1 h2
theorem allP_pre {f : PyData → PR (Option PyData)} {d : PyData} {ys : List PyData} (hd : f d = .ok (some (.bool false))) : ∀ {xs : List PyData}, (∀ x ∈ xs, f x = .ok (some (.bool true))) → allP f (xs ++ d :: ys) = .ok false
  | [], _ => allP_no hd
  | x :: xs, h => by
    rw [List.cons_append]
    unfold allP
    rw [h x List.mem_cons_self]
    exact allP_pre hd fun y hy => h y (List.mem_cons_of_mem _ hy)
theorem enum_app (xs ys : List PyData) (d : PyData) : ∃ zs, enumD (xs ++ d :: ys) = enumD xs ++ pairE xs.length d :: zs := by
  unfold enumD
  rw [List.mapIdx_append, List.mapIdx_cons, Nat.zero_add]
  exact ⟨_, rfl⟩
theorem mem_enum {xs : List PyData} {d : PyData} (h : d ∈ enumD xs) : ∃ (i : Nat) (x : PyData), xs[i]? = some x ∧ d = .tuple [.int (i : Nat), x] := by
  unfold enumD at h
  obtain ⟨i, hi, rfl⟩ := List.mem_mapIdx.mp h
  exact ⟨i, xs[i], List.getElem?_eq_getElem hi, rfl⟩
@[simp] theorem sp2 (a b : PyData) (k : List PyData → PR (Option PyData)) : spT 2 (.tuple [a, b]) k = k [a, b] := id rfl
@[simp] theorem sp3 (a b c : PyData) (k : List PyData → PR (Option PyData)) : spT 3 (.tuple [a, b, c]) k = k [a, b, c] := id rfl
theorem filt_empty {α : Type} (p : α → Bool) (l : List α) : (l.filter p).isEmpty = !l.any p := by
  induction l with
  | nil => rfl
  | cons a l ih => rw [List.filter_cons, List.any_cons]; cases h : p a <;> simp [ih]
theorem d_b1 {d : Dm PyData} {f : PyData → PR PyData} {Q : PyData → Prop} (h : d (fun a => PQ (f a) Q E) E) : b1 d f Q E := h
theorem d_b2L {p : PR PyData} {a : PyData} {d2 : Dm PyData} {f : PyData → PyData → PR PyData} {Q : PyData → Prop} (h : p = .ok a) (k : d2 (fun b => PQ (f a b) Q E) E) : b2 (PQ p) d2 f Q E := by subst h; exact k
theorem d_b2R {p : PR PyData} {b : PyData} {d : Dm PyData} {f : PyData → PyData → PR PyData} {Q : PyData → Prop} (h : p = .ok b) (k : d (fun a => PQ (f a b) Q E) E) : b2 d (PQ p) f Q E := by subst h; exact k
theorem d_aconsL {d : Dm PyData} {ps : Dm (List PyData)} {Q : List PyData → Prop} (k : d (fun a => ps (fun as => Q (a :: as)) E) E) : aconsD d ps Q E := k
theorem d_takeQ {b : Int} {Q : PyData → Prop} (hb : 0 < b) (h : ∀ r : Int, 0 ≤ r → r < b → Q (.int r)) : (bD (PQ (aconsP (.ok (.int b)) (.ok []))) fun ds => nD (A__law_take ds)) Q E := ⟨b, rfl, hb, h⟩
theorem d_takeC {b : Int} {Q : PyData → Prop} (hb : 0 < b) (h : ∀ r : Int, 0 ≤ r → r < b → Q (.int r)) : nD (A__law_take [.int b]) Q E := ⟨b, rfl, hb, h⟩
theorem foldP_inv {k : PyData → σ → PR σ} (Iv : Nat → σ → Prop) (N : Nat) : ∀ (ds : List PyData) (i : Nat) (s : σ), i + ds.length ≤ N → (∀ d ∈ ds, ∀ i s, i < N → Iv i s → ∃ s', k d s = .ok s' ∧ Iv (i + 1) s') → Iv i s → ∃ s', foldP k ds s = .ok s' ∧ Iv (i + ds.length) s'
  | [], i, s, _, _, h => ⟨s, rfl, h⟩
  | d :: ds, i, s, hN, hk, h => by
    rw [List.length_cons] at hN
    obtain ⟨s1, h1, h2⟩ := hk d List.mem_cons_self i s (by omega) h
    obtain ⟨s2, h3, h4⟩ := foldP_inv Iv N ds (i + 1) s1 (by omega) (fun x hx => hk x (List.mem_cons_of_mem _ hx)) h2
    refine ⟨s2, by unfold foldP; rw [h1]; exact h3, ?_⟩
    rw [List.length_cons, show i + (ds.length + 1) = i + 1 + ds.length by omega]; exact h4
theorem appF_ok {L : List PyData} {d : PyData} (h : L.length < 1000000) : appF (.list L) d = .ok (.list (L ++ [d])) := if_pos h
theorem I_get {n i : Nat} {d : PyData} (h : (I (ran n))[i]? = some d) : d = .int (i : Nat) ∧ i < n := by
  rw [List.getElem?_map] at h
  obtain ⟨x, hx, rfl⟩ := Option.map_eq_some_iff.mp h
  unfold ran at hx
  rw [List.getElem?_map] at hx
  obtain ⟨j, hj, rfl⟩ := Option.map_eq_some_iff.mp hx
  obtain ⟨h1, h2⟩ := List.getElem?_eq_some_iff.mp hj
  rw [List.length_range] at h1
  rw [List.getElem_range] at h2
  subst h2
  exact ⟨rfl, h1⟩
theorem rg1_l {n : Nat} (h : n ≤ 1000000) : rg1F .nl outL (.int n) = .ok (.list (I (ran n))) := by
  have e : rgB 0 n = true := by unfold rgB; simp; omega
  show (if rgB 0 n = true then outL (.nl (rngL 0 (n : Int).toNat)) else .bad) = _
  rw [if_pos e, rngL0, outL_nl, Int.toNat_natCast]
theorem rg1_tr {n : Nat} (h : n ≤ 1000000) : rg1F (fun ds => .nt ds.reverse) outS (.int n) = .ok (.tuple (I (ran n).reverse)) := by
  have e : rgB 0 n = true := by unfold rgB; simp; omega
  show (if rgB 0 n = true then outS (.nt (rngL 0 (n : Int).toNat).reverse) else .bad) = _
  rw [if_pos e, rngL0, outS_nt, Int.toNat_natCast]
  simp only [I, List.map_reverse]
theorem filt_split {α : Type} (p : α → Bool) (l : List α) : (l.filter fun x => !p x).length + (l.filter p).length = l.length := by
  induction l with
  | nil => rfl
  | cons a l ih => rw [List.filter_cons, List.filter_cons]; cases h : p a <;> simp <;> omega
end
end ZP

/-! wishes behind draws, kept closed -/
namespace ZP
open PySem ZD
section
variable {α β γ σ ρ : Type} {Q : α → Prop} {E : String → Prop}
@[irreducible] def Ok (d : Dm α) (Q : α → Prop) (E : String → Prop) : Prop := d Q E
theorem ok_iff (d : Dm α) (Q : α → Prop) (E : String → Prop) : Ok d Q E = d Q E := by unfold Ok; rfl
theorem ok_of {d : Dm α} (h : Ok d Q E) : d Q E := by rw [ok_iff] at h; exact h
theorem of_ok {d : Dm α} (h : d Q E) : Ok d Q E := by rw [ok_iff]; exact h
theorem r_pure {p : PR β} {a : β} {f : β → Dm α} (h : p = .ok a) (k : Ok (f a) Q E) : Ok (bD (PQ p) f) Q E := by rw [ok_iff] at *; exact d_pure h k
theorem r_bind {d : Dm β} {f : β → Dm α} (h : Ok d (fun a => Ok (f a) Q E) E) : Ok (bD d f) Q E := by simp only [ok_iff] at *; exact h
theorem r_nD {d : Dm α} (h : Ok d Q fun _ => False) : Ok (nD d) Q E := by rw [ok_iff] at *; exact h
theorem r_draws {d : PyData} {f : Unit → Dm α} (hd : GoodScr d) (h : Ok (f ()) Q E) : Ok (bD (bD (PQ (aconsP (.ok d) (.ok []))) fun ds => nD (A__law_draws ds)) f) Q E := by rw [ok_iff] at *; exact d_draws hd h
theorem r_if {t : PR Bool} {c : Bool} {a b : Dm α} (h : t = .ok c) (h1 : c = true → Ok a Q E) (h2 : c = false → Ok b Q E) : Ok (ifD (PQ t) a b) Q E := by simp only [ok_iff] at *; exact d_if h h1 h2
theorem r_no {t : PR Bool} {a b : Dm α} (h : t = .ok false) (h2 : Ok b Q E) : Ok (ifD (PQ t) a b) Q E := r_if h (fun q => by cases q) fun _ => h2
theorem r_yes {t : PR Bool} {a b : Dm α} (h : t = .ok true) (h2 : Ok a Q E) : Ok (ifD (PQ t) a b) Q E := r_if h (fun _ => h2) fun q => by cases q
theorem r_ok {p : PR α} {a : α} (h : p = .ok a) (k : Q a) : Ok (PQ p) Q E := by rw [ok_iff]; exact d_ok h k
theorem r_fold {k : PyData → σ → Dm σ} {f : σ → Dm α} (Iv : Nat → σ → Prop) {ds : List PyData} {s0 : σ} (h0 : Iv 0 s0)
    (hk : ∀ (i : Nat) (d : PyData) (s : σ), ds[i]? = some d → Iv i s → ∀ Q' : σ → Prop, (∀ s', Iv (i + 1) s' → Q' s') → Ok (k d s) Q' E)
    (h : ∀ s, Iv ds.length s → Ok (f s) Q E) : Ok (bD (foldD k ds s0) f) Q E := by simp only [ok_iff] at *; exact d_fold Iv h0 hk h
theorem r_loop {k : PyData → σ → Dm (LR σ ρ)} {f : LR σ ρ → Dm α} (Iv : Nat → σ → Prop) {ds : List PyData} {s0 : σ} (h0 : Iv 0 s0)
    (hk : ∀ (i : Nat) (d : PyData) (s : σ), ds[i]? = some d → Iv i s → ∀ Q' : LR σ ρ → Prop, (∀ s', Iv (i + 1) s' → Q' (.nx s')) → Ok (k d s) Q' E)
    (h : ∀ s, Iv ds.length s → Ok (f (.nx s)) Q E) : Ok (bD (loopD k ds s0) f) Q E := by simp only [ok_iff] at *; exact d_loopQ Iv h0 hk h
theorem r_mcomp {it : PR (List PyData)} {ds : List PyData} {f : PyData → Dm (Option PyData)} {Q : PyData → Prop} (R : PyData → Option PyData → Prop) (hit : it = .ok ds) (hl : ds.length ≤ 1000000) (hf : ∀ d ∈ ds, ∀ Q' : Option PyData → Prop, (∀ o, R d o → Q' o) → Ok (f d) Q' fun _ => False)
    (h : ∀ os, F2 R ds os → Q (.list (os.flatMap Option.toList))) : Ok (mcompD (PQ it) f) Q E := by simp only [ok_iff] at *; exact d_mcomp R hit hl hf h
theorem r_filter {it : PR (List PyData)} {l : List Int} {f : PyData → Dm (Option PyData)} {Q : PyData → Prop} (hit : it = .ok (I l)) (hl : l.length ≤ 1000000) (hf : ∀ x ∈ l, ∀ Q' : Option PyData → Prop, Q' none → Q' (some (.int x)) → Ok (f (.int x)) Q' fun _ => False)
    (h : ∀ m : List Int, m.Sublist l → Q (.list (I m))) : Ok (mcompD (PQ it) f) Q E := by simp only [ok_iff] at *; exact d_filter hit hl hf h
theorem r_filterP {it : PR (List PyData)} {l : List Int} (p : Int → Bool) {f : PyData → Dm (Option PyData)} {Q : PyData → Prop} (hit : it = .ok (I l)) (hl : l.length ≤ 1000000) (hf : ∀ x ∈ l, ∀ Q' : Option PyData → Prop, Q' none → (p x = true → Q' (some (.int x))) → Ok (f (.int x)) Q' fun _ => False)
    (h : ∀ m : List Int, m.Sublist (l.filter p) → Q (.list (I m))) : Ok (mcompD (PQ it) f) Q E := by simp only [ok_iff] at *; exact d_filterP p hit hl hf h
/-- a draw against a number: either way -/
theorem r_chance {b c : Int} {f : PyData → PyData → Out} {Q : Bool → Prop} (hb : 0 < b) (hf : ∀ r : Int, ∃ t, f (.int r) (.int c) = .d (.bool t)) (h1 : Q true) (h2 : Q false) :
    Ok (tstD (b2 (bD (PQ (aconsP (.ok (.int b)) (.ok []))) fun ds => nD (A__law_take ds)) (PQ (.ok (.int c))) fun x y => outS (f x y))) Q E := by rw [ok_iff]; exact d_chance hb hf h1 h2
theorem r_orC {p : PR Bool} {c : Bool} {ch : Dm Bool} {a b : Dm α} (hp : p = .ok c) (hc : ∀ Q' : Bool → Prop, Q' true → Q' false → Ok ch Q' E) (h1 : Ok a Q E) (h2 : c = false → Ok b Q E) : Ok (ifD (orD (PQ p) ch) a b) Q E := by simp only [ok_iff] at *; exact d_orC hp hc h1 h2
theorem r_ifC {ch : Dm Bool} {a b : Dm α} (hc : ∀ Q' : Bool → Prop, Q' true → Q' false → Ok ch Q' E) (h1 : Ok a Q E) (h2 : Ok b Q E) : Ok (ifD ch a b) Q E := by
  simp only [ok_iff] at *
  exact hc _ (by simpa using h1) (by simpa using h2)
theorem r_stC {p : PR Bool} {c : Bool} {ch : Dm Bool} {x : PyData} {Q : Option PyData → Prop} (hp : p = .ok c) (hc : ∀ Q' : Bool → Prop, Q' true → Q' false → Ok ch Q' E) (h1 : c = true → Q (some x)) (h2 : Q none) : Ok (stD (andD (PQ p) ch) (PQ (.ok x))) Q E := by simp only [ok_iff] at *; exact d_stC hp hc h1 h2
theorem r_st {ch : Dm Bool} {x : PyData} {Q : Option PyData → Prop} (hc : ∀ Q' : Bool → Prop, Q' true → Q' false → Ok ch Q' E) (h1 : Q (some x)) (h2 : Q none) : Ok (stD ch (PQ (.ok x))) Q E := by simp only [ok_iff] at *; exact d_st hc h1 h2
/-- and, or of tests that draw: either way -/
theorem r_and {p : PR Bool} {c : Bool} {ch : Dm Bool} {Q : Bool → Prop} (hp : p = .ok c) (hc : ∀ Q' : Bool → Prop, Q' true → Q' false → Ok ch Q' E) (h1 : c = true → Q true) (h2 : Q false) : Ok (andD (PQ p) ch) Q E := by
  subst hp
  rw [ok_iff]
  show (if c = true then ch else (PQ (.ok false) : Dm Bool)) Q E
  cases c with
  | true => exact ok_of (hc _ (h1 rfl) h2)
  | false => exact h2
theorem r_or {p : PR Bool} {c : Bool} {ch : Dm Bool} {Q : Bool → Prop} (hp : p = .ok c) (hc : ∀ Q' : Bool → Prop, Q' true → Q' false → Ok ch Q' E) (h1 : Q true) (h2 : c = false → Q false) : Ok (orD (PQ p) ch) Q E := by
  subst hp
  rw [ok_iff]
  show (if c = true then (PQ (.ok true) : Dm Bool) else ch) Q E
  cases c with
  | true => exact h1
  | false => exact ok_of (hc _ h1 (h2 rfl))
theorem r_b1 {d : Dm PyData} {f : PyData → PR PyData} {Q : PyData → Prop} (h : Ok d (fun a => Ok (PQ (f a)) Q E) E) : Ok (b1 d f) Q E := by simp only [ok_iff] at *; exact h
theorem r_b2 {d d2 : Dm PyData} {f : PyData → PyData → PR PyData} {Q : PyData → Prop} (h : Ok d (fun a => Ok d2 (fun b => Ok (PQ (f a b)) Q E) E) E) : Ok (b2 d d2 f) Q E := by simp only [ok_iff] at *; exact h
theorem r_b2L {p : PR PyData} {a : PyData} {d2 : Dm PyData} {f : PyData → PyData → PR PyData} {Q : PyData → Prop} (h : p = .ok a) (k : Ok d2 (fun b => Ok (PQ (f a b)) Q E) E) : Ok (b2 (PQ p) d2 f) Q E := by simp only [ok_iff] at *; exact d_b2L h k
theorem r_b2R {p : PR PyData} {b : PyData} {d : Dm PyData} {f : PyData → PyData → PR PyData} {Q : PyData → Prop} (h : p = .ok b) (k : Ok d (fun a => Ok (PQ (f a b)) Q E) E) : Ok (b2 d (PQ p) f) Q E := by simp only [ok_iff] at *; exact d_b2R h k
theorem r_acons {d : Dm PyData} {ps : Dm (List PyData)} {Q : List PyData → Prop} (k : Ok d (fun a => Ok ps (fun as => Q (a :: as)) E) E) : Ok (aconsD d ps) Q E := by simp only [ok_iff] at *; exact k
theorem r_take {p : PR PyData} {b : Int} {Q : PyData → Prop} (hp : p = .ok (.int b)) (hb : 0 < b) (h : ∀ r : Int, 0 ≤ r → r < b → Q (.int r)) : Ok (bD (PQ (aconsP p (.ok []))) fun ds => nD (A__law_take ds)) Q E := by subst hp; rw [ok_iff]; exact d_takeQ hb h
theorem r_takeC {b : Int} {Q : PyData → Prop} (hb : 0 < b) (h : ∀ r : Int, 0 ≤ r → r < b → Q (.int r)) : Ok (nD (A__law_take [.int b])) Q E := by rw [ok_iff]; exact d_takeC hb h
theorem aftD_nx {α σ ρ : Type} (d2 : σ → Dm α) (inj : ρ → α) (s : σ) : aftD d2 inj (.nx s) = d2 s := id rfl
theorem aftP_nx {α σ ρ : Type} (d2 : σ → PR α) (inj : ρ → α) (s : σ) : aftP d2 inj (.nx s) = d2 s := id rfl
theorem r_loopA {k : PyData → σ → Dm (LR σ ρ)} {d2 : σ → Dm α} {inj : ρ → α} (Iv : Nat → σ → Prop) {ds : List PyData} {s0 : σ} (h0 : Iv 0 s0)
    (hk : ∀ (i : Nat) (d : PyData) (s : σ), ds[i]? = some d → Iv i s → ∀ Q' : LR σ ρ → Prop, (∀ s', Iv (i + 1) s' → Q' (.nx s')) → Ok (k d s) Q' E)
    (h : ∀ s, Iv ds.length s → Ok (d2 s) Q E) : Ok (bD (loopD k ds s0) (aftD d2 inj)) Q E := r_loop Iv h0 hk fun s hs => by rw [aftD_nx]; exact h s hs
/-- a loop with returns that goes through, in plain -/
theorem loopP_thru {k : PyData → σ → PR (LR σ ρ)} {d2 : σ → PR α} {inj : ρ → α} {s : σ} {ds : List PyData} (h : ∀ d ∈ ds, k d s = .ok (.nx s)) : (loopP k ds s).bind (aftP d2 inj) = d2 s := by
  rw [loopP_all h, bind_ok, aftP_nx]
theorem bind_eq {p : PR β} {a : β} {f : β → PR α} {r : PR α} (h : p = .ok a) (k : f a = r) : p.bind f = r := by rw [h]; exact k
@[simp] theorem tupF1 (a : PyData) : tupF [a] = .ok (.tuple [a]) := id rfl
@[simp] theorem tupF2 (a b : PyData) : tupF [a, b] = .ok (.tuple [a, b]) := id rfl
@[simp] theorem tupF3 (a b c : PyData) : tupF [a, b, c] = .ok (.tuple [a, b, c]) := id rfl
@[simp] theorem tupF4 (a b c d : PyData) : tupF [a, b, c, d] = .ok (.tuple [a, b, c, d]) := id rfl
@[simp] theorem lstF1 (a : PyData) : lstF [a] = .ok (.list [a]) := id rfl
@[simp] theorem lstF2 (a b : PyData) : lstF [a, b] = .ok (.list [a, b]) := id rfl
@[simp] theorem lstF3 (a b c : PyData) : lstF [a, b, c] = .ok (.list [a, b, c]) := id rfl
@[simp] theorem lstF4 (a b c d : PyData) : lstF [a, b, c, d] = .ok (.list [a, b, c, d]) := id rfl
theorem lstF_len {ds : List PyData} (h : ds.length ≤ 1000) : lstF ds = .ok (.list ds) := if_pos h
theorem tupF_len {ds : List PyData} (h : ds.length ≤ 1000) : tupF ds = .ok (.tuple ds) := if_pos h
end
end ZP

namespace Q43
open PySem PySem.Spec PyProof.Rows L2 ZD
def top (i : Nat) : Stmt := PySem.Challenge.pw_happenedfirst_k43_programs_and_gaps.main.body.getD i (.Pass ⟨0, 0, 0, 0⟩)
def tf : List He.Defn := [("is_name", none), ("is_thread", none), ("is_program", none)]
abbrev TT (K : PySem.W.Frag) : List Addr := tf.map fun p => (He.cT K p).2
/-- what the top has left -/
structure Tops (w : World) (K : PySem.W.Frag) (mg : Str → Option Value) (base : Heap) : Prop where
  n_abs : mg "abs" = none
  n_all : mg "all" = none
  n_bool : mg "bool" = none
  n_enumerate : mg "enumerate" = none
  n_int : mg "int" = none
  n_isinstance : mg "isinstance" = none
  n_len : mg "len" = none
  n_list : mg "list" = none
  n_min : mg "min" = none
  n_range : mg "range" = none
  n_reversed : mg "reversed" = none
  n_sorted : mg "sorted" = none
  n_str : mg "str" = none
  n_sum : mg "sum" = none
  n_tuple : mg "tuple" = none
  g_MOST_COMMANDS : Glo K mg "MOST_COMMANDS" (.int 4)
  g_MOST_IN_ALL : Glo K mg "MOST_IN_ALL" (.int 8)
  g_MOST_THREADS : Glo K mg "MOST_THREADS" (.int 3)
  f_is_name : ∃ fd, FunD K "is_name" "is_name" (defArgs (top 1)) (defBody (top 1)) (defScope (top 1)) [] [] (He.ga K "is_name") fd ∧ mg "is_name" = some (.ref (He.ga K "is_name"))
  f_is_digit : ∃ fd, FunD K "is_digit" "is_digit" (defArgs (top 6)) (defBody (top 6)) (defScope (top 6)) [] [] (He.ga K "is_digit") fd ∧ mg "is_digit" = some (.ref (He.ga K "is_digit"))
  f_is_command : ∃ fd, FunD K "is_command" "is_command" (defArgs (top 7)) (defBody (top 7)) (defScope (top 7)) [] [] (He.ga K "is_command") fd ∧ mg "is_command" = some (.ref (He.ga K "is_command"))
  f_is_thread : ∃ fd, FunD K "is_thread" "is_thread" (defArgs (top 8)) (defBody (top 8)) (defScope (top 8)) [] [] (He.ga K "is_thread") fd ∧ mg "is_thread" = some (.ref (He.ga K "is_thread"))
  f_is_program : ∃ fd, FunD K "is_program" "is_program" (defArgs (top 9)) (defBody (top 9)) (defScope (top 9)) [] [] (He.ga K "is_program") fd ∧ mg "is_program" = some (.ref (He.ga K "is_program"))
  f_registers : ∃ fd, FunD K "registers" "registers" (defArgs (top 10)) (defBody (top 10)) (defScope (top 10)) [] [] (He.ga K "registers") fd ∧ mg "registers" = some (.ref (He.ga K "registers"))
  f_gaps : ∃ fd, FunD K "gaps" "gaps" (defArgs (top 11)) (defBody (top 11)) (defScope (top 11)) [] [] (He.ga K "gaps") fd ∧ mg "gaps" = some (.ref (He.ga K "gaps"))
  f_fenced : ∃ fd, FunD K "fenced" "fenced" (defArgs (top 12)) (defBody (top 12)) (defScope (top 12)) [] [] (He.ga K "fenced") fd ∧ mg "fenced" = some (.ref (He.ga K "fenced"))
  f__law_draws : ∃ fd, FunD K "_law_draws" "_law_draws" (defArgs (top 14)) (defBody (top 14)) (defScope (top 14)) [] [] (He.ga K "_law_draws") fd ∧ mg "_law_draws" = some (.ref (He.ga K "_law_draws"))
  f__law_take : ∃ fd, FunD K "_law_take" "_law_take" (defArgs (top 15)) (defBody (top 15)) (defScope (top 15)) [] [] (He.ga K "_law_take") fd ∧ mg "_law_take" = some (.ref (He.ga K "_law_take"))
  f__law_says : ∃ fd, FunD K "_law_says" "_law_says" (defArgs (top 16)) (defBody (top 16)) (defScope (top 16)) [] [] (He.ga K "_law_says") fd ∧ mg "_law_says" = some (.ref (He.ga K "_law_says"))
  f__law_alike : ∃ fd, FunD K "_law_alike" "_law_alike" (defArgs (top 17)) (defBody (top 17)) (defScope (top 17)) [] [] (He.ga K "_law_alike") fd ∧ mg "_law_alike" = some (.ref (He.ga K "_law_alike"))
  f__law_command : ∃ fd, FunD K "_law_command" "_law_command" (defArgs (top 18)) (defBody (top 18)) (defScope (top 18)) [] [] (He.ga K "_law_command") fd ∧ mg "_law_command" = some (.ref (He.ga K "_law_command"))
  f__law_program : ∃ fd, FunD K "_law_program" "_law_program" (defArgs (top 19)) (defBody (top 19)) (defScope (top 19)) [] [] (He.ga K "_law_program") fd ∧ mg "_law_program" = some (.ref (He.ga K "_law_program"))
  f__law_odd : ∃ fd, FunD K "_law_odd" "_law_odd" (defArgs (top 20)) (defBody (top 20)) (defScope (top 20)) [] [] (He.ga K "_law_odd") fd ∧ mg "_law_odd" = some (.ref (He.ga K "_law_odd"))
  f_law : ∃ fd, FunD K "law" "law" (defArgs (top 21)) (defBody (top 21)) (defScope (top 21)) [] [] (He.ga K "law") fd ∧ mg "law" = some (.ref (He.ga K "law"))
  t_is_name : GxR.TabB base mg (He.cT K ("is_name", none)).1 (He.cT K ("is_name", none)).2
  t_is_thread : GxR.TabB base mg (He.cT K ("is_thread", none)).1 (He.cT K ("is_thread", none)).2
  t_is_program : GxR.TabB base mg (He.cT K ("is_program", none)).1 (He.cT K ("is_program", none)).2
section
variable {P : Program} {w : World} {K : PySem.W.Frag} {mg : Str → Option Value} {base : Heap}
/-! is_name -/
theorem sc_is_name : FnScope ["value", "sign"] ["value"] (defScope (top 1)) := ⟨rfl, rfl, rfl, by decide +kernel, rfl, by decide +kernel, by decide +kernel⟩
def c1_is_name : M PyData := mall [1] (seqM (nv 0)) (tgN 1) mtrue (fz (op2c oLe oLe (odD (cst (.str "a"))) (nm 1) (odD (cst (.str "z")))))
def m_is_name : M Fl := (mret (shV (vand (fz (op1 (oTest isiStr) (nm 0))) (vand (fz (op2c oLe oLe (odD (cst (.int 1))) (odD (fz (op1 oLen (nm 0)))) (odD (cst (.int 16))))) c1_is_name))))
def F_is_name : Fn := run 2 m_is_name
theorem ok_is_name (t : Tops w K mg base) : Has P w K mg base (TT K) "is_name" 3 ["value"] 1 F_is_name := by
  obtain ⟨fd, F, hm⟩ := t.f_is_name
  have hTB := t.t_is_name
  have hP : (He.cT K ("is_name", none)).2 ∈ TT K := List.mem_map.mpr ⟨("is_name", none), by decide, rfl⟩
  have hcode := code_of (p := ("is_name", none)) F rfl
  have key := fn_okD (P := P) (w := w) (mg := mg) (base := base) (T := TT K) (k := 2) (m := m_is_name) F sc_is_name fun cdv A outer s H E hcd hr => (gss_one (gs_ret (ge_sh (gd_and (gd_fz (ge_isi isi_str rfl t.n_isinstance rfl t.n_str (go_s 0 (pv 0)))) (gd_and (gd_fz (ge_chain c_le c_le (go_d gd_int) (go_d (gd_fz (ge_len rfl t.n_len (go_s 0 (pv 0))))) (go_d gd_int))) (gd_one (gd_all (k := 0) (own := [("sign", 1)]) rfl hP (hr.mono (by omega)) sc_is_name.nd rfl rfl t.n_all hTB (hcd.symm.trans hcode) rfl rfl (blk_of (by kernel_rfl)) (gi_seq (gd_v 0 (pv 0))) (fun _ _ _ _ _ _ hr2 => (gg_name (by decide) sc_is_name.nd rfl (by first | exact .inl rfl | exact .inr rfl))) (fun _ _ _ _ _ _ hr2 => gts_nil) (fun _ _ _ _ _ _ hr2 => (gd_fz (ge_chain c_le c_le (go_d gd_str) (go_s 1 (pv 1)) (go_d gd_str)))))))))))
  exact ⟨fd, hm, F.kp, F.bindsN (fun _ _ _ _ _ _ us hl => match us, hl with | [_], _ => rfl), key⟩
/-! is_digit -/
theorem sc_is_digit : FnScope ["value"] ["value"] (defScope (top 6)) := ⟨rfl, rfl, rfl, by decide +kernel, rfl, by decide +kernel, by decide +kernel⟩
def m_is_digit : M Fl := (mret (shV (vand (fz (op1 (oTest isiInt) (nm 0))) (vand (vnot (fz (op1 (oTest isiBool) (nm 0)))) (fz (op2c oLe oLe (odD (cst (.int 0))) (nm 0) (odD (cst (.int 9)))))))))
def F_is_digit : Fn := run 1 m_is_digit
theorem ok_is_digit (t : Tops w K mg base) : Has P w K mg base (TT K) "is_digit" 1 ["value"] 1 F_is_digit := by
  obtain ⟨fd, F, hm⟩ := t.f_is_digit
  have key := fn_okD (P := P) (w := w) (mg := mg) (base := base) (T := TT K) (k := 0) (m := m_is_digit) F sc_is_digit fun cdv A outer s H E hcd hr => (gss_one (gs_ret (ge_sh (gd_and (gd_fz (ge_isi isi_int rfl t.n_isinstance rfl t.n_int (go_s 0 (pv 0)))) (gd_and (gd_not (gd_fz (ge_isi isi_bool rfl t.n_isinstance rfl t.n_bool (go_s 0 (pv 0))))) (gd_one (gd_fz (ge_chain c_le c_le (go_d gd_int) (go_s 0 (pv 0)) (go_d gd_int)))))))))
  exact ⟨fd, hm, F.kp, F.bindsN (fun _ _ _ _ _ _ us hl => match us, hl with | [_], _ => rfl), key⟩
/-! is_command -/
theorem sc_is_command : FnScope ["value"] ["value"] (defScope (top 7)) := ⟨rfl, rfl, rfl, by decide +kernel, rfl, by decide +kernel, by decide +kernel⟩
def m_is_command : M Fl := (mseq (mifS (mor (mnot (tst (fz (op1 (oTest isiTup) (nm 0))))) (mor (tst (fz (op2 oEq (odD (fz (op1 oLen (nm 0)))) (odD (cst (.int 0)))))) (mnot (tst (fz (op1 (oTest isiStr) (odD (fz (op2 oIx (nm 0) (odD (cst (.int 0))))))))))))
  (mret (shV (cst (.bool false))))
  mnx)
 (mseq (mifS (tst (fz (op2 oEq (odD (fz (op2 oIx (nm 0) (odD (cst (.int 0)))))) (odD (cst (.str "put"))))))
  (mret (shV (vand (fz (op2 oEq (odD (fz (op1 oLen (nm 0)))) (odD (cst (.int 3))))) (vand (fz (mcall 1 F_is_name (macons (fz (op2 oIx (nm 0) (odD (cst (.int 1))))) manil))) (fz (mcall 1 F_is_digit (macons (fz (op2 oIx (nm 0) (odD (cst (.int 2))))) manil)))))))
  mnx)
 (mseq (mifS (tst (fz (op2 oEq (odD (fz (op2 oIx (nm 0) (odD (cst (.int 0)))))) (odD (cst (.str "get"))))))
  (mret (shV (vand (fz (op2 oEq (odD (fz (op1 oLen (nm 0)))) (odD (cst (.int 3))))) (vand (fz (mcall 1 F_is_name (macons (fz (op2 oIx (nm 0) (odD (cst (.int 1))))) manil))) (fz (mcall 1 F_is_name (macons (fz (op2 oIx (nm 0) (odD (cst (.int 2))))) manil)))))))
  mnx)
 (mseq (mifS (tst (fz (op2 oEq (odD (fz (op2 oIx (nm 0) (odD (cst (.int 0)))))) (odD (cst (.str "swap"))))))
  (mret (shV (vand (fz (op2 oEq (odD (fz (op1 oLen (nm 0)))) (odD (cst (.int 4))))) (vand (fz (mcall 1 F_is_name (macons (fz (op2 oIx (nm 0) (odD (cst (.int 1))))) manil))) (vand (fz (mcall 1 F_is_digit (macons (fz (op2 oIx (nm 0) (odD (cst (.int 2))))) manil))) (fz (mcall 1 F_is_name (macons (fz (op2 oIx (nm 0) (odD (cst (.int 3))))) manil))))))))
  mnx)
 (mret (op2 oEq (nm 0) (odD (mtup (macons (cst (.str "fence")) manil)))))))))
def F_is_command : Fn := run 1 m_is_command
theorem ok_is_command (t : Tops w K mg base) : Has P w K mg base (TT K) "is_command" 4 ["value"] 1 F_is_command := by
  obtain ⟨fd, F, hm⟩ := t.f_is_command
  have H_is_name := ok_is_name (P := P) t
  have H_is_digit := ok_is_digit (P := P) t
  have key := fn_okD (P := P) (w := w) (mg := mg) (base := base) (T := TT K) (k := 3) (m := m_is_command) F sc_is_command fun cdv A outer s H E hcd hr => (gss_cons (gs_if (gt_w (gw_or (gt_not (gt_val (gd_fz (ge_isi isi_tup rfl t.n_isinstance rfl t.n_tuple (go_s 0 (pv 0)))))) (gw_or (gt_cmp (c_eq hr) (go_d (gd_fz (ge_len rfl t.n_len (go_s 0 (pv 0))))) (go_d gd_int)) (gw_or1 (gt_not (gt_val (gd_fz (ge_isi isi_str rfl t.n_isinstance rfl t.n_str (go_d (gd_fz (ge_ix (go_s 0 (pv 0)) (go_d gd_int))))))))))))
  (gss_one (gs_ret (ge_sh gd_bool)))
  gss_nil)
 (gss_cons (gs_if (gt_cmp (c_eq hr) (go_d (gd_fz (ge_ix (go_s 0 (pv 0)) (go_d gd_int)))) (go_d gd_str))
  (gss_one (gs_ret (ge_sh (gd_and (gd_fz (ge_cmp (c_eq hr) (go_d (gd_fz (ge_len rfl t.n_len (go_s 0 (pv 0))))) (go_d gd_int))) (gd_and (gd_fz (ge_callH H_is_name hr (by omega) rfl (ga_cons (gd_fz (ge_ix (go_s 0 (pv 0)) (go_d gd_int))) ga_nil))) (gd_one (gd_fz (ge_callH H_is_digit hr (by omega) rfl (ga_cons (gd_fz (ge_ix (go_s 0 (pv 0)) (go_d gd_int))) ga_nil)))))))))
  gss_nil)
 (gss_cons (gs_if (gt_cmp (c_eq hr) (go_d (gd_fz (ge_ix (go_s 0 (pv 0)) (go_d gd_int)))) (go_d gd_str))
  (gss_one (gs_ret (ge_sh (gd_and (gd_fz (ge_cmp (c_eq hr) (go_d (gd_fz (ge_len rfl t.n_len (go_s 0 (pv 0))))) (go_d gd_int))) (gd_and (gd_fz (ge_callH H_is_name hr (by omega) rfl (ga_cons (gd_fz (ge_ix (go_s 0 (pv 0)) (go_d gd_int))) ga_nil))) (gd_one (gd_fz (ge_callH H_is_name hr (by omega) rfl (ga_cons (gd_fz (ge_ix (go_s 0 (pv 0)) (go_d gd_int))) ga_nil)))))))))
  gss_nil)
 (gss_cons (gs_if (gt_cmp (c_eq hr) (go_d (gd_fz (ge_ix (go_s 0 (pv 0)) (go_d gd_int)))) (go_d gd_str))
  (gss_one (gs_ret (ge_sh (gd_and (gd_fz (ge_cmp (c_eq hr) (go_d (gd_fz (ge_len rfl t.n_len (go_s 0 (pv 0))))) (go_d gd_int))) (gd_and (gd_fz (ge_callH H_is_name hr (by omega) rfl (ga_cons (gd_fz (ge_ix (go_s 0 (pv 0)) (go_d gd_int))) ga_nil))) (gd_and (gd_fz (ge_callH H_is_digit hr (by omega) rfl (ga_cons (gd_fz (ge_ix (go_s 0 (pv 0)) (go_d gd_int))) ga_nil))) (gd_one (gd_fz (ge_callH H_is_name hr (by omega) rfl (ga_cons (gd_fz (ge_ix (go_s 0 (pv 0)) (go_d gd_int))) ga_nil))))))))))
  gss_nil)
 (gss_one (gs_ret (ge_cmp (c_eq hr) (go_s 0 (pv 0)) (go_d (gd_tup (ga_cons gd_str ga_nil))))))))))
  exact ⟨fd, hm, F.kp, F.bindsN (fun _ _ _ _ _ _ us hl => match us, hl with | [_], _ => rfl), key⟩
/-! is_thread -/
theorem sc_is_thread : FnScope ["value", "one", "names", "command", "name"] ["value"] (defScope (top 8)) := ⟨rfl, rfl, rfl, by decide +kernel, rfl, by decide +kernel, by decide +kernel⟩
def c1_is_thread : M PyData := mall [1] (seqM (nv 0)) (tgN 1) mtrue (fz (mcall 1 F_is_command (macons (nv 1) manil)))
def c2_is_thread : M Vl := mcomp [3] (seqM (nv 0)) (tgN 3) (tst (fz (op2 (oIn false) (odD (fz (op2 oIx (nm 3) (odD (cst (.int 0)))))) (odD (mtup (macons (cst (.str "get")) (macons (cst (.str "swap")) manil))))))) (fz (op2 oIx (nm 3) (odD (fz (op1 (oI1 fun i => -i) (odD (cst (.int 1))))))))
def c3_is_thread : M PyData := mlset [4] (seqM (nv 2)) (tgN 4) mtrue (nv 4)
def m_is_thread : M Fl := (mseq (mifS (mor (mnot (tst (fz (op1 (oTest isiTup) (nm 0))))) (mor (tst (fz (op2 oGt (odD (fz (op1 oLen (nm 0)))) (odD (cst (.int 4)))))) (mnot (tst c1_is_thread))))
  (mret (shV (cst (.bool false))))
  mnx)
 (mseq (asgN 2 c2_is_thread)
 (mret (op2 oEq (odD c3_is_thread) (odD (fz (op1 oLen (nm 2))))))))
def F_is_thread : Fn := run 5 m_is_thread
theorem ok_is_thread (t : Tops w K mg base) : Has P w K mg base (TT K) "is_thread" 7 ["value"] 1 F_is_thread := by
  obtain ⟨fd, F, hm⟩ := t.f_is_thread
  have hTB := t.t_is_thread
  have hP : (He.cT K ("is_thread", none)).2 ∈ TT K := List.mem_map.mpr ⟨("is_thread", none), by decide, rfl⟩
  have hcode := code_of (p := ("is_thread", none)) F rfl
  have H_is_command := ok_is_command (P := P) t
  have key := fn_okD (P := P) (w := w) (mg := mg) (base := base) (T := TT K) (k := 6) (m := m_is_thread) F sc_is_thread fun cdv A outer s H E hcd hr => (gss_cons (gs_if (gt_w (gw_or (gt_not (gt_val (gd_fz (ge_isi isi_tup rfl t.n_isinstance rfl t.n_tuple (go_s 0 (pv 0)))))) (gw_or (gt_cmp c_gt (go_d (gd_fz (ge_len rfl t.n_len (go_s 0 (pv 0))))) (go_d (gd_glo t.g_MOST_COMMANDS rfl))) (gw_or1 (gt_not (gt_val (gd_all (k := 4) (own := [("one", 1)]) rfl hP (hr.mono (by omega)) sc_is_thread.nd rfl rfl t.n_all hTB (hcd.symm.trans hcode) rfl rfl (blk_of (by kernel_rfl)) (gi_seq (gd_v 0 (pv 0))) (fun _ _ _ _ _ _ hr2 => (gg_name (by decide) sc_is_thread.nd rfl (by first | exact .inl rfl | exact .inr rfl))) (fun _ _ _ _ _ _ hr2 => gts_nil) (fun _ _ _ _ _ _ hr2 => (gd_fz (ge_callH H_is_command hr2 (by omega) rfl (ga_cons (gd_v 1 (pv 1)) ga_nil)))))))))))
  (gss_one (gs_ret (ge_sh gd_bool)))
  gss_nil)
 (gss_cons (gs_setLc (own := [("command", 3)]) rfl rfl sc_is_thread.nd rfl rfl rfl (gi_seq (gd_v 0 (pv 0))) (blk_of (by kernel_rfl)) (fun _ _ _ _ _ => (gg_name (by decide) sc_is_thread.nd rfl (by first | exact .inl rfl | exact .inr rfl))) (fun _ _ _ _ _ => (gts_one (gt_cmp c_in (go_d (gd_fz (ge_ix (go_s 3 (pv 3)) (go_d gd_int)))) (go_d (gd_tup (ga_cons gd_str (ga_cons gd_str ga_nil))))))) (fun _ _ _ _ _ => (gd_fz (ge_ix (go_s 3 (pv 3)) (go_d (gd_fz (ge_neg (go_d gd_int))))))))
 (gss_one (gs_ret (ge_cmp (c_eq hr) (go_d (gd_lenset (own := [("name", 4)]) rfl rfl sc_is_thread.nd rfl t.n_len (gi_seq (gd_v 2 (pv 2))) (blk_of (by kernel_rfl)) (fun _ _ _ _ _ => (gg_name (by decide) sc_is_thread.nd rfl (by first | exact .inl rfl | exact .inr rfl))) (fun _ _ _ _ _ => gts_nil) (fun _ _ _ _ _ => (gd_v 4 (pv 4))))) (go_d (gd_fz (ge_len rfl t.n_len (go_s 2 (pv 2))))))))))
  exact ⟨fd, hm, F.kp, F.bindsN (fun _ _ _ _ _ _ us hl => match us, hl with | [_], _ => rfl), key⟩
/-! is_program -/
theorem sc_is_program : FnScope ["value", "one", "thread"] ["value"] (defScope (top 9)) := ⟨rfl, rfl, rfl, by decide +kernel, rfl, by decide +kernel, by decide +kernel⟩
def c1_is_program : M PyData := mall [1] (seqM (nv 0)) (tgN 1) mtrue (fz (mcall 1 F_is_thread (macons (nv 1) manil)))
def c2_is_program : M Vl := mcomp [2] (seqM (nv 0)) (tgN 2) mtrue (fz (op1 oLen (nm 2)))
def m_is_program : M Fl := (mseq (mifS (mor (mnot (tst (fz (op1 (oTest isiTup) (nm 0))))) (mor (mnot (tst (fz (op2c oLe oLe (odD (cst (.int 1))) (odD (fz (op1 oLen (nm 0)))) (odD (cst (.int 3))))))) (mnot (tst c1_is_program))))
  (mret (shV (cst (.bool false))))
  mnx)
 (mret (op2 oLe (odD (fz (op1 oSum (odD (fz c2_is_program))))) (odD (cst (.int 8))))))
def F_is_program : Fn := run 3 m_is_program
theorem ok_is_program (t : Tops w K mg base) : Has P w K mg base (TT K) "is_program" 10 ["value"] 1 F_is_program := by
  obtain ⟨fd, F, hm⟩ := t.f_is_program
  have hTB := t.t_is_program
  have hP : (He.cT K ("is_program", none)).2 ∈ TT K := List.mem_map.mpr ⟨("is_program", none), by decide, rfl⟩
  have hcode := code_of (p := ("is_program", none)) F rfl
  have H_is_thread := ok_is_thread (P := P) t
  have key := fn_okD (P := P) (w := w) (mg := mg) (base := base) (T := TT K) (k := 9) (m := m_is_program) F sc_is_program fun cdv A outer s H E hcd hr => (gss_cons (gs_if (gt_w (gw_or (gt_not (gt_val (gd_fz (ge_isi isi_tup rfl t.n_isinstance rfl t.n_tuple (go_s 0 (pv 0)))))) (gw_or (gt_not (gt_chain c_le c_le (go_d gd_int) (go_d (gd_fz (ge_len rfl t.n_len (go_s 0 (pv 0))))) (go_d (gd_glo t.g_MOST_THREADS rfl)))) (gw_or1 (gt_not (gt_val (gd_all (k := 7) (own := [("one", 1)]) rfl hP (hr.mono (by omega)) sc_is_program.nd rfl rfl t.n_all hTB (hcd.symm.trans hcode) rfl rfl (blk_of (by kernel_rfl)) (gi_seq (gd_v 0 (pv 0))) (fun _ _ _ _ _ _ hr2 => (gg_name (by decide) sc_is_program.nd rfl (by first | exact .inl rfl | exact .inr rfl))) (fun _ _ _ _ _ _ hr2 => gts_nil) (fun _ _ _ _ _ _ hr2 => (gd_fz (ge_callH H_is_thread hr2 (by omega) rfl (ga_cons (gd_v 1 (pv 1)) ga_nil)))))))))))
  (gss_one (gs_ret (ge_sh gd_bool)))
  gss_nil)
 (gss_one (gs_ret (ge_cmp c_le (go_d (gd_fz (ge_sum rfl rfl t.n_sum (go_d (gd_fz (ge_lc (own := [("thread", 2)]) rfl rfl sc_is_program.nd (gi_seq (gd_v 0 (pv 0))) (blk_of (by kernel_rfl)) (fun _ _ _ _ _ => (gg_name (by decide) sc_is_program.nd rfl (by first | exact .inl rfl | exact .inr rfl))) (fun _ _ _ _ _ => gts_nil) (fun _ _ _ _ _ => (gd_fz (ge_len rfl t.n_len (go_s 2 (pv 2))))))))))) (go_d (gd_glo t.g_MOST_IN_ALL rfl))))))
  exact ⟨fd, hm, F.kp, F.bindsN (fun _ _ _ _ _ _ us hl => match us, hl with | [_], _ => rfl), key⟩
/-! registers -/
theorem sc_registers : FnScope ["program", "found", "number", "thread", "command"] ["program"] (defScope (top 10)) := ⟨rfl, rfl, rfl, by decide +kernel, rfl, by decide +kernel, by decide +kernel⟩
def c1_registers : M Vl := mcomp [4] (seqM (nv 3)) (tgN 4) (tst (fz (op2 (oIn false) (odD (fz (op2 oIx (nm 4) (odD (cst (.int 0)))))) (odD (mtup (macons (cst (.str "get")) (macons (cst (.str "swap")) manil))))))) (mtup (macons (nv 2) (macons (fz (op2 oIx (nm 4) (odD (fz (op1 (oI1 fun i => -i) (odD (cst (.int 1)))))))) manil)))
def l2_registers : M Fl := mfor (enumM (nv 0)) (tgtup 2 (tgcons (tgN 2) (tgcons (tgN 3) tgnil)))
  (mdrop (shV (mext 1 (fz c1_registers))))
def m_registers : M Fl := (mseq (asgN 1 (mlst manil))
 (mseq l2_registers
 (mret (op1 oSorted (nm 1)))))
def F_registers : Fn := run 5 m_registers
theorem ok_registers (t : Tops w K mg base) : Has P w K mg base (TT K) "registers" 1 ["program"] 1 F_registers := by
  obtain ⟨fd, F, hm⟩ := t.f_registers
  have key := fn_okD (P := P) (w := w) (mg := mg) (base := base) (T := TT K) (k := 0) (m := m_registers) F sc_registers fun cdv A outer s H E hcd hr => (gss_cons (gs_set (i := 1) sc_registers.nd rfl (by first | exact .inl rfl | exact .inr rfl) (ge_lst ga_nil))
 (gss_cons (gs_for (L := [2, 3]) PassesOwn.never rfl (gi_enum rfl t.n_enumerate (gd_v 0 (pv 0))) (gg_top (ggt_tup rfl (ggs_cons (gg_name (by decide) sc_registers.nd rfl (by first | exact .inl rfl | exact .inr rfl)) (ggs_cons (gg_name (by decide) sc_registers.nd rfl (by first | exact .inl rfl | exact .inr rfl)) ggs_nil))))
  (gss_one (gs_expr (ge_sh (gd_extend (pv 1) (gd_fz (ge_lc (own := [("command", 4)]) rfl rfl sc_registers.nd (gi_seq (gd_v 3 (pv 3))) (blk_of (by kernel_rfl)) (fun _ _ _ _ _ => (gg_name (by decide) sc_registers.nd rfl (by first | exact .inl rfl | exact .inr rfl))) (fun _ _ _ _ _ => (gts_one (gt_cmp c_in (go_d (gd_fz (ge_ix (go_s 4 (pv 4)) (go_d gd_int)))) (go_d (gd_tup (ga_cons gd_str (ga_cons gd_str ga_nil))))))) (fun _ _ _ _ _ => (gd_tup (ga_cons (gd_v 2 (pv 2)) (ga_cons (gd_fz (ge_ix (go_s 4 (pv 4)) (go_d (gd_fz (ge_neg (go_d gd_int)))))) ga_nil)))))))))))
 (gss_one (gs_ret (ge_sorted hr rfl t.n_sorted (go_s 1 (pv 1)))))))
  exact ⟨fd, hm, F.kp, F.bindsN (fun _ _ _ _ _ _ us hl => match us, hl with | [_], _ => rfl), key⟩
/-! gaps -/
theorem sc_gaps : FnScope ["program", "found", "number", "thread", "place"] ["program"] (defScope (top 11)) := ⟨rfl, rfl, rfl, by decide +kernel, rfl, by decide +kernel, by decide +kernel⟩
def c1_gaps : M Vl := mcomp [4] (rngM2 (cst (.int 1)) (fz (op1 oLen (nm 3)))) (tgN 4) mtrue (mtup (macons (nv 2) (macons (nv 4) manil)))
def l2_gaps : M Fl := mfor (enumM (nv 0)) (tgtup 2 (tgcons (tgN 2) (tgcons (tgN 3) tgnil)))
  (mdrop (shV (mext 1 (fz c1_gaps))))
def m_gaps : M Fl := (mseq (asgN 1 (mlst manil))
 (mseq l2_gaps
 (mretN 1)))
def F_gaps : Fn := run 5 m_gaps
theorem ok_gaps (t : Tops w K mg base) : Has P w K mg base (TT K) "gaps" 1 ["program"] 1 F_gaps := by
  obtain ⟨fd, F, hm⟩ := t.f_gaps
  have key := fn_okD (P := P) (w := w) (mg := mg) (base := base) (T := TT K) (k := 0) (m := m_gaps) F sc_gaps fun cdv A outer s H E hcd hr => (gss_cons (gs_set (i := 1) sc_gaps.nd rfl (by first | exact .inl rfl | exact .inr rfl) (ge_lst ga_nil))
 (gss_cons (gs_for (L := [2, 3]) PassesOwn.never rfl (gi_enum rfl t.n_enumerate (gd_v 0 (pv 0))) (gg_top (ggt_tup rfl (ggs_cons (gg_name (by decide) sc_gaps.nd rfl (by first | exact .inl rfl | exact .inr rfl)) (ggs_cons (gg_name (by decide) sc_gaps.nd rfl (by first | exact .inl rfl | exact .inr rfl)) ggs_nil))))
  (gss_one (gs_expr (ge_sh (gd_extend (pv 1) (gd_fz (ge_lc (own := [("place", 4)]) rfl rfl sc_gaps.nd (gi_range2 rfl t.n_range gd_int (gd_fz (ge_len rfl t.n_len (go_s 3 (pv 3))))) (blk_of (by kernel_rfl)) (fun _ _ _ _ _ => (gg_name (by decide) sc_gaps.nd rfl (by first | exact .inl rfl | exact .inr rfl))) (fun _ _ _ _ _ => gts_nil) (fun _ _ _ _ _ => (gd_tup (ga_cons (gd_v 2 (pv 2)) (ga_cons (gd_v 4 (pv 4)) ga_nil)))))))))))
 (gss_one (gs_retN 1 (pv 1)))))
  exact ⟨fd, hm, F.kp, F.bindsN (fun _ _ _ _ _ _ us hl => match us, hl with | [_], _ => rfl), key⟩
/-! fenced -/
theorem sc_fenced : FnScope ["program", "some", "found", "number", "thread", "row", "place", "command"] ["program", "some"] (defScope (top 12)) := ⟨rfl, rfl, rfl, by decide +kernel, rfl, by decide +kernel, by decide +kernel⟩
def l1_fenced : M Fl := mfor (enumM (nv 4)) (tgtup 2 (tgcons (tgN 6) (tgcons (tgN 7) tgnil)))
  (mseq (mifS (tst (fz (op2 (oInS false) (odD (mtup (macons (nv 3) (macons (nv 6) manil)))) (nm 1))))
  (mdrop (shV (mapp 5 (mtup (macons (cst (.str "fence")) manil)))))
  mnx)
 (mdrop (shV (mapp 5 (nv 7)))))
def l2_fenced : M Fl := mfor (enumM (nv 0)) (tgtup 2 (tgcons (tgN 3) (tgcons (tgN 4) tgnil)))
  (mseq (asgN 5 (mlst manil))
 (mseq l1_fenced
 (mdrop (shV (mapp 2 (fz (op1 oTuple (nm 5))))))))
def m_fenced : M Fl := (mseq (asgN 2 (mlst manil))
 (mseq l2_fenced
 (mret (op1 oTuple (nm 2)))))
def F_fenced : Fn := run 8 m_fenced
theorem ok_fenced (t : Tops w K mg base) : Has P w K mg base (TT K) "fenced" 1 ["program", "some"] 2 F_fenced := by
  obtain ⟨fd, F, hm⟩ := t.f_fenced
  have key := fn_okD (P := P) (w := w) (mg := mg) (base := base) (T := TT K) (k := 0) (m := m_fenced) F sc_fenced fun cdv A outer s H E hcd hr => (gss_cons (gs_set (i := 2) sc_fenced.nd rfl (by first | exact .inl rfl | exact .inr rfl) (ge_lst ga_nil))
 (gss_cons (gs_for (L := [3, 4]) PassesOwn.never rfl (gi_enum rfl t.n_enumerate (gd_v 0 (pv 0))) (gg_top (ggt_tup rfl (ggs_cons (gg_name (by decide) sc_fenced.nd rfl (by first | exact .inl rfl | exact .inr rfl)) (ggs_cons (gg_name (by decide) sc_fenced.nd rfl (by first | exact .inl rfl | exact .inr rfl)) ggs_nil))))
  (gss_cons (gs_set (i := 5) sc_fenced.nd rfl (by first | exact .inl rfl | exact .inr rfl) (ge_lst ga_nil))
 (gss_cons (gs_for (L := [6, 7]) PassesOwn.never rfl (gi_enum rfl t.n_enumerate (gd_v 4 (pv 4))) (gg_top (ggt_tup rfl (ggs_cons (gg_name (by decide) sc_fenced.nd rfl (by first | exact .inl rfl | exact .inr rfl)) (ggs_cons (gg_name (by decide) sc_fenced.nd rfl (by first | exact .inl rfl | exact .inr rfl)) ggs_nil))))
  (gss_cons (gs_if (gt_cmp (c_inS hr) (go_d (gd_tup (ga_cons (gd_v 3 (pv 3)) (ga_cons (gd_v 6 (pv 6)) ga_nil)))) (go_s 1 (pv 1)))
  (gss_one (gs_expr (ge_sh (gd_append (pv 5) (gd_tup (ga_cons gd_str ga_nil))))))
  gss_nil)
 (gss_one (gs_expr (ge_sh (gd_append (pv 5) (gd_v 7 (pv 7))))))))
 (gss_one (gs_expr (ge_sh (gd_append (pv 2) (gd_fz (ge_tuple rfl t.n_tuple (go_s 5 (pv 5)))))))))))
 (gss_one (gs_ret (ge_tuple rfl t.n_tuple (go_s 2 (pv 2)))))))
  exact ⟨fd, hm, F.kp, F.bindsN (fun _ _ _ _ _ _ us hl => match us, hl with | [_, _], _ => rfl), key⟩
/-! _law_draws -/
theorem sc__law_draws : FnScope ["script", "draws", "cell", "number", "first", "k", "seed"] ["script"] (defScope (top 14)) := ⟨rfl, rfl, rfl, by decide +kernel, rfl, by decide +kernel, by decide +kernel⟩
def l1__law_draws : M Fl := mfor (rngM1 (cst (.int 60))) (tgN 5)
  (mifS (tst (fz (op2 oGt (nm 3) (odD (cst (.int 0))))))
  (mseq (mdrop (shV (mapp 1 (fz (op2 oMod (odD (fz (op1 (oI1 fun i => i) (nm 3)))) (odD (cst (.int 997))))))))
 (asgN 3 (op2 oDiv (nm 3) (odD (cst (.int 997))))))
  mnx)
def l2__law_draws : M Fl := mfor (seqM (nv 0)) (tgN 2)
  (mseq (asgN 3 (op1 (oI1 absI) (nm 2)))
 (mseq (mifS (tst (fz (op2 oLt (nm 3) (odD (fz (op2 oPow (odD (cst (.int 10))) (odD (cst (.int 18)))))))))
  (mseq (asgN 4 (op2 oMod (odD (fz (op1 (oI1 fun i => i) (odD (fz (op2 oAdd (odD (fz (op2 oMulU (nm 3) (odD (cst (.int 48271)))))) (odD (cst (.int 11))))))))) (odD (cst (.int 2147483647)))))
 (mseq (mdrop (shV (mapp 1 (fz (op2 oMod (odD (fz (op1 (oI1 fun i => i) (odD (fz (op2 oAdd (odD (fz (op2 oMulU (nm 4) (odD (cst (.int 69621)))))) (nm 3))))))) (odD (cst (.int 2147483629))))))))
 (mseq (mdrop (shV (mapp 1 (fz (op2 oMod (odD (fz (op1 (oI1 fun i => i) (odD (fz (op2 oAdd (nm 4) (odD (fz (op2 oDiv (nm 3) (odD (cst (.int 7)))))))))))) (odD (cst (.int 1000003))))))))
 (asgN 3 (shV (cst (.int 0)))))))
  mnx)
 l1__law_draws))
def l3__law_draws : M Fl := mfor (rngM1 (cst (.int 900))) (tgN 5)
  (mseq (asgN 6 (op2 oMod (odD (fz (op1 (oI1 fun i => i) (odD (fz (op2 oAdd (odD (fz (op2 oMulU (nm 6) (odD (cst (.int 48271)))))) (odD (cst (.int 69621))))))))) (odD (cst (.int 2147483647)))))
 (mdrop (shV (mapp 1 (fz (op2 oDiv (nm 6) (odD (cst (.int 5)))))))))
def m__law_draws : M Fl := (mseq (asgN 1 (mlst manil))
 (mseq l2__law_draws
 (mseq (asgN 6 (shV (cst (.int 1))))
 (mseq (mifS (tst (fz (op2 oGt (odD (fz (op1 oLen (nm 0)))) (odD (cst (.int 0))))))
  (asgN 6 (op2 oAdd (odD (cst (.int 1))) (odD (fz (op1 (oI1 absI) (odD (fz (op2 oIx (nm 0) (odD (cst (.int 0)))))))))))
  mnx)
 (mseq l3__law_draws
 (mret (op1 oRevL (nm 1))))))))
def F__law_draws : Fn := run 7 m__law_draws
theorem ok__law_draws (t : Tops w K mg base) : Has P w K mg base (TT K) "_law_draws" 1 ["script"] 1 F__law_draws := by
  obtain ⟨fd, F, hm⟩ := t.f__law_draws
  have key := fn_okD (P := P) (w := w) (mg := mg) (base := base) (T := TT K) (k := 0) (m := m__law_draws) F sc__law_draws fun cdv A outer s H E hcd hr => (gss_cons (gs_set (i := 1) sc__law_draws.nd rfl (by first | exact .inl rfl | exact .inr rfl) (ge_lst ga_nil))
 (gss_cons (gs_for (L := [2]) PassesOwn.never rfl (gi_seq (gd_v 0 (pv 0))) (gg_name (by decide) sc__law_draws.nd rfl (by first | exact .inl rfl | exact .inr rfl))
  (gss_cons (gs_set (i := 3) sc__law_draws.nd rfl (by first | exact .inl rfl | exact .inr rfl) (ge_abs rfl t.n_abs (go_s 2 (pv 2))))
 (gss_cons (gs_if (gt_cmp c_lt (go_s 3 (pv 3)) (go_d (gd_fz (ge_pow (go_d gd_int) (go_d gd_int)))))
  (gss_cons (gs_set (i := 4) sc__law_draws.nd rfl (by first | exact .inl rfl | exact .inr rfl) (ge_mod (go_d (gd_fz (ge_int rfl t.n_int (go_d (gd_fz (ge_add (go_d (gd_fz (ge_mulU (go_s 3 (pv 3)) (go_d gd_int)))) (go_d gd_int))))))) (go_d gd_int)))
 (gss_cons (gs_expr (ge_sh (gd_append (pv 1) (gd_fz (ge_mod (go_d (gd_fz (ge_int rfl t.n_int (go_d (gd_fz (ge_add (go_d (gd_fz (ge_mulU (go_s 4 (pv 4)) (go_d gd_int)))) (go_s 3 (pv 3)))))))) (go_d gd_int))))))
 (gss_cons (gs_expr (ge_sh (gd_append (pv 1) (gd_fz (ge_mod (go_d (gd_fz (ge_int rfl t.n_int (go_d (gd_fz (ge_add (go_s 4 (pv 4)) (go_d (gd_fz (ge_div (go_s 3 (pv 3)) (go_d gd_int)))))))))) (go_d gd_int))))))
 (gss_one (gs_set (i := 3) sc__law_draws.nd rfl (by first | exact .inl rfl | exact .inr rfl) (ge_sh gd_int))))))
  gss_nil)
 (gss_one (gs_for (L := [5]) PassesOwn.never rfl (gi_range1 rfl t.n_range gd_int) (gg_name (by decide) sc__law_draws.nd rfl (by first | exact .inl rfl | exact .inr rfl))
  (gss_one (gs_if (gt_cmp c_gt (go_s 3 (pv 3)) (go_d gd_int))
  (gss_cons (gs_expr (ge_sh (gd_append (pv 1) (gd_fz (ge_mod (go_d (gd_fz (ge_int rfl t.n_int (go_s 3 (pv 3))))) (go_d gd_int))))))
 (gss_one (gs_set (i := 3) sc__law_draws.nd rfl (by first | exact .inl rfl | exact .inr rfl) (ge_div (go_s 3 (pv 3)) (go_d gd_int)))))
  gss_nil)))))))
 (gss_cons (gs_set (i := 6) sc__law_draws.nd rfl (by first | exact .inl rfl | exact .inr rfl) (ge_sh gd_int))
 (gss_cons (gs_if (gt_cmp c_gt (go_d (gd_fz (ge_len rfl t.n_len (go_s 0 (pv 0))))) (go_d gd_int))
  (gss_one (gs_set (i := 6) sc__law_draws.nd rfl (by first | exact .inl rfl | exact .inr rfl) (ge_add (go_d gd_int) (go_d (gd_fz (ge_abs rfl t.n_abs (go_d (gd_fz (ge_ix (go_s 0 (pv 0)) (go_d gd_int))))))))))
  gss_nil)
 (gss_cons (gs_for (L := [5]) PassesOwn.never rfl (gi_range1 rfl t.n_range gd_int) (gg_name (by decide) sc__law_draws.nd rfl (by first | exact .inl rfl | exact .inr rfl))
  (gss_cons (gs_set (i := 6) sc__law_draws.nd rfl (by first | exact .inl rfl | exact .inr rfl) (ge_mod (go_d (gd_fz (ge_int rfl t.n_int (go_d (gd_fz (ge_add (go_d (gd_fz (ge_mulU (go_s 6 (pv 6)) (go_d gd_int)))) (go_d gd_int))))))) (go_d gd_int)))
 (gss_one (gs_expr (ge_sh (gd_append (pv 1) (gd_fz (ge_div (go_s 6 (pv 6)) (go_d gd_int)))))))))
 (gss_one (gs_ret (ge_listRev rfl rfl t.n_list rfl t.n_reversed (go_s 1 (pv 1))))))))))
  exact ⟨fd, hm, F.kp, F.bindsN (fun _ _ _ _ _ _ us hl => match us, hl with | [_], _ => rfl), key⟩
/-! _law_take -/
theorem sc__law_take : FnScope ["draws", "bound"] ["draws", "bound"] (defScope (top 15)) := ⟨rfl, rfl, rfl, by decide +kernel, rfl, by decide +kernel, by decide +kernel⟩
def m__law_take : M Fl := (mseq (mifS (tst (fz (op2 oEq (odD (fz (op1 oLen (nm 0)))) (odD (cst (.int 0))))))
  (mret (shV (cst (.int 0))))
  mnx)
 (mret (op2 oMod (odD (fz (op1 (oI1 fun i => i) (odD (mpop 0))))) (nm 1))))
def F__law_take : Fn := run 2 m__law_take
theorem ok__law_take (t : Tops w K mg base) : Has P w K mg base (TT K) "_law_take" 1 ["draws", "bound"] 2 F__law_take := by
  obtain ⟨fd, F, hm⟩ := t.f__law_take
  have key := fn_okD (P := P) (w := w) (mg := mg) (base := base) (T := TT K) (k := 0) (m := m__law_take) F sc__law_take fun cdv A outer s H E hcd hr => (gss_cons (gs_if (gt_cmp (c_eq hr) (go_d (gd_fz (ge_len rfl t.n_len (go_s 0 (pv 0))))) (go_d gd_int))
  (gss_one (gs_ret (ge_sh gd_int)))
  gss_nil)
 (gss_one (gs_ret (ge_mod (go_d (gd_fz (ge_int rfl t.n_int (go_d (gd_pop (pv 0)))))) (go_s 1 (pv 1))))))
  exact ⟨fd, hm, F.kp, F.bindsN (fun _ _ _ _ _ _ us hl => match us, hl with | [_, _], _ => rfl), key⟩
/-! _law_says -/
theorem sc__law_says : FnScope ["told", "due"] ["told", "due"] (defScope (top 16)) := ⟨rfl, rfl, rfl, by decide +kernel, rfl, by decide +kernel, by decide +kernel⟩
def m__law_says : M Fl := (mret (shV (vand (fz (op1 (oTest isiBool) (nm 0))) (fz (op2 oEq (nm 0) (nm 1))))))
def F__law_says : Fn := run 2 m__law_says
theorem ok__law_says (t : Tops w K mg base) : Has P w K mg base (TT K) "_law_says" 1 ["told", "due"] 2 F__law_says := by
  obtain ⟨fd, F, hm⟩ := t.f__law_says
  have key := fn_okD (P := P) (w := w) (mg := mg) (base := base) (T := TT K) (k := 0) (m := m__law_says) F sc__law_says fun cdv A outer s H E hcd hr => (gss_one (gs_ret (ge_sh (gd_and (gd_fz (ge_isi isi_bool rfl t.n_isinstance rfl t.n_bool (go_s 0 (pv 0)))) (gd_one (gd_fz (ge_cmp (c_eq hr) (go_s 0 (pv 0)) (go_s 1 (pv 1)))))))))
  exact ⟨fd, hm, F.kp, F.bindsN (fun _ _ _ _ _ _ us hl => match us, hl with | [_, _], _ => rfl), key⟩
/-! _law_alike -/
theorem sc__law_alike : FnScope ["found", "due", "k"] ["found", "due"] (defScope (top 17)) := ⟨rfl, rfl, rfl, by decide +kernel, rfl, by decide +kernel, by decide +kernel⟩
def c1__law_alike (rF : Fn) : M Vl := mcomp [2] (rngM1 (fz (op1 oLen (nm 1)))) (tgN 2) (mnot (tst (fz (mcall 2 rF (macons (fz (op2 oIx (nm 0) (nm 2))) (macons (fz (op2 oIx (nm 1) (nm 2))) manil)))))) (nv 2)
def m__law_alike (rF : Fn) : M Fl := (mseq (mifS (mor (tst (fz (op1 (oTest isiList) (nm 1)))) (tst (fz (op1 (oTest isiTup) (nm 1)))))
  (mseq (mifS (mor (tst (fz (op2 oNe (odD (fz (op1 (oTest isiList) (nm 0)))) (odD (fz (op1 (oTest isiList) (nm 1))))))) (tst (fz (op2 oNe (odD (fz (op1 (oTest isiTup) (nm 0)))) (odD (fz (op1 (oTest isiTup) (nm 1))))))))
  (mret (shV (cst (.bool false))))
  mnx)
 (mret (shV (vand (fz (op2 oEq (odD (fz (op1 oLen (nm 0)))) (odD (fz (op1 oLen (nm 1)))))) (fz (op2 oEq (odD (fz (c1__law_alike rF))) (odD (fz (mlst manil)))))))))
  mnx)
 (mseq (mifS (tst (fz (op2 (oIs false) (nm 1) (odD (cst .none)))))
  (mret (op2 (oIs false) (nm 0) (odD (cst .none))))
  mnx)
 (mseq (mifS (mor (tst (fz (op1 (oTest isiBool) (nm 1)))) (tst (fz (op1 (oTest isiBool) (nm 0)))))
  (mret (shV (vand (fz (op1 (oTest isiBool) (nm 0))) (vand (fz (op1 (oTest isiBool) (nm 1))) (fz (op2 oEq (nm 0) (nm 1)))))))
  mnx)
 (mseq (mifS (tst (fz (op1 (oTest isiInt) (nm 1))))
  (mret (shV (vand (fz (op1 (oTest isiInt) (nm 0))) (fz (op2 oEq (nm 0) (nm 1))))))
  mnx)
 (mret (shV (vand (fz (op1 (oTest isiStr) (nm 0))) (fz (op2 oEq (nm 0) (nm 1))))))))))
@[reducible] def R__law_alike (n : Nat) : Fn := recF 3 m__law_alike n
def F__law_alike : Fn := R__law_alike 12
theorem okR__law_alike (t : Tops w K mg base) (n : Nat) : Has P w K mg base (TT K) "_law_alike" (0 + 1 * n) ["found", "due"] 2 (R__law_alike n) := by
  obtain ⟨fd, F, hm⟩ := t.f__law_alike
  have hbi : Binds K fd ["found", "due"] [] := F.bindsN (fun _ _ _ _ _ _ us hl => match us, hl with | [_, _], _ => rfl)
  induction n with
  | zero => exact has_bad hm F.kp hbi
  | succ n H__law_alike =>
    have key := fn_okD (P := P) (w := w) (mg := mg) (base := base) (T := TT K) (k := 0 + 1 * n) (m := m__law_alike (R__law_alike n)) F sc__law_alike fun cdv A outer s H E hcd hr => (gss_cons (gs_if (gt_w (gw_or (gt_val (gd_fz (ge_isi isi_list rfl t.n_isinstance rfl t.n_list (go_s 1 (pv 1))))) (gw_or1 (gt_val (gd_fz (ge_isi isi_tup rfl t.n_isinstance rfl t.n_tuple (go_s 1 (pv 1))))))))
  (gss_cons (gs_if (gt_w (gw_or (gt_cmp (c_ne hr) (go_d (gd_fz (ge_isi isi_list rfl t.n_isinstance rfl t.n_list (go_s 0 (pv 0))))) (go_d (gd_fz (ge_isi isi_list rfl t.n_isinstance rfl t.n_list (go_s 1 (pv 1)))))) (gw_or1 (gt_cmp (c_ne hr) (go_d (gd_fz (ge_isi isi_tup rfl t.n_isinstance rfl t.n_tuple (go_s 0 (pv 0))))) (go_d (gd_fz (ge_isi isi_tup rfl t.n_isinstance rfl t.n_tuple (go_s 1 (pv 1)))))))))
  (gss_one (gs_ret (ge_sh gd_bool)))
  gss_nil)
 (gss_one (gs_ret (ge_sh (gd_and (gd_fz (ge_cmp (c_eq hr) (go_d (gd_fz (ge_len rfl t.n_len (go_s 0 (pv 0))))) (go_d (gd_fz (ge_len rfl t.n_len (go_s 1 (pv 1))))))) (gd_one (gd_fz (ge_cmp (c_eq hr) (go_d (gd_fz (ge_lc (own := [("k", 2)]) rfl rfl sc__law_alike.nd (gi_range1 rfl t.n_range (gd_fz (ge_len rfl t.n_len (go_s 1 (pv 1))))) (blk_of (by kernel_rfl)) (fun _ _ _ _ _ => (gg_name (by decide) sc__law_alike.nd rfl (by first | exact .inl rfl | exact .inr rfl))) (fun _ _ _ _ _ => (gts_one (gt_not (gt_val (gd_fz (ge_callH H__law_alike hr (by omega) rfl (ga_cons (gd_fz (ge_ix (go_s 0 (pv 0)) (go_s 2 (pv 2)))) (ga_cons (gd_fz (ge_ix (go_s 1 (pv 1)) (go_s 2 (pv 2)))) ga_nil)))))))) (fun _ _ _ _ _ => (gd_v 2 (pv 2)))))) (go_d (gd_fz (ge_lst ga_nil)))))))))))
  gss_nil)
 (gss_cons (gs_if (gt_cmp c_is (go_s 1 (pv 1)) (go_d gd_none))
  (gss_one (gs_ret (ge_cmp c_is (go_s 0 (pv 0)) (go_d gd_none))))
  gss_nil)
 (gss_cons (gs_if (gt_w (gw_or (gt_val (gd_fz (ge_isi isi_bool rfl t.n_isinstance rfl t.n_bool (go_s 1 (pv 1))))) (gw_or1 (gt_val (gd_fz (ge_isi isi_bool rfl t.n_isinstance rfl t.n_bool (go_s 0 (pv 0))))))))
  (gss_one (gs_ret (ge_sh (gd_and (gd_fz (ge_isi isi_bool rfl t.n_isinstance rfl t.n_bool (go_s 0 (pv 0)))) (gd_and (gd_fz (ge_isi isi_bool rfl t.n_isinstance rfl t.n_bool (go_s 1 (pv 1)))) (gd_one (gd_fz (ge_cmp (c_eq hr) (go_s 0 (pv 0)) (go_s 1 (pv 1))))))))))
  gss_nil)
 (gss_cons (gs_if (gt_val (gd_fz (ge_isi isi_int rfl t.n_isinstance rfl t.n_int (go_s 1 (pv 1)))))
  (gss_one (gs_ret (ge_sh (gd_and (gd_fz (ge_isi isi_int rfl t.n_isinstance rfl t.n_int (go_s 0 (pv 0)))) (gd_one (gd_fz (ge_cmp (c_eq hr) (go_s 0 (pv 0)) (go_s 1 (pv 1)))))))))
  gss_nil)
 (gss_one (gs_ret (ge_sh (gd_and (gd_fz (ge_isi isi_str rfl t.n_isinstance rfl t.n_str (go_s 0 (pv 0)))) (gd_one (gd_fz (ge_cmp (c_eq hr) (go_s 0 (pv 0)) (go_s 1 (pv 1)))))))))))))
    exact ⟨fd, hm, F.kp, hbi, FnOk.up key (by omega)⟩

theorem ok__law_alike (t : Tops w K mg base) : Has P w K mg base (TT K) "_law_alike" 12 ["found", "due"] 2 F__law_alike := (okR__law_alike t 12).up (by omega)
/-! _law_command -/
theorem sc__law_command : FnScope ["draws", "regs", "cell"] ["draws", "regs"] (defScope (top 18)) := ⟨rfl, rfl, rfl, by decide +kernel, rfl, by decide +kernel, by decide +kernel⟩
def m__law_command : M Fl := (mseq (asgN 2 (opv2 oIx (mlst (macons (cst (.str "x")) (macons (cst (.str "y")) (macons (cst (.str "zz")) manil)))) (odD (fz (mcallI 2 F__law_take 0 (macons (fz (op2 oAdd (odD (cst (.int 2))) (odD (fz (mcallI 2 F__law_take 0 (macons (cst (.int 2)) manil)))))) manil))))))
 (mret (opv2 oIx (mlst (macons (mtup (macons (cst (.str "put")) (macons (nv 2) (macons (fz (op2 oAdd (odD (cst (.int 1))) (odD (fz (mcallI 2 F__law_take 0 (macons (cst (.int 2)) manil)))))) manil)))) (macons (mtup (macons (cst (.str "put")) (macons (nv 2) (macons (fz (op2 oAdd (odD (cst (.int 1))) (odD (fz (mcallI 2 F__law_take 0 (macons (cst (.int 2)) manil)))))) manil)))) (macons (mtup (macons (cst (.str "get")) (macons (nv 2) (macons (fz (op2 oAdd (odD (cst (.str "r"))) (odD (fz (op2 oIx (odD (cst (.str "abcd"))) (nm 1)))))) manil)))) (macons (mtup (macons (cst (.str "get")) (macons (nv 2) (macons (fz (op2 oAdd (odD (cst (.str "r"))) (odD (fz (op2 oIx (odD (cst (.str "abcd"))) (nm 1)))))) manil)))) (macons (mtup (macons (cst (.str "swap")) (macons (nv 2) (macons (fz (op2 oAdd (odD (cst (.int 1))) (odD (fz (mcallI 2 F__law_take 0 (macons (cst (.int 9)) manil)))))) (macons (fz (op2 oAdd (odD (cst (.str "r"))) (odD (fz (op2 oIx (odD (cst (.str "abcd"))) (nm 1)))))) manil))))) (macons (mtup (macons (cst (.str "fence")) manil)) manil))))))) (odD (fz (mif (tst (fz (op2 oEq (odD (fz (mcallI 2 F__law_take 0 (macons (cst (.int 3)) manil)))) (odD (cst (.int 0)))))) (op2 oMin2 (odD (fz (mcallI 2 F__law_take 0 (macons (cst (.int 7)) manil)))) (odD (cst (.int 5)))) (mcallI 2 F__law_take 0 (macons (cst (.int 4)) manil))))))))
def F__law_command : Fn := run 3 m__law_command
theorem ok__law_command (t : Tops w K mg base) : Has P w K mg base (TT K) "_law_command" 2 ["draws", "regs"] 2 F__law_command := by
  obtain ⟨fd, F, hm⟩ := t.f__law_command
  have H__law_take := ok__law_take (P := P) t
  have key := fn_okD (P := P) (w := w) (mg := mg) (base := base) (T := TT K) (k := 1) (m := m__law_command) F sc__law_command fun cdv A outer s H E hcd hr => (gss_cons (gs_set (i := 2) sc__law_command.nd rfl (by first | exact .inl rfl | exact .inr rfl) (ge_ixv (ge_lst (ga_cons gd_str (ga_cons gd_str (ga_cons gd_str ga_nil)))) (go_d (gd_fz (ge_callHI H__law_take hr (by omega) rfl (pv 0) (ga_cons (gd_fz (ge_add (go_d gd_int) (go_d (gd_fz (ge_callHI H__law_take hr (by omega) rfl (pv 0) (ga_cons gd_int ga_nil)))))) ga_nil))))))
 (gss_one (gs_ret (ge_ixv (ge_lst (ga_cons (gd_tup (ga_cons gd_str (ga_cons (gd_v 2 (pv 2)) (ga_cons (gd_fz (ge_add (go_d gd_int) (go_d (gd_fz (ge_callHI H__law_take hr (by omega) rfl (pv 0) (ga_cons gd_int ga_nil)))))) ga_nil)))) (ga_cons (gd_tup (ga_cons gd_str (ga_cons (gd_v 2 (pv 2)) (ga_cons (gd_fz (ge_add (go_d gd_int) (go_d (gd_fz (ge_callHI H__law_take hr (by omega) rfl (pv 0) (ga_cons gd_int ga_nil)))))) ga_nil)))) (ga_cons (gd_tup (ga_cons gd_str (ga_cons (gd_v 2 (pv 2)) (ga_cons (gd_fz (ge_add (go_d gd_str) (go_d (gd_fz (ge_ix (go_d gd_str) (go_s 1 (pv 1))))))) ga_nil)))) (ga_cons (gd_tup (ga_cons gd_str (ga_cons (gd_v 2 (pv 2)) (ga_cons (gd_fz (ge_add (go_d gd_str) (go_d (gd_fz (ge_ix (go_d gd_str) (go_s 1 (pv 1))))))) ga_nil)))) (ga_cons (gd_tup (ga_cons gd_str (ga_cons (gd_v 2 (pv 2)) (ga_cons (gd_fz (ge_add (go_d gd_int) (go_d (gd_fz (ge_callHI H__law_take hr (by omega) rfl (pv 0) (ga_cons gd_int ga_nil)))))) (ga_cons (gd_fz (ge_add (go_d gd_str) (go_d (gd_fz (ge_ix (go_d gd_str) (go_s 1 (pv 1))))))) ga_nil))))) (ga_cons (gd_tup (ga_cons gd_str ga_nil)) ga_nil))))))) (go_d (gd_fz (ge_if (gt_cmp (c_eq hr) (go_d (gd_fz (ge_callHI H__law_take hr (by omega) rfl (pv 0) (ga_cons gd_int ga_nil)))) (go_d gd_int)) (ge_min2 rfl rfl t.n_min (go_d (gd_fz (ge_callHI H__law_take hr (by omega) rfl (pv 0) (ga_cons gd_int ga_nil)))) (go_d gd_int)) (ge_callHI H__law_take hr (by omega) rfl (pv 0) (ga_cons gd_int ga_nil)))))))))
  exact ⟨fd, hm, F.kp, F.bindsN (fun _ _ _ _ _ _ us hl => match us, hl with | [_, _], _ => rfl), key⟩
/-! _law_program -/
theorem sc__law_program : FnScope ["draws", "most", "how", "rows", "at", "place", "more", "left", "k", "row", "j"] ["draws", "most"] (defScope (top 19)) := ⟨rfl, rfl, rfl, by decide +kernel, rfl, by decide +kernel, by decide +kernel⟩
def l1__law_program : M Fl := mfor (rngM1 (fz (op2 oMin2 (nm 7) (odD (fz (mcallI 2 F__law_take 0 (macons (cst (.int 5)) manil))))))) (tgN 10)
  (mdrop (shV (mapp 9 (fz (mcallI 2 F__law_command 0 (macons (fz (op1 oLen (nm 9))) manil))))))
def l2__law_program : M Fl := mfor (rngM1 (fz (op2 oAdd (odD (cst (.int 1))) (odD (fz (mcallI 2 F__law_take 0 (macons (cst (.int 3)) manil))))))) (tgN 8)
  (mseq (asgN 9 (mlst manil))
 (mseq l1__law_program
 (mseq (asgN 7 (op2 oSub (nm 7) (odD (fz (op1 oLen (nm 9))))))
 (mdrop (shV (mapp 3 (nv 9)))))))
def c3__law_program : M Vl := mcomp [9] (seqM (nv 3)) (tgN 9) mtrue (fz (op1 oTuple (nm 9)))
def m__law_program : M Fl := (mseq (asgN 2 (mcallI 2 F__law_take 0 (macons (cst (.int 4)) manil)))
 (mseq (asgN 3 (mlst manil))
 (mseq (mifS (tst (fz (op2 oEq (nm 2) (odD (cst (.int 0))))))
  (asgN 3 (mlst (macons (fz (mlst (macons (mtup (macons (cst (.str "put")) (macons (cst (.str "x")) (macons (cst (.int 1)) manil)))) (macons (mtup (macons (cst (.str "get")) (macons (cst (.str "y")) (macons (cst (.str "ra")) manil)))) manil)))) (macons (fz (mlst (macons (mtup (macons (cst (.str "put")) (macons (cst (.str "y")) (macons (cst (.int 1)) manil)))) (macons (mtup (macons (cst (.str "get")) (macons (cst (.str "x")) (macons (cst (.str "ra")) manil)))) manil)))) manil))))
  mnx)
 (mseq (mifS (tst (fz (op2 oEq (nm 2) (odD (cst (.int 1))))))
  (asgN 3 (mlst (macons (fz (mlst (macons (mtup (macons (cst (.str "put")) (macons (cst (.str "x")) (macons (cst (.int 1)) manil)))) (macons (mtup (macons (cst (.str "put")) (macons (cst (.str "y")) (macons (cst (.int 1)) manil)))) manil)))) (macons (fz (mlst (macons (mtup (macons (cst (.str "get")) (macons (cst (.str "y")) (macons (cst (.str "ra")) manil)))) (macons (mtup (macons (cst (.str "get")) (macons (cst (.str "x")) (macons (cst (.str "rb")) manil)))) manil)))) manil))))
  mnx)
 (mseq (mifS (tst (fz (op2 oLt (nm 2) (odD (cst (.int 2))))))
  (mseq (asgN 4 (mcallI 2 F__law_take 0 (macons (cst (.int 2)) manil)))
 (mseq (asgN 5 (mcallI 2 F__law_take 0 (macons (cst (.int 3)) manil)))
 (mseq (asgN 6 (opv2 oIx (mlst (macons (mtup (macons (cst (.str "fence")) manil)) (macons (mtup (macons (cst (.str "put")) (macons (cst (.str "x")) (macons (cst (.int 2)) manil)))) (macons (mtup (macons (cst (.str "swap")) (macons (cst (.str "zz")) (macons (cst (.int 3)) (macons (cst (.str "rd")) manil))))) (macons (mtup (macons (cst (.str "get")) (macons (cst (.str "x")) (macons (cst (.str "rd")) manil)))) manil))))) (odD (fz (mcallI 2 F__law_take 0 (macons (cst (.int 4)) manil))))))
 (mst 3 (fz (op2 oAdd (odD (fz (op2 oAdd (odD (fz (mslice (odD (fz (op2 oIx (nm 3) (nm 4)))) pno (pso (nm 5))))) (odD (fz (op2 oMulV (odD (fz (mlst (macons (nv 6) manil)))) (odD (fz (mcallI 2 F__law_take 0 (macons (cst (.int 2)) manil)))))))))) (odD (fz (mslice (odD (fz (op2 oIx (nm 3) (nm 4)))) (pso (nm 5)) pno))))) (nm 4)))))
  (mseq (asgN 7 (shV (nv 1)))
 l2__law_program))
 (mret (op1 oTuple (odD (fz c3__law_program)))))))))
def F__law_program : Fn := run 11 m__law_program
theorem ok__law_program (t : Tops w K mg base) : Has P w K mg base (TT K) "_law_program" 3 ["draws", "most"] 2 F__law_program := by
  obtain ⟨fd, F, hm⟩ := t.f__law_program
  have H__law_take := ok__law_take (P := P) t
  have H__law_command := ok__law_command (P := P) t
  have key := fn_okD (P := P) (w := w) (mg := mg) (base := base) (T := TT K) (k := 2) (m := m__law_program) F sc__law_program fun cdv A outer s H E hcd hr => (gss_cons (gs_set (i := 2) sc__law_program.nd rfl (by first | exact .inl rfl | exact .inr rfl) (ge_callHI H__law_take hr (by omega) rfl (pv 0) (ga_cons gd_int ga_nil)))
 (gss_cons (gs_set (i := 3) sc__law_program.nd rfl (by first | exact .inl rfl | exact .inr rfl) (ge_lst ga_nil))
 (gss_cons (gs_if (gt_cmp (c_eq hr) (go_s 2 (pv 2)) (go_d gd_int))
  (gss_one (gs_set (i := 3) sc__law_program.nd rfl (by first | exact .inl rfl | exact .inr rfl) (ge_lst (ga_cons (gd_fz (ge_lst (ga_cons (gd_tup (ga_cons gd_str (ga_cons gd_str (ga_cons gd_int ga_nil)))) (ga_cons (gd_tup (ga_cons gd_str (ga_cons gd_str (ga_cons gd_str ga_nil)))) ga_nil)))) (ga_cons (gd_fz (ge_lst (ga_cons (gd_tup (ga_cons gd_str (ga_cons gd_str (ga_cons gd_int ga_nil)))) (ga_cons (gd_tup (ga_cons gd_str (ga_cons gd_str (ga_cons gd_str ga_nil)))) ga_nil)))) ga_nil)))))
  gss_nil)
 (gss_cons (gs_if (gt_cmp (c_eq hr) (go_s 2 (pv 2)) (go_d gd_int))
  (gss_one (gs_set (i := 3) sc__law_program.nd rfl (by first | exact .inl rfl | exact .inr rfl) (ge_lst (ga_cons (gd_fz (ge_lst (ga_cons (gd_tup (ga_cons gd_str (ga_cons gd_str (ga_cons gd_int ga_nil)))) (ga_cons (gd_tup (ga_cons gd_str (ga_cons gd_str (ga_cons gd_int ga_nil)))) ga_nil)))) (ga_cons (gd_fz (ge_lst (ga_cons (gd_tup (ga_cons gd_str (ga_cons gd_str (ga_cons gd_str ga_nil)))) (ga_cons (gd_tup (ga_cons gd_str (ga_cons gd_str (ga_cons gd_str ga_nil)))) ga_nil)))) ga_nil)))))
  gss_nil)
 (gss_cons (gs_if (gt_cmp c_lt (go_s 2 (pv 2)) (go_d gd_int))
  (gss_cons (gs_set (i := 4) sc__law_program.nd rfl (by first | exact .inl rfl | exact .inr rfl) (ge_callHI H__law_take hr (by omega) rfl (pv 0) (ga_cons gd_int ga_nil)))
 (gss_cons (gs_set (i := 5) sc__law_program.nd rfl (by first | exact .inl rfl | exact .inr rfl) (ge_callHI H__law_take hr (by omega) rfl (pv 0) (ga_cons gd_int ga_nil)))
 (gss_cons (gs_set (i := 6) sc__law_program.nd rfl (by first | exact .inl rfl | exact .inr rfl) (ge_ixv (ge_lst (ga_cons (gd_tup (ga_cons gd_str ga_nil)) (ga_cons (gd_tup (ga_cons gd_str (ga_cons gd_str (ga_cons gd_int ga_nil)))) (ga_cons (gd_tup (ga_cons gd_str (ga_cons gd_str (ga_cons gd_int (ga_cons gd_str ga_nil))))) (ga_cons (gd_tup (ga_cons gd_str (ga_cons gd_str (ga_cons gd_str ga_nil)))) ga_nil))))) (go_d (gd_fz (ge_callHI H__law_take hr (by omega) rfl (pv 0) (ga_cons gd_int ga_nil))))))
 (gss_one (gs_store (pv 3) (go_s 4 (pv 4)) (gd_fz (ge_add (go_d (gd_fz (ge_add (go_d (gd_fz (ge_slice (go_d (gd_fz (ge_ix (go_s 3 (pv 3)) (go_s 4 (pv 4))))) gp_no (gp_so (go_s 5 (pv 5)))))) (go_d (gd_fz (ge_mulV (go_d (gd_fz (ge_lst (ga_cons (gd_v 6 (pv 6)) ga_nil)))) (go_d (gd_fz (ge_callHI H__law_take hr (by omega) rfl (pv 0) (ga_cons gd_int ga_nil)))))))))) (go_d (gd_fz (ge_slice (go_d (gd_fz (ge_ix (go_s 3 (pv 3)) (go_s 4 (pv 4))))) (gp_so (go_s 5 (pv 5))) gp_no))))))))))
  (gss_cons (gs_set (i := 7) sc__law_program.nd rfl (by first | exact .inl rfl | exact .inr rfl) (ge_sh (gd_v 1 (pv 1))))
 (gss_one (gs_for (L := [8]) PassesOwn.never rfl (gi_range1 rfl t.n_range (gd_fz (ge_add (go_d gd_int) (go_d (gd_fz (ge_callHI H__law_take hr (by omega) rfl (pv 0) (ga_cons gd_int ga_nil))))))) (gg_name (by decide) sc__law_program.nd rfl (by first | exact .inl rfl | exact .inr rfl))
  (gss_cons (gs_set (i := 9) sc__law_program.nd rfl (by first | exact .inl rfl | exact .inr rfl) (ge_lst ga_nil))
 (gss_cons (gs_for (L := [10]) PassesOwn.never rfl (gi_range1 rfl t.n_range (gd_fz (ge_min2 rfl rfl t.n_min (go_s 7 (pv 7)) (go_d (gd_fz (ge_callHI H__law_take hr (by omega) rfl (pv 0) (ga_cons gd_int ga_nil))))))) (gg_name (by decide) sc__law_program.nd rfl (by first | exact .inl rfl | exact .inr rfl))
  (gss_one (gs_expr (ge_sh (gd_append (pv 9) (gd_fz (ge_callHI H__law_command hr (by omega) rfl (pv 0) (ga_cons (gd_fz (ge_len rfl t.n_len (go_s 9 (pv 9)))) ga_nil))))))))
 (gss_cons (gs_set (i := 7) sc__law_program.nd rfl (by first | exact .inl rfl | exact .inr rfl) (ge_sub (go_s 7 (pv 7)) (go_d (gd_fz (ge_len rfl t.n_len (go_s 9 (pv 9)))))))
 (gss_one (gs_expr (ge_sh (gd_append (pv 3) (gd_v 9 (pv 9)))))))))))))
 (gss_one (gs_ret (ge_tuple rfl t.n_tuple (go_d (gd_fz (ge_lc (own := [("row", 9)]) rfl rfl sc__law_program.nd (gi_seq (gd_v 3 (pv 3))) (blk_of (by kernel_rfl)) (fun _ _ _ _ _ => (gg_name (by decide) sc__law_program.nd rfl (by first | exact .inl rfl | exact .inr rfl))) (fun _ _ _ _ _ => gts_nil) (fun _ _ _ _ _ => (gd_fz (ge_tuple rfl t.n_tuple (go_s 9 (pv 9))))))))))))))))
  exact ⟨fd, hm, F.kp, F.bindsN (fun _ _ _ _ _ _ us hl => match us, hl with | [_, _], _ => rfl), key⟩
/-! _law_odd -/
theorem sc__law_odd : FnScope ["draws", "program", "at", "row", "place", "odd", "found", "one", "twice"] ["draws", "program"] (defScope (top 20)) := ⟨rfl, rfl, rfl, by decide +kernel, rfl, by decide +kernel, by decide +kernel⟩
def c1__law_odd : M Vl := mcomp [7] (seqM (nv 5)) (tgN 7) mtrue (fz (op2 oAdd (odD (fz (op2 oAdd (odD (fz (mslice (nm 1) pno (pso (nm 2))))) (odD (mtup (macons (fz (op2 oAdd (odD (fz (op2 oAdd (odD (fz (mslice (nm 3) pno (pso (nm 4))))) (odD (mtup (macons (nv 7) manil)))))) (odD (fz (mslice (nm 3) (pso (nm 4)) pno))))) manil)))))) (odD (fz (mslice (nm 1) (pso (odD (fz (op2 oAdd (nm 2) (odD (cst (.int 1))))))) pno)))))
def m__law_odd : M Fl := (mseq (asgN 2 (mcallI 2 F__law_take 0 (macons (fz (op1 oLen (nm 1))) manil)))
 (mseq (asgN 3 (op2 oIx (nm 1) (nm 2)))
 (mseq (asgN 4 (mcallI 2 F__law_take 0 (macons (fz (op2 oAdd (odD (fz (op1 oLen (nm 3)))) (odD (cst (.int 1))))) manil)))
 (mseq (asgN 5 (mlst (macons (mtup (macons (cst (.str "put")) (macons (cst (.str "x")) (macons (cst (.int 10)) manil)))) (macons (mtup (macons (cst (.str "put")) (macons (cst (.str "x")) (macons (fz (op1 (oI1 fun i => -i) (odD (cst (.int 1))))) manil)))) (macons (mtup (macons (cst (.str "put")) (macons (cst (.str "x")) (macons (cst (.bool true)) manil)))) (macons (mtup (macons (cst (.str "put")) (macons (cst (.str "X")) (macons (cst (.int 1)) manil)))) (macons (mtup (macons (cst (.str "put")) (macons (cst (.str "x")) manil))) (macons (mtup (macons (cst (.str "put")) (macons (cst (.str "x")) (macons (cst (.int 1)) (macons (cst (.int 1)) manil))))) (macons (mtup (macons (cst (.str "put")) (macons (cst (.str "x")) (macons (cst .none) manil)))) (macons (mtup (macons (cst (.str "get")) (macons (cst (.str "x")) (macons (cst (.str "")) manil)))) (macons (mtup (macons (cst (.str "get")) (macons (cst (.str "x")) (macons (cst (.int 1)) manil)))) (macons (mtup (macons (cst (.str "get")) (macons (cst (.str "x")) manil))) (macons (mtup (macons (cst (.str "get")) (macons (cst (.int 1)) (macons (cst (.str "r")) manil)))) manil)))))))))))))
 (mseq (asgN 5 (op2 oAdd (nm 5) (odD (fz (mlst (macons (mtup (macons (cst (.str "swap")) (macons (cst (.str "x")) (macons (cst (.int 1)) manil)))) (macons (mtup (macons (cst (.str "swap")) (macons (cst (.str "x")) (macons (cst (.int 10)) (macons (cst (.str "r")) manil))))) (macons (mtup (macons (cst (.str "swap")) (macons (cst (.str "x")) (macons (cst (.int 1)) (macons (cst (.str "R")) manil))))) (macons (mtup (macons (cst (.str "fence")) (macons (cst (.str "x")) manil))) (macons (mtup manil) (macons (mtup (macons (cst (.str "look")) (macons (cst (.str "x")) (macons (cst (.str "r")) manil)))) (macons (cst .none) (macons (cst (.str "fence")) (macons (fz (mlst (macons (cst (.str "fence")) manil))) (macons (mtup (macons (cst (.str "get")) (macons (fz (op2 oMulV (odD (cst (.str "x"))) (odD (cst (.int 17))))) (macons (cst (.str "r")) manil)))) manil)))))))))))))))
 (mseq (asgN 6 (op2 oAdd (odD (fz c1__law_odd)) (odD (fz (mlst (macons (fz (op1 oList (nm 1))) (macons (cst .none) (macons (cst (.int 7)) (macons (mtup manil) (macons (fz (op2 oAdd (odD (fz (op2 oAdd (odD (fz (mslice (nm 1) pno (pso (nm 2))))) (odD (mtup (macons (fz (op1 oList (nm 3))) manil)))))) (odD (fz (mslice (nm 1) (pso (odD (fz (op2 oAdd (nm 2) (odD (cst (.int 1))))))) pno))))) manil))))))))))
 (mseq (asgN 8 (shV (mtup (macons (mtup (macons (cst (.str "get")) (macons (cst (.str "x")) (macons (cst (.str "rr")) manil)))) (macons (mtup (macons (cst (.str "swap")) (macons (cst (.str "y")) (macons (cst (.int 1)) (macons (cst (.str "rr")) manil))))) manil)))))
 (mret (op2 oAdd (nm 6) (odD (fz (mlst (macons (mtup (macons (nv 8) manil)) (macons (mtup (macons (fz (op2 oMulU (odD (mtup (macons (mtup (macons (cst (.str "fence")) manil)) manil))) (odD (cst (.int 5))))) manil)) (macons (mtup (macons (fz (op2 oMulU (odD (mtup (macons (mtup (macons (cst (.str "fence")) manil)) manil))) (odD (cst (.int 4))))) (macons (fz (op2 oMulU (odD (mtup (macons (mtup (macons (cst (.str "fence")) manil)) manil))) (odD (cst (.int 4))))) (macons (mtup (macons (mtup (macons (cst (.str "fence")) manil)) manil)) manil)))) (macons (fz (op2 oMulU (odD (mtup (macons (mtup manil) manil))) (odD (cst (.int 4))))) (macons (mtup (macons (cst (.str "fence")) manil)) manil)))))))))))))))))
def F__law_odd : Fn := run 9 m__law_odd
theorem ok__law_odd (t : Tops w K mg base) : Has P w K mg base (TT K) "_law_odd" 2 ["draws", "program"] 2 F__law_odd := by
  obtain ⟨fd, F, hm⟩ := t.f__law_odd
  have H__law_take := ok__law_take (P := P) t
  have key := fn_okD (P := P) (w := w) (mg := mg) (base := base) (T := TT K) (k := 1) (m := m__law_odd) F sc__law_odd fun cdv A outer s H E hcd hr => (gss_cons (gs_set (i := 2) sc__law_odd.nd rfl (by first | exact .inl rfl | exact .inr rfl) (ge_callHI H__law_take hr (by omega) rfl (pv 0) (ga_cons (gd_fz (ge_len rfl t.n_len (go_s 1 (pv 1)))) ga_nil)))
 (gss_cons (gs_set (i := 3) sc__law_odd.nd rfl (by first | exact .inl rfl | exact .inr rfl) (ge_ix (go_s 1 (pv 1)) (go_s 2 (pv 2))))
 (gss_cons (gs_set (i := 4) sc__law_odd.nd rfl (by first | exact .inl rfl | exact .inr rfl) (ge_callHI H__law_take hr (by omega) rfl (pv 0) (ga_cons (gd_fz (ge_add (go_d (gd_fz (ge_len rfl t.n_len (go_s 3 (pv 3))))) (go_d gd_int))) ga_nil)))
 (gss_cons (gs_set (i := 5) sc__law_odd.nd rfl (by first | exact .inl rfl | exact .inr rfl) (ge_lst (ga_cons (gd_tup (ga_cons gd_str (ga_cons gd_str (ga_cons gd_int ga_nil)))) (ga_cons (gd_tup (ga_cons gd_str (ga_cons gd_str (ga_cons (gd_fz (ge_neg (go_d gd_int))) ga_nil)))) (ga_cons (gd_tup (ga_cons gd_str (ga_cons gd_str (ga_cons gd_bool ga_nil)))) (ga_cons (gd_tup (ga_cons gd_str (ga_cons gd_str (ga_cons gd_int ga_nil)))) (ga_cons (gd_tup (ga_cons gd_str (ga_cons gd_str ga_nil))) (ga_cons (gd_tup (ga_cons gd_str (ga_cons gd_str (ga_cons gd_int (ga_cons gd_int ga_nil))))) (ga_cons (gd_tup (ga_cons gd_str (ga_cons gd_str (ga_cons gd_none ga_nil)))) (ga_cons (gd_tup (ga_cons gd_str (ga_cons gd_str (ga_cons gd_str ga_nil)))) (ga_cons (gd_tup (ga_cons gd_str (ga_cons gd_str (ga_cons gd_int ga_nil)))) (ga_cons (gd_tup (ga_cons gd_str (ga_cons gd_str ga_nil))) (ga_cons (gd_tup (ga_cons gd_str (ga_cons gd_int (ga_cons gd_str ga_nil)))) ga_nil)))))))))))))
 (gss_cons (gs_set (i := 5) sc__law_odd.nd rfl (by first | exact .inl rfl | exact .inr rfl) (ge_add (go_s 5 (pv 5)) (go_d (gd_fz (ge_lst (ga_cons (gd_tup (ga_cons gd_str (ga_cons gd_str (ga_cons gd_int ga_nil)))) (ga_cons (gd_tup (ga_cons gd_str (ga_cons gd_str (ga_cons gd_int (ga_cons gd_str ga_nil))))) (ga_cons (gd_tup (ga_cons gd_str (ga_cons gd_str (ga_cons gd_int (ga_cons gd_str ga_nil))))) (ga_cons (gd_tup (ga_cons gd_str (ga_cons gd_str ga_nil))) (ga_cons (gd_tup ga_nil) (ga_cons (gd_tup (ga_cons gd_str (ga_cons gd_str (ga_cons gd_str ga_nil)))) (ga_cons gd_none (ga_cons gd_str (ga_cons (gd_fz (ge_lst (ga_cons gd_str ga_nil))) (ga_cons (gd_tup (ga_cons gd_str (ga_cons (gd_fz (ge_mulV (go_d gd_str) (go_d gd_int))) (ga_cons gd_str ga_nil)))) ga_nil)))))))))))))))
 (gss_cons (gs_set (i := 6) sc__law_odd.nd rfl (by first | exact .inl rfl | exact .inr rfl) (ge_add (go_d (gd_fz (ge_lc (own := [("one", 7)]) rfl rfl sc__law_odd.nd (gi_seq (gd_v 5 (pv 5))) (blk_of (by kernel_rfl)) (fun _ _ _ _ _ => (gg_name (by decide) sc__law_odd.nd rfl (by first | exact .inl rfl | exact .inr rfl))) (fun _ _ _ _ _ => gts_nil) (fun _ _ _ _ _ => (gd_fz (ge_add (go_d (gd_fz (ge_add (go_d (gd_fz (ge_slice (go_s 1 (pv 1)) gp_no (gp_so (go_s 2 (pv 2)))))) (go_d (gd_tup (ga_cons (gd_fz (ge_add (go_d (gd_fz (ge_add (go_d (gd_fz (ge_slice (go_s 3 (pv 3)) gp_no (gp_so (go_s 4 (pv 4)))))) (go_d (gd_tup (ga_cons (gd_v 7 (pv 7)) ga_nil)))))) (go_d (gd_fz (ge_slice (go_s 3 (pv 3)) (gp_so (go_s 4 (pv 4))) gp_no))))) ga_nil)))))) (go_d (gd_fz (ge_slice (go_s 1 (pv 1)) (gp_so (go_d (gd_fz (ge_add (go_s 2 (pv 2)) (go_d gd_int))))) gp_no))))))))) (go_d (gd_fz (ge_lst (ga_cons (gd_fz (ge_list rfl t.n_list (go_s 1 (pv 1)))) (ga_cons gd_none (ga_cons gd_int (ga_cons (gd_tup ga_nil) (ga_cons (gd_fz (ge_add (go_d (gd_fz (ge_add (go_d (gd_fz (ge_slice (go_s 1 (pv 1)) gp_no (gp_so (go_s 2 (pv 2)))))) (go_d (gd_tup (ga_cons (gd_fz (ge_list rfl t.n_list (go_s 3 (pv 3)))) ga_nil)))))) (go_d (gd_fz (ge_slice (go_s 1 (pv 1)) (gp_so (go_d (gd_fz (ge_add (go_s 2 (pv 2)) (go_d gd_int))))) gp_no))))) ga_nil))))))))))
 (gss_cons (gs_set (i := 8) sc__law_odd.nd rfl (by first | exact .inl rfl | exact .inr rfl) (ge_sh (gd_tup (ga_cons (gd_tup (ga_cons gd_str (ga_cons gd_str (ga_cons gd_str ga_nil)))) (ga_cons (gd_tup (ga_cons gd_str (ga_cons gd_str (ga_cons gd_int (ga_cons gd_str ga_nil))))) ga_nil)))))
 (gss_one (gs_ret (ge_add (go_s 6 (pv 6)) (go_d (gd_fz (ge_lst (ga_cons (gd_tup (ga_cons (gd_v 8 (pv 8)) ga_nil)) (ga_cons (gd_tup (ga_cons (gd_fz (ge_mulU (go_d (gd_tup (ga_cons (gd_tup (ga_cons gd_str ga_nil)) ga_nil))) (go_d gd_int))) ga_nil)) (ga_cons (gd_tup (ga_cons (gd_fz (ge_mulU (go_d (gd_tup (ga_cons (gd_tup (ga_cons gd_str ga_nil)) ga_nil))) (go_d gd_int))) (ga_cons (gd_fz (ge_mulU (go_d (gd_tup (ga_cons (gd_tup (ga_cons gd_str ga_nil)) ga_nil))) (go_d gd_int))) (ga_cons (gd_tup (ga_cons (gd_tup (ga_cons gd_str ga_nil)) ga_nil)) ga_nil)))) (ga_cons (gd_fz (ge_mulU (go_d (gd_tup (ga_cons (gd_tup ga_nil) ga_nil))) (go_d gd_int))) (ga_cons (gd_tup (ga_cons gd_str ga_nil)) ga_nil))))))))))))))))))
  exact ⟨fd, hm, F.kp, F.bindsN (fun _ _ _ _ _ _ us hl => match us, hl with | [_, _], _ => rfl), key⟩
/-! law -/
theorem sc_law : FnScope ["script", "draws", "program", "k", "row", "good", "value", "names", "places", "command", "j", "turn", "some", "gap", "rows"] ["script"] (defScope (top 21)) := ⟨rfl, rfl, rfl, by decide +kernel, rfl, by decide +kernel, by decide +kernel⟩
def c1_law : M Vl := mcomp [3] (rngM1 (fz (op1 oLen (nm 2)))) (tgN 3) (tst (fz (op2 oGt (odD (fz (op1 oLen (odD (fz (op2 oIx (nm 2) (nm 3))))))) (odD (cst (.int 4)))))) (nv 3)
def c2_law : M Vl := mcomp [4] (seqM (nv 2)) (tgN 4) mtrue (fz (mslice (nm 4) pno (pso (odD (cst (.int 4))))))
def c3_law : M Vl := mcomp [6] (seqM (nv 5)) (tgN 6) (mnot (tst (fz (mcall 2 F__law_says (macons (fz (mcall 1 F_is_program (macons (nv 6) manil))) (macons (cst (.bool true)) manil)))))) (nv 6)
def c4_law : M Vl := mcomp [6] (seqM (fz (mcallI 2 F__law_odd 1 (macons (nv 2) manil)))) (tgN 6) (tst (fz (op2 (oIs true) (odD (fz (mcall 1 F_is_program (macons (nv 6) manil)))) (odD (cst (.bool false)))))) (nv 6)
def c5_law : M Vl := mcomp [9] (seqM (fz (op2 oIx (nm 2) (nm 3)))) (tgN 9) (tst (fz (op2 (oIn false) (odD (fz (op2 oIx (nm 9) (odD (cst (.int 0)))))) (odD (mtup (macons (cst (.str "get")) (macons (cst (.str "swap")) manil))))))) (mtup (macons (nv 3) (macons (fz (op2 oIx (nm 9) (odD (fz (op1 (oI1 fun i => -i) (odD (cst (.int 1)))))))) manil)))
def c6_law : M Vl := mcomp [10] (rngM2 (cst (.int 1)) (fz (op1 oLen (odD (fz (op2 oIx (nm 2) (nm 3))))))) (tgN 10) mtrue (mtup (macons (nv 3) (macons (nv 10) manil)))
def l7_law : M Fl := mfor (rngM1 (fz (op1 oLen (nm 2)))) (tgN 3)
  (mseq (asgN 7 (op2 oAdd (nm 7) (odD (fz c5_law))))
 (asgN 8 (op2 oAdd (nm 8) (odD (fz c6_law)))))
def c8_law : M Vl := mcomp [13] (seqM (nv 8)) (tgN 13) (tst (fz (op2 oEq (odD (fz (mcallI 2 F__law_take 1 (macons (cst (.int 2)) manil)))) (odD (cst (.int 0)))))) (nv 13)
def l9_law : M Fl := mfor (rngM1 (fz (op1 oLen (odD (fz (op2 oIx (nm 2) (nm 3))))))) (tgN 10)
  (asgN 4 (op2 oAdd (odD (fz (op2 oAdd (nm 4) (odD (fz (op2 oMulU (odD (mtup (macons (mtup (macons (cst (.str "fence")) manil)) manil))) (odD (fz (op1 oIntB (odD (fz (op2 (oInS false) (odD (mtup (macons (nv 3) (macons (nv 10) manil)))) (nm 12))))))))))))) (odD (mtup (macons (fz (op2 oIx (odD (fz (op2 oIx (nm 2) (nm 3)))) (nm 10))) manil)))))
def l10_law : M Fl := mfor (rngM1 (fz (op1 oLen (nm 2)))) (tgN 3)
  (mseq (asgN 4 (shV (mtup manil)))
 (mseq l9_law
 (mdrop (shV (mapp 14 (nv 4))))))
def l11_law : M Fl := mfor (rngM1 (cst (.int 3))) (tgN 11)
  (mseq (asgN 12 (op1 oTuple (odD (fz c8_law))))
 (mseq (asgN 14 (mlst manil))
 (mseq l10_law
 (mifS (mor (mnot (tst (fz (mcall 2 F__law_alike (macons (fz (mcall 2 F_fenced (macons (nv 2) (macons (nv 12) manil)))) (macons (fz (op1 oTuple (nm 14))) manil)))))) (tst (fz (op2 oNe (odD (fz (mcall 1 F_registers (macons (fz (mcall 2 F_fenced (macons (nv 2) (macons (nv 12) manil)))) manil)))) (odD (fz (op1 oSorted (nm 7))))))))
  (mret (shV (cst (.bool false))))
  mnx))))
def m_law : M Fl := (mseq (asgN 1 (mcall 1 F__law_draws (macons (nv 0) manil)))
 (mseq (asgN 2 (mcallI 2 F__law_program 1 (macons (cst (.int 8)) manil)))
 (mseq (mifS (tst (fz (op2 oNe (odD (fz c1_law)) (odD (fz (mlst manil))))))
  (asgN 2 (op1 oTuple (odD (fz c2_law))))
  mnx)
 (mseq (asgN 5 (mlst (macons (nv 2) (macons (mtup (macons (mtup manil) manil)) (macons (mtup (macons (mtup manil) (macons (mtup manil) (macons (mtup manil) manil)))) (macons (mtup (macons (fz (op2 oMulU (odD (mtup (macons (mtup (macons (cst (.str "fence")) manil)) manil))) (odD (cst (.int 4))))) (macons (fz (op2 oMulU (odD (mtup (macons (mtup (macons (cst (.str "fence")) manil)) manil))) (odD (cst (.int 4))))) manil))) (macons (mtup (macons (mtup (macons (mtup (macons (cst (.str "get")) (macons (cst (.str "x")) (macons (cst (.str "r")) manil)))) manil)) (macons (mtup (macons (mtup (macons (cst (.str "get")) (macons (cst (.str "x")) (macons (cst (.str "r")) manil)))) manil)) manil))) (macons (mtup (macons (mtup (macons (mtup (macons (cst (.str "put")) (macons (fz (op2 oMulV (odD (cst (.str "a"))) (odD (cst (.int 16))))) (macons (cst (.int 9)) manil)))) (macons (mtup (macons (cst (.str "put")) (macons (cst (.str "a")) (macons (cst (.int 0)) manil)))) manil))) manil)) manil))))))))
 (mseq (mifS (mor (tst (fz (op2 oNe (odD (fz c3_law)) (odD (fz (mlst manil)))))) (tst (fz (op2 oNe (odD (fz c4_law)) (odD (fz (mlst manil)))))))
  (mret (shV (cst (.bool false))))
  mnx)
 (mseq (asgN 7 (mlst manil))
 (mseq (asgN 8 (mlst manil))
 (mseq l7_law
 (mseq (mifS (mnot (tst (fz (mcall 2 F__law_alike (macons (fz (mlst (macons (fz (mcall 1 F_registers (macons (nv 2) manil))) (macons (fz (mcall 1 F_gaps (macons (nv 2) manil))) manil)))) (macons (fz (mlst (macons (fz (op1 oSorted (nm 7))) (macons (nv 8) manil)))) manil))))))
  (mret (shV (cst (.bool false))))
  mnx)
 (mseq l11_law
 (mret (mcall 2 F__law_alike (macons (fz (mcall 2 F_fenced (macons (nv 2) (macons (mtup manil) manil)))) (macons (nv 2) manil))))))))))))))
def F_law : Fn := run 15 m_law
theorem fn_law (t : Tops w K mg base) {fd : FuncData} (F : FunD K "law" "law" (defArgs (top 21)) (defBody (top 21)) (defScope (top 21)) [] [] (He.ga K "law") fd) : FnOk P w K mg base CX0 13 (He.ga K "law") fd ["script"] (spF ⟨K, TT K⟩ 1 F_law) := by
  have H__law_draws := ok__law_draws (P := P) t
  have H__law_program := ok__law_program (P := P) t
  have H__law_says := ok__law_says (P := P) t
  have H_is_program := ok_is_program (P := P) t
  have H__law_odd := ok__law_odd (P := P) t
  have H__law_alike := ok__law_alike (P := P) t
  have H_registers := ok_registers (P := P) t
  have H_gaps := ok_gaps (P := P) t
  have H__law_take := ok__law_take (P := P) t
  have H_fenced := ok_fenced (P := P) t
  have key := fn_okD (P := P) (w := w) (mg := mg) (base := base) (T := TT K) (k := 12) (m := m_law) F sc_law fun cdv A outer s H E hcd hr => (gss_cons (gs_set (i := 1) sc_law.nd rfl (by first | exact .inl rfl | exact .inr rfl) (ge_callH H__law_draws hr (by omega) rfl (ga_cons (gd_v 0 (pv 0)) ga_nil)))
 (gss_cons (gs_set (i := 2) sc_law.nd rfl (by first | exact .inl rfl | exact .inr rfl) (ge_callHI H__law_program hr (by omega) rfl (pv 1) (ga_cons gd_int ga_nil)))
 (gss_cons (gs_if (gt_cmp (c_ne hr) (go_d (gd_fz (ge_lc (own := [("k", 3)]) rfl rfl sc_law.nd (gi_range1 rfl t.n_range (gd_fz (ge_len rfl t.n_len (go_s 2 (pv 2))))) (blk_of (by kernel_rfl)) (fun _ _ _ _ _ => (gg_name (by decide) sc_law.nd rfl (by first | exact .inl rfl | exact .inr rfl))) (fun _ _ _ _ _ => (gts_one (gt_cmp c_gt (go_d (gd_fz (ge_len rfl t.n_len (go_d (gd_fz (ge_ix (go_s 2 (pv 2)) (go_s 3 (pv 3)))))))) (go_d gd_int)))) (fun _ _ _ _ _ => (gd_v 3 (pv 3)))))) (go_d (gd_fz (ge_lst ga_nil))))
  (gss_one (gs_set (i := 2) sc_law.nd rfl (by first | exact .inl rfl | exact .inr rfl) (ge_tuple rfl t.n_tuple (go_d (gd_fz (ge_lc (own := [("row", 4)]) rfl rfl sc_law.nd (gi_seq (gd_v 2 (pv 2))) (blk_of (by kernel_rfl)) (fun _ _ _ _ _ => (gg_name (by decide) sc_law.nd rfl (by first | exact .inl rfl | exact .inr rfl))) (fun _ _ _ _ _ => gts_nil) (fun _ _ _ _ _ => (gd_fz (ge_slice (go_s 4 (pv 4)) gp_no (gp_so (go_d gd_int)))))))))))
  gss_nil)
 (gss_cons (gs_set (i := 5) sc_law.nd rfl (by first | exact .inl rfl | exact .inr rfl) (ge_lst (ga_cons (gd_v 2 (pv 2)) (ga_cons (gd_tup (ga_cons (gd_tup ga_nil) ga_nil)) (ga_cons (gd_tup (ga_cons (gd_tup ga_nil) (ga_cons (gd_tup ga_nil) (ga_cons (gd_tup ga_nil) ga_nil)))) (ga_cons (gd_tup (ga_cons (gd_fz (ge_mulU (go_d (gd_tup (ga_cons (gd_tup (ga_cons gd_str ga_nil)) ga_nil))) (go_d gd_int))) (ga_cons (gd_fz (ge_mulU (go_d (gd_tup (ga_cons (gd_tup (ga_cons gd_str ga_nil)) ga_nil))) (go_d gd_int))) ga_nil))) (ga_cons (gd_tup (ga_cons (gd_tup (ga_cons (gd_tup (ga_cons gd_str (ga_cons gd_str (ga_cons gd_str ga_nil)))) ga_nil)) (ga_cons (gd_tup (ga_cons (gd_tup (ga_cons gd_str (ga_cons gd_str (ga_cons gd_str ga_nil)))) ga_nil)) ga_nil))) (ga_cons (gd_tup (ga_cons (gd_tup (ga_cons (gd_tup (ga_cons gd_str (ga_cons (gd_fz (ge_mulV (go_d gd_str) (go_d gd_int))) (ga_cons gd_int ga_nil)))) (ga_cons (gd_tup (ga_cons gd_str (ga_cons gd_str (ga_cons gd_int ga_nil)))) ga_nil))) ga_nil)) ga_nil))))))))
 (gss_cons (gs_if (gt_w (gw_or (gt_cmp (c_ne hr) (go_d (gd_fz (ge_lc (own := [("value", 6)]) rfl rfl sc_law.nd (gi_seq (gd_v 5 (pv 5))) (blk_of (by kernel_rfl)) (fun _ _ _ _ _ => (gg_name (by decide) sc_law.nd rfl (by first | exact .inl rfl | exact .inr rfl))) (fun _ _ _ _ _ => (gts_one (gt_not (gt_val (gd_fz (ge_callH H__law_says hr (by omega) rfl (ga_cons (gd_fz (ge_callH H_is_program hr (by omega) rfl (ga_cons (gd_v 6 (pv 6)) ga_nil))) (ga_cons gd_bool ga_nil)))))))) (fun _ _ _ _ _ => (gd_v 6 (pv 6)))))) (go_d (gd_fz (ge_lst ga_nil)))) (gw_or1 (gt_cmp (c_ne hr) (go_d (gd_fz (ge_lc (own := [("value", 6)]) rfl rfl sc_law.nd (gi_seq (gd_fz (ge_callHI H__law_odd hr (by omega) rfl (pv 1) (ga_cons (gd_v 2 (pv 2)) ga_nil)))) (blk_of (by kernel_rfl)) (fun _ _ _ _ _ => (gg_name (by decide) sc_law.nd rfl (by first | exact .inl rfl | exact .inr rfl))) (fun _ _ _ _ _ => (gts_one (gt_cmp c_isnot (go_d (gd_fz (ge_callH H_is_program hr (by omega) rfl (ga_cons (gd_v 6 (pv 6)) ga_nil)))) (go_d gd_bool)))) (fun _ _ _ _ _ => (gd_v 6 (pv 6)))))) (go_d (gd_fz (ge_lst ga_nil)))))))
  (gss_one (gs_ret (ge_sh gd_bool)))
  gss_nil)
 (gss_cons (gs_set (i := 7) sc_law.nd rfl (by first | exact .inl rfl | exact .inr rfl) (ge_lst ga_nil))
 (gss_cons (gs_set (i := 8) sc_law.nd rfl (by first | exact .inl rfl | exact .inr rfl) (ge_lst ga_nil))
 (gss_cons (gs_for (L := [3]) PassesOwn.never rfl (gi_range1 rfl t.n_range (gd_fz (ge_len rfl t.n_len (go_s 2 (pv 2))))) (gg_name (by decide) sc_law.nd rfl (by first | exact .inl rfl | exact .inr rfl))
  (gss_cons (gs_set (i := 7) sc_law.nd rfl (by first | exact .inl rfl | exact .inr rfl) (ge_add (go_s 7 (pv 7)) (go_d (gd_fz (ge_lc (own := [("command", 9)]) rfl rfl sc_law.nd (gi_seq (gd_fz (ge_ix (go_s 2 (pv 2)) (go_s 3 (pv 3))))) (blk_of (by kernel_rfl)) (fun _ _ _ _ _ => (gg_name (by decide) sc_law.nd rfl (by first | exact .inl rfl | exact .inr rfl))) (fun _ _ _ _ _ => (gts_one (gt_cmp c_in (go_d (gd_fz (ge_ix (go_s 9 (pv 9)) (go_d gd_int)))) (go_d (gd_tup (ga_cons gd_str (ga_cons gd_str ga_nil))))))) (fun _ _ _ _ _ => (gd_tup (ga_cons (gd_v 3 (pv 3)) (ga_cons (gd_fz (ge_ix (go_s 9 (pv 9)) (go_d (gd_fz (ge_neg (go_d gd_int)))))) ga_nil)))))))))
 (gss_one (gs_set (i := 8) sc_law.nd rfl (by first | exact .inl rfl | exact .inr rfl) (ge_add (go_s 8 (pv 8)) (go_d (gd_fz (ge_lc (own := [("j", 10)]) rfl rfl sc_law.nd (gi_range2 rfl t.n_range gd_int (gd_fz (ge_len rfl t.n_len (go_d (gd_fz (ge_ix (go_s 2 (pv 2)) (go_s 3 (pv 3)))))))) (blk_of (by kernel_rfl)) (fun _ _ _ _ _ => (gg_name (by decide) sc_law.nd rfl (by first | exact .inl rfl | exact .inr rfl))) (fun _ _ _ _ _ => gts_nil) (fun _ _ _ _ _ => (gd_tup (ga_cons (gd_v 3 (pv 3)) (ga_cons (gd_v 10 (pv 10)) ga_nil))))))))))))
 (gss_cons (gs_if (gt_not (gt_val (gd_fz (ge_callH H__law_alike hr (by omega) rfl (ga_cons (gd_fz (ge_lst (ga_cons (gd_fz (ge_callH H_registers hr (by omega) rfl (ga_cons (gd_v 2 (pv 2)) ga_nil))) (ga_cons (gd_fz (ge_callH H_gaps hr (by omega) rfl (ga_cons (gd_v 2 (pv 2)) ga_nil))) ga_nil)))) (ga_cons (gd_fz (ge_lst (ga_cons (gd_fz (ge_sorted hr rfl t.n_sorted (go_s 7 (pv 7)))) (ga_cons (gd_v 8 (pv 8)) ga_nil)))) ga_nil))))))
  (gss_one (gs_ret (ge_sh gd_bool)))
  gss_nil)
 (gss_cons (gs_for (L := [11]) PassesOwn.never rfl (gi_range1 rfl t.n_range gd_int) (gg_name (by decide) sc_law.nd rfl (by first | exact .inl rfl | exact .inr rfl))
  (gss_cons (gs_set (i := 12) sc_law.nd rfl (by first | exact .inl rfl | exact .inr rfl) (ge_tuple rfl t.n_tuple (go_d (gd_fz (ge_lc (own := [("gap", 13)]) rfl rfl sc_law.nd (gi_seq (gd_v 8 (pv 8))) (blk_of (by kernel_rfl)) (fun _ _ _ _ _ => (gg_name (by decide) sc_law.nd rfl (by first | exact .inl rfl | exact .inr rfl))) (fun _ _ _ _ _ => (gts_one (gt_cmp (c_eq hr) (go_d (gd_fz (ge_callHI H__law_take hr (by omega) rfl (pv 1) (ga_cons gd_int ga_nil)))) (go_d gd_int)))) (fun _ _ _ _ _ => (gd_v 13 (pv 13))))))))
 (gss_cons (gs_set (i := 14) sc_law.nd rfl (by first | exact .inl rfl | exact .inr rfl) (ge_lst ga_nil))
 (gss_cons (gs_for (L := [3]) PassesOwn.never rfl (gi_range1 rfl t.n_range (gd_fz (ge_len rfl t.n_len (go_s 2 (pv 2))))) (gg_name (by decide) sc_law.nd rfl (by first | exact .inl rfl | exact .inr rfl))
  (gss_cons (gs_set (i := 4) sc_law.nd rfl (by first | exact .inl rfl | exact .inr rfl) (ge_sh (gd_tup ga_nil)))
 (gss_cons (gs_for (L := [10]) PassesOwn.never rfl (gi_range1 rfl t.n_range (gd_fz (ge_len rfl t.n_len (go_d (gd_fz (ge_ix (go_s 2 (pv 2)) (go_s 3 (pv 3)))))))) (gg_name (by decide) sc_law.nd rfl (by first | exact .inl rfl | exact .inr rfl))
  (gss_one (gs_set (i := 4) sc_law.nd rfl (by first | exact .inl rfl | exact .inr rfl) (ge_add (go_d (gd_fz (ge_add (go_s 4 (pv 4)) (go_d (gd_fz (ge_mulU (go_d (gd_tup (ga_cons (gd_tup (ga_cons gd_str ga_nil)) ga_nil))) (go_d (gd_fz (ge_intB rfl t.n_int (go_d (gd_fz (ge_cmp (c_inS hr) (go_d (gd_tup (ga_cons (gd_v 3 (pv 3)) (ga_cons (gd_v 10 (pv 10)) ga_nil)))) (go_s 12 (pv 12)))))))))))))) (go_d (gd_tup (ga_cons (gd_fz (ge_ix (go_d (gd_fz (ge_ix (go_s 2 (pv 2)) (go_s 3 (pv 3))))) (go_s 10 (pv 10)))) ga_nil)))))))
 (gss_one (gs_expr (ge_sh (gd_append (pv 14) (gd_v 4 (pv 4)))))))))
 (gss_one (gs_if (gt_w (gw_or (gt_not (gt_val (gd_fz (ge_callH H__law_alike hr (by omega) rfl (ga_cons (gd_fz (ge_callH H_fenced hr (by omega) rfl (ga_cons (gd_v 2 (pv 2)) (ga_cons (gd_v 12 (pv 12)) ga_nil)))) (ga_cons (gd_fz (ge_tuple rfl t.n_tuple (go_s 14 (pv 14)))) ga_nil)))))) (gw_or1 (gt_cmp (c_ne hr) (go_d (gd_fz (ge_callH H_registers hr (by omega) rfl (ga_cons (gd_fz (ge_callH H_fenced hr (by omega) rfl (ga_cons (gd_v 2 (pv 2)) (ga_cons (gd_v 12 (pv 12)) ga_nil)))) ga_nil)))) (go_d (gd_fz (ge_sorted hr rfl t.n_sorted (go_s 7 (pv 7)))))))))
  (gss_one (gs_ret (ge_sh gd_bool)))
  gss_nil))))))
 (gss_one (gs_ret (ge_callH H__law_alike hr (by omega) rfl (ga_cons (gd_fz (ge_callH H_fenced hr (by omega) rfl (ga_cons (gd_v 2 (pv 2)) (ga_cons (gd_tup ga_nil) ga_nil)))) (ga_cons (gd_v 2 (pv 2)) ga_nil)))))))))))))))
  exact key
end
/-! the head -/
def dfn (x : Str) (i : Nat) : He.DefD := ⟨(x, none), x, x, defArgs (top i), defBody (top i), defScope (top i), [], []⟩
def fn : List He.DefD := [dfn "is_name" 1, dfn "is_digit" 6, dfn "is_command" 7, dfn "is_thread" 8, dfn "is_program" 9, dfn "registers" 10, dfn "gaps" 11, dfn "fenced" 12, dfn "_law_draws" 14, dfn "_law_take" 15, dfn "_law_says" 16, dfn "_law_alike" 17, dfn "_law_command" 18, dfn "_law_program" 19, dfn "_law_odd" 20, dfn "law" 21]
def fa : List He.Fa := [.glo "is_name", .glo "is_digit", .glo "is_command", .glo "is_thread", .glo "is_program", .glo "registers", .glo "gaps", .glo "fenced", .glo "_law_draws", .glo "_law_take", .glo "_law_says", .glo "_law_alike", .glo "_law_command", .glo "_law_program", .glo "_law_odd", .glo "law", .free "abs", .free "all", .free "bool", .free "enumerate", .free "int", .free "isinstance", .free "len", .free "list", .free "min", .free "range", .free "reversed", .free "sorted", .free "str", .free "sum", .free "tuple"]
def ts : List He.Tab := []
def exs (K : PySem.W.Frag) : List Bool := [gloB K "MOST_COMMANDS" (.int 4), gloB K "MOST_IN_ALL" (.int 8), gloB K "MOST_THREADS" (.int 3)]
def ex (K : PySem.W.Frag) : Bool := (exs K).all fun b => b
abbrev R : PySem.W.OpenRow := PySem.W.OpenLaw.row PySem.Challenge.rw_happenedfirst_k43_programs_and_gaps
abbrev hk : PySem.W.Hook := He.hookX 6 fa fn ts tf ex
def ob (s : PySem.W.SharedT) : He.AlX := He.obsX 6 fa fn ts tf ex (HandSHeadRun.getT s)
theorem ob_eq (s : PySem.W.SharedT) : ob s = hk.obs s.abs := He.obsX_eq (HandSHeadRun.getT_eq s)
theorem head_run (w : World) : HandSHeadRun.RunEq R (PySem.W.view R.prog [21]) hk ob 4000 ["is_name", "MOST_THREADS", "MOST_COMMANDS", "MOST_IN_ALL", "is_digit", "is_command", "is_thread", "is_program", "registers", "gaps", "fenced", "_law_draws", "_law_take", "_law_says", "_law_alike", "_law_command", "_law_program", "_law_odd"] w := by
  refine PySem.W.byRow2 "special-get-raises" (P := fun w => HandSHeadRun.RunEq R (PySem.W.view R.prog [21]) hk ob 4000 ["is_name", "MOST_THREADS", "MOST_COMMANDS", "MOST_IN_ALL", "is_digit", "is_command", "is_thread", "is_program", "registers", "gaps", "fenced", "_law_draws", "_law_take", "_law_says", "_law_alike", "_law_command", "_law_program", "_law_odd"] w) (fun w => ?_) (fun w => ?_) w
  · intro os; kernel_rfl
  · intro os; kernel_rfl
theorem tops_of {w : World} {K : PySem.W.Frag} {mg : Str → Option Value} {h base : Heap} (KX : K.In h) (G : h.Ns mainGlobals mg) (c : He.SaysX fa fn ts tf ex w h K) (TB : ∀ p ∈ tf, GxR.TabB base mg (He.cT K p).1 (He.cT K p).2) : Tops w K mg base where
  n_abs := He.free_ok KX G (c.t.d.fact 16 (f := .free "abs") rfl)
  n_all := He.free_ok KX G (c.t.d.fact 17 (f := .free "all") rfl)
  n_bool := He.free_ok KX G (c.t.d.fact 18 (f := .free "bool") rfl)
  n_enumerate := He.free_ok KX G (c.t.d.fact 19 (f := .free "enumerate") rfl)
  n_int := He.free_ok KX G (c.t.d.fact 20 (f := .free "int") rfl)
  n_isinstance := He.free_ok KX G (c.t.d.fact 21 (f := .free "isinstance") rfl)
  n_len := He.free_ok KX G (c.t.d.fact 22 (f := .free "len") rfl)
  n_list := He.free_ok KX G (c.t.d.fact 23 (f := .free "list") rfl)
  n_min := He.free_ok KX G (c.t.d.fact 24 (f := .free "min") rfl)
  n_range := He.free_ok KX G (c.t.d.fact 25 (f := .free "range") rfl)
  n_reversed := He.free_ok KX G (c.t.d.fact 26 (f := .free "reversed") rfl)
  n_sorted := He.free_ok KX G (c.t.d.fact 27 (f := .free "sorted") rfl)
  n_str := He.free_ok KX G (c.t.d.fact 28 (f := .free "str") rfl)
  n_sum := He.free_ok KX G (c.t.d.fact 29 (f := .free "sum") rfl)
  n_tuple := He.free_ok KX G (c.t.d.fact 30 (f := .free "tuple") rfl)
  g_MOST_COMMANDS := glo_of KX G (ex_get c.more 0)
  g_MOST_IN_ALL := glo_of KX G (ex_get c.more 1)
  g_MOST_THREADS := glo_of KX G (ex_get c.more 2)
  f_is_name := (c.t.d.def_ 0 (d := dfn "is_name" 1) rfl).imp fun fd F => ⟨F, He.glo_ok KX G (c.t.d.fact 0 (f := .glo "is_name") rfl)⟩
  f_is_digit := (c.t.d.def_ 1 (d := dfn "is_digit" 6) rfl).imp fun fd F => ⟨F, He.glo_ok KX G (c.t.d.fact 1 (f := .glo "is_digit") rfl)⟩
  f_is_command := (c.t.d.def_ 2 (d := dfn "is_command" 7) rfl).imp fun fd F => ⟨F, He.glo_ok KX G (c.t.d.fact 2 (f := .glo "is_command") rfl)⟩
  f_is_thread := (c.t.d.def_ 3 (d := dfn "is_thread" 8) rfl).imp fun fd F => ⟨F, He.glo_ok KX G (c.t.d.fact 3 (f := .glo "is_thread") rfl)⟩
  f_is_program := (c.t.d.def_ 4 (d := dfn "is_program" 9) rfl).imp fun fd F => ⟨F, He.glo_ok KX G (c.t.d.fact 4 (f := .glo "is_program") rfl)⟩
  f_registers := (c.t.d.def_ 5 (d := dfn "registers" 10) rfl).imp fun fd F => ⟨F, He.glo_ok KX G (c.t.d.fact 5 (f := .glo "registers") rfl)⟩
  f_gaps := (c.t.d.def_ 6 (d := dfn "gaps" 11) rfl).imp fun fd F => ⟨F, He.glo_ok KX G (c.t.d.fact 6 (f := .glo "gaps") rfl)⟩
  f_fenced := (c.t.d.def_ 7 (d := dfn "fenced" 12) rfl).imp fun fd F => ⟨F, He.glo_ok KX G (c.t.d.fact 7 (f := .glo "fenced") rfl)⟩
  f__law_draws := (c.t.d.def_ 8 (d := dfn "_law_draws" 14) rfl).imp fun fd F => ⟨F, He.glo_ok KX G (c.t.d.fact 8 (f := .glo "_law_draws") rfl)⟩
  f__law_take := (c.t.d.def_ 9 (d := dfn "_law_take" 15) rfl).imp fun fd F => ⟨F, He.glo_ok KX G (c.t.d.fact 9 (f := .glo "_law_take") rfl)⟩
  f__law_says := (c.t.d.def_ 10 (d := dfn "_law_says" 16) rfl).imp fun fd F => ⟨F, He.glo_ok KX G (c.t.d.fact 10 (f := .glo "_law_says") rfl)⟩
  f__law_alike := (c.t.d.def_ 11 (d := dfn "_law_alike" 17) rfl).imp fun fd F => ⟨F, He.glo_ok KX G (c.t.d.fact 11 (f := .glo "_law_alike") rfl)⟩
  f__law_command := (c.t.d.def_ 12 (d := dfn "_law_command" 18) rfl).imp fun fd F => ⟨F, He.glo_ok KX G (c.t.d.fact 12 (f := .glo "_law_command") rfl)⟩
  f__law_program := (c.t.d.def_ 13 (d := dfn "_law_program" 19) rfl).imp fun fd F => ⟨F, He.glo_ok KX G (c.t.d.fact 13 (f := .glo "_law_program") rfl)⟩
  f__law_odd := (c.t.d.def_ 14 (d := dfn "_law_odd" 20) rfl).imp fun fd F => ⟨F, He.glo_ok KX G (c.t.d.fact 14 (f := .glo "_law_odd") rfl)⟩
  f_law := (c.t.d.def_ 15 (d := dfn "law" 21) rfl).imp fun fd F => ⟨F, He.glo_ok KX G (c.t.d.fact 15 (f := .glo "law") rfl)⟩
  t_is_name := TB ("is_name", none) (by decide)
  t_is_thread := TB ("is_thread", none) (by decide)
  t_is_program := TB ("is_program", none) (by decide)
theorem the_end (hF : ∀ ns : List Int, ns.length ≤ 63 → (∀ z ∈ ns, Builtin.Int.intBits z ≤ 1048576) → ∃ en', F_law (scr ns) = .ok (.sh (.bool true)) en') : PySem.Challenge.rw_happenedfirst_k43_programs_and_gaps.Holds := by
  w_on; o_law
  refine HandSHeadRun.head_any (r := R) (q := PySem.W.view R.prog [21]) (H := hk) (ob := ob) (M := 4000) (loose := ["is_name", "MOST_THREADS", "MOST_COMMANDS", "MOST_IN_ALL", "is_digit", "is_command", "is_thread", "is_program", "registers", "gaps", "fenced", "_law_draws", "_law_take", "_law_says", "_law_alike", "_law_command", "_law_program", "_law_odd"]) (d := HandSHeadRun.topDef R.prog 21) (kwd := []) ob_eq
    (by kernel_rfl) (fun s => by kernel_rfl) head_run (by kernel_rfl) (by kernel_rfl) (by kernel_rfl) (by rfl) (by first | assumption | decide +kernel) (by decide +kernel) ⟨rfl, rfl, rfl, rfl, rfl, by decide +kernel⟩ ?hw ?hc
  case hw => w_witness2
  case hc =>
    refine LamX.walk_ofTsE (l := PySem.Challenge.rw_happenedfirst_k43_programs_and_gaps) (n := 63) (k := 13) (x := "script") (CX := fun _ => L2.CX0) rfl (by decide) (by kernel_rfl) ⟨rfl, by decide, by decide⟩ ?F (fun _ _ _ _ _ z => z)
    intro w mg fa0 h Y G hmg0
    obtain ⟨K, KX, c⟩ := Y
    have hmg : mg ("law" : PySem.Str) = some (.ref fa0) := by
      have e : (HandSHeadRun.topDef R.prog 21).name = ("law" : PySem.Str) := by kernel_rfl
      rw [← e]
      exact hmg0
    obtain ⟨fd, F⟩ := c.t.d.def_ 15 (d := dfn "law" 21) rfl
    have e := hmg.symm.trans (He.glo_ok KX G (c.t.d.fact 15 (f := .glo "law") rfl))
    cases e
    have b := FunD.bindsA (ps := ["script"]) F fun _ _ _ _ _ _ us hl => match us, hl with | [_], _ => rfl
    exact ⟨K, KX, law_at KX c (fun s v => b s [v] rfl) hF fun base _ _ TB => fn_law (tops_of KX G c TB) F⟩
end Q43

namespace Q43
open PySem ZD ZP
/-! the draws: _law_draws, _law_take -/
theorem mulX_ok {i j : Int} (h : i.natAbs.log2 + j.natAbs.log2 < 100000000) : oMulU (.int i) (.int j) = .d (.int (i * j)) := if_pos (decide_eq_true h)
theorem add_ok (i j : Int) : oAdd (.int i) (.int j) = .d (.int (i + j)) := rfl
theorem sub_ok (i j : Int) : oSub (.int i) (.int j) = .d (.int (i - j)) := rfl
theorem mod_ok {i j : Int} (h : 0 < j) : oMod (.int i) (.int j) = .d (.int (i % j)) := if_pos (decide_eq_true h)
theorem div_ok {i j : Int} (h : 0 < j) (h2 : j.natAbs.log2 < 9000) : oDiv (.int i) (.int j) = .d (.int (i / j)) := if_pos (decide_eq_true ⟨h, h2⟩)
theorem pow_ok {i j : Int} (h : 0 ≤ j ∧ j ≤ 1000000 ∧ i.natAbs < 2 ^ 64) : oPow (.int i) (.int j) = .d (.int (i ^ j.toNat)) := if_pos (decide_eq_true h)
theorem shaped_int (i : Int) : SeqAt.shaped (.int i) = true := by unfold SeqAt.shaped; rfl
theorem s_take {d : PyData} (hd : DS d) (b : Int) (hb : 0 < b) :
    ∃ (r : Int) (d' : PyData) (en : En), F__law_take [.io d, .sh (.int b)] = .ok (.sh (.int r)) (.io d' :: en) ∧ 0 ≤ r ∧ r < b ∧ DS d' := by
  obtain ⟨l, rfl⟩ := hd
  rcases List.eq_nil_or_concat l with rfl | ⟨l', z, rfl⟩
  · refine ⟨0, .list [], [.sh (.int b)], ?_, Int.le_refl _, hb, [], rfl⟩
    simp [F__law_take, m__law_take, ZD.run, mret, mretN, shV, vand, vor, vnot, fz, op1, op2, op2c, opv2, nm, nv, cst, odD, bnd, ZD.ret, ZD.fail, out, look, tst, mnot, mand, mor, mif, mifS, mseq, mnx, macons, manil, mtup, mlst, asgN, masg, slOf, asgT, tgtup, tgcons, tgnil, tgN, Vl.d, stepC, ZD.wp, wipeable, wipeE, restE, isPlain, mtrue, List.replicate, List.set, oTest, isiInt, isiBool, isiStr, isiTup, isiList, oLe, oLt, oGe, oGt, oOrd, oLen, oIx, gotD, oEq, shaped_int, PyData.eqv]
  · have e1 : (l'.concat z).map PyData.int = l'.map PyData.int ++ [.int z] := by simp
    have nz : ((l'.map PyData.int ++ [PyData.int z]).length : Int) ≠ 0 := by simp; omega
    have g : gPop (.list (l'.map PyData.int ++ [.int z])) = some (.list (l'.map PyData.int), .int z) := by simp [gPop]
    refine ⟨z % b, .list (l'.map .int), [.sh (.int b)], ?_, Int.emod_nonneg _ (by omega), Int.emod_lt_of_pos _ hb, l', rfl⟩
    rw [e1]
    have g2 : (l'.map PyData.int ++ [PyData.int z]).length = l'.length + 1 := by simp
    have g3 : ¬ ((l'.length : Int) + 1 = 0) := by omega
    simp only [F__law_take, m__law_take, ZD.run, mret, mretN, shV, vand, vor, vnot, fz, op1, op2, op2c, opv2, nm, nv, cst, odD, bnd, ZD.ret, ZD.fail, out, look, tst, mnot, mand, mor, mif, mifS, mseq, mnx, macons, manil, mtup, mlst, asgN, masg, slOf, asgT, tgtup, tgcons, tgnil, tgN, Vl.d, stepC, ZD.wp, wipeable, wipeE, restE, isPlain, mtrue, List.replicate, List.set, oTest, isiInt, isiBool, isiStr, isiTup, isiList, oLe, oLt, oGe, oGt, oOrd, oLen, oIx, gotD, oEq, shaped_int, PyData.eqv, mpop, chk, isLs, wr, g, oI1, mod_ok hb, List.length_cons, List.length_nil, List.cons_append, List.nil_append, List.getElem?_cons_succ, List.getElem?_cons_zero]
    simp [g3, mret, ZD.run, mret, mretN, shV, vand, vor, vnot, fz, op1, op2, op2c, opv2, nm, nv, cst, odD, bnd, ZD.ret, ZD.fail, out, look, tst, mnot, mand, mor, mif, mifS, mseq, mnx, macons, manil, mtup, mlst, asgN, masg, slOf, asgT, tgtup, tgcons, tgnil, tgN, Vl.d, stepC, ZD.wp, wipeable, wipeE, restE, isPlain, mtrue, List.replicate, List.set, oTest, isiInt, isiBool, isiStr, isiTup, isiList, oLe, oLt, oGe, oGt, oOrd, oLen, oIx, gotD, mod_ok hb, g, wr, chk, isLs, mdrop, oI1, mpop]
/-! _law_draws -/
def NI (s : Sl) : Prop := ∀ d, s ≠ .io d
theorem set_NI {s : Sl} {i : Nat} {x : Vl} {en : En} (h : en[i]? = some s) (n : NI s) : masg i x en = .ok .nx (en.set i (slOf x)) := by
  unfold masg
  rw [h]
  cases s with
  | io d => exact absurd rfl (n d)
  | _ => rfl
def P7 (S c f s : Sl) (n : Nat) : En → Prop := fun e => ∃ (l : List Int) (x : Int) (k : Sl), NI k ∧ e = [S, .ow (.list (l.map .int)), c, .sh (.int x), f, k, s] ∧ l.length ≤ n
theorem app_ok {l : List Int} {z : Int} (h : l.length < 1000000) : gApp (.int z) (.list (l.map .int)) = some (.list ((l ++ [z]).map .int), .none) := by
  simp [gApp, h]
theorem l1_wp (S c f s : Sl) (n : Nat) (hn : n < 100000) (e : En) (h : P7 S c f s n e) : WP l1__law_draws e fun fl e' => fl = .nx ∧ P7 S c f s (n + 60) e' := by
  unfold l1__law_draws
  refine wp_mfor (wp_rngM1 (wp_cst ⟨60, rfl, by decide, by decide, fun i e => P7 S c f s (n + i) e, h, fun e h => ⟨rfl, by simpa [rngL] using h⟩, fun i d e hd hI => ?_⟩))
  obtain ⟨l, x, k, hk, rfl, hl⟩ := hI
  have hi : i < 60 := by have := (List.getElem?_eq_some_iff.mp hd).1; simpa [rngL] using this
  refine ⟨.nx, [S, .ow (.list (l.map .int)), c, .sh (.int x), f, .sh d, s], set_NI (i := 5) rfl hk, rfl, ?_⟩
  by_cases hx : 0 < x
  · refine wp_eq (a := Fl.nx) (en1 := [S, .ow (.list ((l ++ [x % 997]).map .int)), c, .sh (.int (x / 997)), f, .sh d, s]) ?_ ⟨l ++ [x % 997], x / 997, .sh d, (fun _ z => by cases z), rfl, by simp; omega⟩
    have m1 : oMod (.int x) (.int 997) = .d (.int (x % 997)) := mod_ok (by decide)
    have m2 : oDiv (.int x) (.int 997) = .d (.int (x / 997)) := div_ok (by decide) (log_lt (by decide) (by decide))
    have m3 := app_ok (l := l) (z := x % 997) (by omega)
    simp [ZD.run, mret, mretN, shV, vand, vor, vnot, fz, op1, op2, op2c, opv2, nm, nv, cst, odD, bnd, ZD.ret, ZD.fail, out, look, tst, mnot, mand, mor, mif, mifS, mseq, mnx, macons, manil, mtup, mlst, asgN, masg, slOf, asgT, tgtup, tgcons, tgnil, tgN, Vl.d, stepC, ZD.wp, wipeable, wipeE, restE, isPlain, mtrue, List.replicate, List.set, oTest, isiInt, isiBool, isiStr, isiTup, isiList, oLe, oLt, oGe, oGt, oOrd, oLen, oIx, gotD, hx, mapp, chk, isLs, wr, m1, m2, m3, oI1, mdrop, -List.map_append]
  · refine wp_eq (a := Fl.nx) (en1 := [S, .ow (.list (l.map .int)), c, .sh (.int x), f, .sh d, s]) ?_ ⟨l, x,   .sh d, (fun _ z => by cases z), rfl, by omega⟩
    simp [ZD.run, mret, mretN, shV, vand, vor, vnot, fz, op1, op2, op2c, opv2, nm, nv, cst, odD, bnd, ZD.ret, ZD.fail, out, look, tst, mnot, mand, mor, mif, mifS, mseq, mnx, macons, manil, mtup, mlst, asgN, masg, slOf, asgT, tgtup, tgcons, tgnil, tgN, Vl.d, stepC, ZD.wp, wipeable, wipeE, restE, isPlain, mtrue, List.replicate, List.set, oTest, isiInt, isiBool, isiStr, isiTup, isiList, oLe, oLt, oGe, oGt, oOrd, oLen, oIx, gotD, hx]
def Q7 (S s : Sl) (n : Nat) : En → Prop := fun e => ∃ (l : List Int) (c x f k : Sl), NI c ∧ NI x ∧ NI f ∧ NI k ∧ e = [S, .ow (.list (l.map .int)), c, x, f, k, s] ∧ l.length ≤ n
theorem l2_wp (ns : List Int) (hz : ns.length ≤ 63) (s : Sl) (e : En) (h : Q7 (.sh (.list (ns.map .int))) s 0 e) : WP l2__law_draws e fun fl e' => fl = .nx ∧ Q7 (.sh (.list (ns.map .int))) s 4000 e' := by
  unfold l2__law_draws
  have h0 : e[0]? = some (.sh (.list (ns.map .int))) := by obtain ⟨l, c, x, f, k, _, _, _, _, rfl, _⟩ := h; rfl
  refine wp_mfor (wp_seqM (wp_nv h0 ⟨_, .inl rfl, fun i e => Q7 (.sh (.list (ns.map .int))) s (62 * i) e, h, fun e ⟨l, c, x, f, k, h1, h2, h3, h4, h5, h6⟩ => ⟨rfl, l, c, x, f, k, h1, h2, h3, h4, h5, by rw [List.length_map] at h6; omega⟩, fun i d e hd hI => ?_⟩))
  obtain ⟨l, c, x, f, k, h1, h2, h3, h4, rfl, hl⟩ := hI
  have hi : i < 63 := by have := (List.getElem?_eq_some_iff.mp hd).1; rw [List.length_map] at this; omega
  obtain ⟨z, _, rfl⟩ : ∃ z, ns[i]? = some z ∧ PyData.int z = d := by rw [List.getElem?_map] at hd; exact Option.map_eq_some_iff.mp hd
  refine ⟨.nx, [.sh (.list (ns.map .int)), .ow (.list (l.map .int)), .sh (.int z), x, f, k, s], set_NI (i := 2) rfl h1, rfl, ?_⟩
  have fin : ∀ (l' : List Int) (y : Int) (f' : Sl), NI f' → l'.length ≤ l.length + 2 → WP l1__law_draws [.sh (.list (ns.map .int)), .ow (.list (l'.map .int)), .sh (.int z), .sh (.int y), f', k, s] fun g e2 => match g with
      | .nx => Q7 (.sh (.list (ns.map .int))) s (62 * (i + 1)) e2
      | .ct => Q7 (.sh (.list (ns.map .int))) s (62 * (i + 1)) e2
      | .bk => (Fl.nx = .nx ∧ Q7 (.sh (.list (ns.map .int))) s 4000 e2)
      | .rt x => (Fl.rt x = .nx ∧ Q7 (.sh (.list (ns.map .int))) s 4000 e2) := fun l' y f' hf hl' =>
    wp_mono (l1_wp _ (.sh (.int z)) f' s (62 * i + 2) (by omega) _ ⟨l', y, k, h4, rfl, by omega⟩) fun g e2 ⟨g1, l2, x2, k2, g2, g3, g4⟩ => by
      subst g1
      exact ⟨l2, _, _, f', k2, (fun _ q => by cases q), (fun _ q => by cases q), hf, g2, g3, by omega⟩
  have a1 : asgN 3 (op1 (oI1 absI) (nm 2)) [.sh (.list (ns.map .int)), .ow (.list (l.map .int)), .sh (.int z), x, f, k, s] = .ok .nx [.sh (.list (ns.map .int)), .ow (.list (l.map .int)), .sh (.int z), .sh (.int (absI z)), f, k, s] := by
    show bnd _ _ _ = _
    rw [bnd_ok (a := .sh (.int (absI z))) (en1 := [.sh (.list (ns.map .int)), .ow (.list (l.map .int)), .sh (.int z), x, f, k, s]) (by simp [ZD.run, mret, mretN, shV, vand, vor, vnot, fz, op1, op2, op2c, opv2, nm, nv, cst, odD, bnd, ZD.ret, ZD.fail, out, look, tst, mnot, mand, mor, mif, mifS, mseq, mnx, macons, manil, mtup, mlst, asgN, masg, slOf, asgT, tgtup, tgcons, tgnil, tgN, Vl.d, stepC, ZD.wp, wipeable, wipeE, restE, isPlain, mtrue, List.replicate, List.set, oTest, isiInt, isiBool, isiStr, isiTup, isiList, oLe, oLt, oGe, oGt, oOrd, oLen, oIx, gotD, oI1])]
    exact set_NI (i := 3) rfl h2
  refine wp_mseq (wp_eq a1 ?_)
  dsimp only
  have p18 : oPow (.int 10) (.int 18) = .d (.int 1000000000000000000) := pow_ok (by decide)
  generalize hy : absI z = y
  by_cases hb : y < 1000000000000000000
  · have hab : y.natAbs < 2 ^ 60 := by unfold absI at hy; split at hy <;> omega
    have lg := log_lt (by decide) hab
    generalize hF : (y * 48271 + 11) % 2147483647 = F
    have f0 : 0 ≤ F := by rw [← hF]; exact Int.emod_nonneg _ (by decide)
    have f1 : F < 2147483647 := by rw [← hF]; exact Int.emod_lt_of_pos _ (by decide)
    have lF : F.natAbs.log2 < 31 := log_lt (by decide) (by omega)
    have k1 : (48271 : Int).natAbs.log2 < 16 := log_lt (by decide) (by decide)
    have k2 : (69621 : Int).natAbs.log2 < 17 := log_lt (by decide) (by decide)
    have m1 : oMulU (.int y) (.int 48271) = .d (.int (y * 48271)) := mulX_ok (by omega)
    have m2 : oMod (.int (y * 48271 + 11)) (.int 2147483647) = .d (.int F) := by rw [← hF]; exact mod_ok (by decide)
    have m3 : oMulU (.int F) (.int 69621) = .d (.int (F * 69621)) := mulX_ok (by omega)
    have m4 : oMod (.int (F * 69621 + y)) (.int 2147483629) = .d (.int ((F * 69621 + y) % 2147483629)) := mod_ok (by decide)
    have m5 : oDiv (.int y) (.int 7) = .d (.int (y / 7)) := div_ok (by decide) (log_lt (by decide) (by decide))
    have m6 : oMod (.int (F + y / 7)) (.int 1000003) = .d (.int ((F + y / 7) % 1000003)) := mod_ok (by decide)
    generalize hu : (F * 69621 + y) % 2147483629 = u at m4
    generalize hv : (F + y / 7) % 1000003 = v at m6
    have q1 := app_ok (l := l) (z := u) (by omega)
    have q2 := app_ok (l := l ++ [u]) (z := v) (by simp; omega)
    refine wp_mseq (wp_eq (a := Fl.nx) (en1 := [.sh (.list (ns.map .int)), .ow (.list ((l ++ [u] ++ [v]).map .int)), .sh (.int z), .sh (.int 0), .sh (.int F), k, s]) ?_ (fin (l ++ [u] ++ [v]) 0 (.sh (.int F)) (fun _ q => by cases q) (by simp)))
    cases f with
    | io d => exact absurd rfl (h3 d)
    | _ => simp [ZD.run, mret, mretN, shV, vand, vor, vnot, fz, op1, op2, op2c, opv2, nm, nv, cst, odD, bnd, ZD.ret, ZD.fail, out, look, tst, mnot, mand, mor, mif, mifS, mseq, mnx, macons, manil, mtup, mlst, asgN, masg, slOf, asgT, tgtup, tgcons, tgnil, tgN, Vl.d, stepC, ZD.wp, wipeable, wipeE, restE, isPlain, mtrue, List.replicate, List.set, oTest, isiInt, isiBool, isiStr, isiTup, isiList, oLe, oLt, oGe, oGt, oOrd, oLen, oIx, gotD, hb, p18, mapp, chk, isLs, wr, m1, m2, m3, m4, m5, m6, q1, q2, add_ok, oI1, mdrop, -List.map_append, -List.append_assoc]
  · refine wp_mseq (wp_eq (a := Fl.nx) (en1 := [.sh (.list (ns.map .int)), .ow (.list (l.map .int)), .sh (.int z), .sh (.int y), f, k, s]) ?_ (fin l y f h3 (by omega)))
    simp [ZD.run, mret, mretN, shV, vand, vor, vnot, fz, op1, op2, op2c, opv2, nm, nv, cst, odD, bnd, ZD.ret, ZD.fail, out, look, tst, mnot, mand, mor, mif, mifS, mseq, mnx, macons, manil, mtup, mlst, asgN, masg, slOf, asgT, tgtup, tgcons, tgnil, tgN, Vl.d, stepC, ZD.wp, wipeable, wipeE, restE, isPlain, mtrue, List.replicate, List.set, oTest, isiInt, isiBool, isiStr, isiTup, isiList, oLe, oLt, oGe, oGt, oOrd, oLen, oIx, gotD, hb, p18]
def R7 (S c x f : Sl) (n : Nat) : En → Prop := fun e => ∃ (l : List Int) (s : Int) (k : Sl), NI k ∧ e = [S, .ow (.list (l.map .int)), c, x, f, k, .sh (.int s)] ∧ l.length ≤ n ∧ s.natAbs.log2 < 99999000
theorem l3_wp (S c x f : Sl) (e : En) (h : R7 S c x f 4000 e) : WP l3__law_draws e fun fl e' => fl = .nx ∧ R7 S c x f 5000 e' := by
  unfold l3__law_draws
  refine wp_mfor (wp_rngM1 (wp_cst ⟨900, rfl, by decide, by decide, fun i e => R7 S c x f (4000 + i) e, h, fun e ⟨l, s, k, h1, h2, h3, h4⟩ => ⟨rfl, l, s, k, h1, h2, by simp [rngL] at h3; omega, h4⟩, fun i d e hd hI => ?_⟩))
  obtain ⟨l, s, k, hk, rfl, hl, hs⟩ := hI
  have hi : i < 900 := by have := (List.getElem?_eq_some_iff.mp hd).1; simpa [rngL] using this
  refine ⟨.nx, [S, .ow (.list (l.map .int)), c, x, f, .sh d, .sh (.int s)], set_NI (i := 5) rfl hk, rfl, ?_⟩
  have k1 : (48271 : Int).natAbs.log2 < 16 := log_lt (by decide) (by decide)
  have m1 : oMulU (.int s) (.int 48271) = .d (.int (s * 48271)) := mulX_ok (by omega)
  generalize hF : (s * 48271 + 69621) % 2147483647 = F
  have f0 : 0 ≤ F := by rw [← hF]; exact Int.emod_nonneg _ (by decide)
  have f1 : F < 2147483647 := by rw [← hF]; exact Int.emod_lt_of_pos _ (by decide)
  have lF : F.natAbs.log2 < 31 := log_lt (by decide) (by omega)
  have m2 : oMod (.int (s * 48271 + 69621)) (.int 2147483647) = .d (.int F) := by rw [← hF]; exact mod_ok (by decide)
  have m3 : oDiv (.int F) (.int 5) = .d (.int (F / 5)) := div_ok (by decide) (log_lt (by decide) (by decide))
  have q1 := app_ok (l := l) (z := F / 5) (by omega)
  refine wp_eq (a := Fl.nx) (en1 := [S, .ow (.list ((l ++ [F / 5]).map .int)), c, x, f, .sh d, .sh (.int F)]) ?_ ⟨l ++ [F / 5], F, .sh d, (fun _ z => by cases z), rfl, by simp; omega, by omega⟩
  simp [ZD.run, mret, mretN, shV, vand, vor, vnot, fz, op1, op2, op2c, opv2, nm, nv, cst, odD, bnd, ZD.ret, ZD.fail, out, look, tst, mnot, mand, mor, mif, mifS, mseq, mnx, macons, manil, mtup, mlst, asgN, masg, slOf, asgT, tgtup, tgcons, tgnil, tgN, Vl.d, stepC, ZD.wp, wipeable, wipeE, restE, isPlain, mtrue, List.replicate, List.set, oTest, isiInt, isiBool, isiStr, isiTup, isiList, oLe, oLt, oGe, oGt, oOrd, oLen, oIx, gotD, mapp, chk, isLs, wr, m1, m2, m3, q1, add_ok, oI1, mdrop, -List.map_append]
theorem log_one {z : Int} {k : Nat} (h : Builtin.Int.intBits z ≤ k) : (1 + absI z).natAbs.log2 ≤ k := by
  have h1 := PyProof.Rows.natAbs_lt_pow_bits z
  have h2 : z.natAbs < 2 ^ k := Nat.lt_of_lt_of_le h1 (Nat.pow_le_pow_right (by decide) h)
  have h3 : (1 + absI z).natAbs = z.natAbs + 1 := by unfold absI; split <;> omega
  rw [h3]
  have h4 : z.natAbs + 1 < 2 ^ (k + 1) := by rw [Nat.pow_succ]; omega
  have h5 := (Nat.log2_lt (by omega)).mpr h4
  omega
theorem s_draws (ns : List Int) (hz : ns.length ≤ 63) (hb : ∀ z ∈ ns, Builtin.Int.intBits z ≤ 1048576) : ∃ (l : List Int) (en : En), F__law_draws [.sh (.list (ns.map .int))] = .ok (.ow (.list (l.map .int))) en := by
  have key := run_wp (n := 7) (m := m__law_draws) (ps := [.sh (.list (ns.map .int))]) (Q := fun x e => ∃ l : List Int, x = .ow (.list (l.map .int))) ?_
  · obtain ⟨x, en, h1, l, rfl⟩ := key
    exact ⟨l, en, h1⟩
  show WP m__law_draws [.sh (.list (ns.map .int)), .no, .no, .no, .no, .no, .no] _
  unfold m__law_draws
  have no : NI .no := fun _ z => by cases z
  refine wp_mseq (wp_eq (a := Fl.nx) (en1 := [.sh (.list (ns.map .int)), .ow (.list (([] : List Int).map .int)), .no, .no, .no, .no, .no]) (by simp [ZD.run, mret, mretN, shV, vand, vor, vnot, fz, op1, op2, op2c, opv2, nm, nv, cst, odD, bnd, ZD.ret, ZD.fail, out, look, tst, mnot, mand, mor, mif, mifS, mseq, mnx, macons, manil, mtup, mlst, asgN, masg, slOf, asgT, tgtup, tgcons, tgnil, tgN, Vl.d, stepC, ZD.wp, wipeable, wipeE, restE, isPlain, mtrue, List.replicate, List.set, oTest, isiInt, isiBool, isiStr, isiTup, isiList, oLe, oLt, oGe, oGt, oOrd, oLen, oIx, gotD]) ?_)
  refine wp_mseq (wp_mono (l2_wp ns hz .no _ ⟨[], .no, .no, .no, .no, no, no, no, no, rfl, Nat.le_refl _⟩) fun fl e ⟨e1, l, c, x, f, k, n1, n2, n3, n4, e2, hl⟩ => ?_)
  subst e1 e2
  refine wp_mseq (wp_eq (a := Fl.nx) (en1 := [.sh (.list (ns.map .int)), .ow (.list (l.map .int)), c, x, f, k, .sh (.int 1)]) (by simp [ZD.run, mret, mretN, shV, vand, vor, vnot, fz, op1, op2, op2c, opv2, nm, nv, cst, odD, bnd, ZD.ret, ZD.fail, out, look, tst, mnot, mand, mor, mif, mifS, mseq, mnx, macons, manil, mtup, mlst, asgN, masg, slOf, asgT, tgtup, tgcons, tgnil, tgN, Vl.d, stepC, ZD.wp, wipeable, wipeE, restE, isPlain, mtrue, List.replicate, List.set, oTest, isiInt, isiBool, isiStr, isiTup, isiList, oLe, oLt, oGe, oGt, oOrd, oLen, oIx, gotD]) ?_)
  have fin : ∀ s : Int, s.natAbs.log2 < 99999000 → WP (mseq l3__law_draws (mret (op1 oRevL (nm 1)))) [.sh (.list (ns.map .int)), .ow (.list (l.map .int)), c, x, f, k, .sh (.int s)] fun fl e => match fl with
      | .rt x => ∃ l : List Int, x = .ow (.list (l.map .int))
      | .nx => ∃ l : List Int, Vl.sh .none = .ow (.list (l.map .int))
      | _ => False := fun s hs => wp_mseq (wp_mono (l3_wp _ c x f _ ⟨l, s, k, n4, rfl, hl, hs⟩) fun fl e ⟨e1, l2, s2, k2, g1, g2, g3, g4⟩ => by
    subst e1 g2
    refine wp_eq (a := Fl.rt (.ow (.list (l2.reverse.map .int)))) (en1 := [.sh (.list (ns.map .int)), .ow (.list (l2.map .int)), c, x, f, k2, .sh (.int s2)]) ?_ ⟨_, rfl⟩
    simp [ZD.run, mret, mretN, shV, vand, vor, vnot, fz, op1, op2, op2c, opv2, nm, nv, cst, odD, bnd, ZD.ret, ZD.fail, out, look, tst, mnot, mand, mor, mif, mifS, mseq, mnx, macons, manil, mtup, mlst, asgN, masg, slOf, asgT, tgtup, tgcons, tgnil, tgN, Vl.d, stepC, ZD.wp, wipeable, wipeE, restE, isPlain, mtrue, List.replicate, List.set, oTest, isiInt, isiBool, isiStr, isiTup, isiList, oLe, oLt, oGe, oGt, oOrd, oLen, oIx, gotD, oRevL])
  cases ns with
  | nil =>
    refine wp_mseq (wp_eq (a := Fl.nx) (en1 := [.sh (.list (([] : List Int).map .int)), .ow (.list (l.map .int)), c, x, f, k, .sh (.int 1)]) (by simp [ZD.run, mret, mretN, shV, vand, vor, vnot, fz, op1, op2, op2c, opv2, nm, nv, cst, odD, bnd, ZD.ret, ZD.fail, out, look, tst, mnot, mand, mor, mif, mifS, mseq, mnx, macons, manil, mtup, mlst, asgN, masg, slOf, asgT, tgtup, tgcons, tgnil, tgN, Vl.d, stepC, ZD.wp, wipeable, wipeE, restE, isPlain, mtrue, List.replicate, List.set, oTest, isiInt, isiBool, isiStr, isiTup, isiList, oLe, oLt, oGe, oGt, oOrd, oLen, oIx, gotD]) ?_)
    exact fin 1 (by decide)
  | cons z ns =>
    have lz : (1 + absI z).natAbs.log2 < 99999000 := Nat.lt_of_le_of_lt (log_one (hb z List.mem_cons_self)) (by decide)
    have ix : L2.atI ((z :: ns).map PyData.int) 0 = some (.int z) := by simp [L2.atI, L2.ixN]
    have hne : (z :: ns).map PyData.int ≠ [] := by simp
    generalize (z :: ns).map PyData.int = L at ix hne fin
    have gt : 0 < L.length := List.length_pos_iff.mpr hne
    refine wp_mseq (wp_eq (a := Fl.nx) (en1 := [.sh (.list L), .ow (.list (l.map .int)), c, x, f, k, .sh (.int (1 + absI z))]) ?_ ?_)
    · simp [ZD.run, mret, mretN, shV, vand, vor, vnot, fz, op1, op2, op2c, opv2, nm, nv, cst, odD, bnd, ZD.ret, ZD.fail, out, look, tst, mnot, mand, mor, mif, mifS, mseq, mnx, macons, manil, mtup, mlst, asgN, masg, slOf, asgT, tgtup, tgcons, tgnil, tgN, Vl.d, stepC, ZD.wp, wipeable, wipeE, restE, isPlain, mtrue, List.replicate, List.set, oTest, isiInt, isiBool, isiStr, isiTup, isiList, oLe, oLt, oGe, oGt, oOrd, oLen, oIx, gotD, ix, gt, hne, oI1, add_ok]
    exact fin _ lz
theorem q__law_take : FnI VW DS 2 F__law_take A__law_take := fun d ds Qd hd ⟨b, hb, h0, hq⟩ => by
  subst hb
  obtain ⟨r, d', en, h1, h2, h3, h4⟩ := s_take hd b h0
  exact ⟨rfl, _, en, .int r, d', h1, .inl rfl, h4, hq r h2 h3⟩
theorem q__law_draws : FnW DS 1 F__law_draws A__law_draws := fun ds Qd ⟨d, hd, ⟨ns, hns, hl, hb⟩, hq⟩ => by
  subst hd hns
  obtain ⟨l, en, h⟩ := s_draws ns hl hb
  exact ⟨rfl, _, en, h, ⟨l, rfl⟩, hq⟩
/-- the end, by the functions of trees -/
theorem law_end {P : PyData → Dm PyData} {A : List PyData → Dm PyData} {F : Fn} (hq : FnD VW 1 F A) (hA : ∀ d, A [d] = P d) (hP : ∀ d, GoodScr d → P d (fun b => b = .bool true) fun _ => False) (ns : List Int) (h1 : ns.length ≤ 63) (h2 : ∀ z ∈ ns, Builtin.Int.intBits z ≤ 1048576) : ∃ en', F (scr ns) = .ok (.sh (.bool true)) en' := by
  obtain ⟨_, x, en, b, e1, e2, e3⟩ := hq [.list (ns.map .int)] _ (by rw [hA]; exact hP _ ⟨ns, rfl, h1, h2⟩)
  subst e3
  rcases e2 with rfl | ⟨⟨_, h⟩, _⟩
  · exact ⟨en, e1⟩
  · cases h
end Q43

namespace Q43
open PySem ZD ZP
/-! is_name -/
def P_is_name (value_1 : PyData) : PR PyData :=
 (vandP (o1 (PR.ok value_1) fun a => outS ((oTest isiStr) a)) (vandP (chainP oLe oLe (PR.ok (.int 1)) (o1 (PR.ok value_1) fun a => outS (oLen a)) (PR.ok (.int 16))) (mallP ((PR.ok value_1).bind seqF) (fun x_2 => (st1 (chainP oLe oLe (PR.ok (.str "a")) (PR.ok x_2) (PR.ok (.str "z"))))))))
def A_is_name : List PyData → PR PyData
  | [value_1] => P_is_name value_1
  | _ => PR.bad
theorem q_is_name : FnD VW 1 F_is_name (fun ds => PQ (A_is_name ds)) := fnD_of (n := 2) (m := m_is_name) (fun ds Qd h => (match ds, h with | [_], _ => rfl | [], h => h.elim | _ :: _ :: _, h => h.elim)) fun ds hl => match ds, hl with | [value_1], _ => (show RS [(.shd value_1), .pl] m_is_name (PQ (P_is_name value_1)) (PF VW) from
 (RS_ret0 (L := ([] : List Nat)) (J_weak (J_shV (J_vandP (J_fz (fun _ _ => vs_vw) (J_op1P ov_s (JO_shd (i := 0) rfl))) (J_vandP (J_fz (fun _ _ => vs_vw) (J_op2cP (L2 := ([] : List Nat)) (L3 := ([] : List Nat)) (JO_d J_cst) (JO_d (J_fz (fun _ _ => vs_vw) (J_op1P ov_s (JO_shd (i := 0) rfl)))) (JO_d J_cst) (fun _ h => nomatch h) (fun _ h => nomatch h) (fun _ h => nomatch h) (fun _ h => nomatch h))) (J_allP (vs := [1]) (J_seqP (J_shd (i := 0) rfl)) rfl (fun x_2 => J_stepN (i := 1) rfl (by decide) (J2_tail1P rfl rfl (by decide) (J_fz (fun _ _ => vs_vw) (J_op2cP (L2 := ([] : List Nat)) (L3 := ([] : List Nat)) (JO_d J_cst) (JO_shd (i := 1) rfl) (JO_d J_cst) (fun _ h => nomatch h) (fun _ h => nomatch h) (fun _ h => nomatch h) (fun _ h => nomatch h))))))))) fun _ _ => vs_vw) (fun r x en hv he => pf_rt r x en hv he)))
/-! is_digit -/
def P_is_digit (value_1 : PyData) : PR PyData :=
 (vandP (o1 (PR.ok value_1) fun a => outS ((oTest isiInt) a)) (vandP (vnotP (o1 (PR.ok value_1) fun a => outS ((oTest isiBool) a))) (chainP oLe oLe (PR.ok (.int 0)) (PR.ok value_1) (PR.ok (.int 9)))))
def A_is_digit : List PyData → PR PyData
  | [value_1] => P_is_digit value_1
  | _ => PR.bad
theorem q_is_digit : FnD VW 1 F_is_digit (fun ds => PQ (A_is_digit ds)) := fnD_of (n := 1) (m := m_is_digit) (fun ds Qd h => (match ds, h with | [_], _ => rfl | [], h => h.elim | _ :: _ :: _, h => h.elim)) fun ds hl => match ds, hl with | [value_1], _ => (show RS [(.shd value_1)] m_is_digit (PQ (P_is_digit value_1)) (PF VW) from
 (RS_ret0 (L := ([] : List Nat)) (J_weak (J_shV (J_vandP (J_fz (fun _ _ => vs_vw) (J_op1P ov_s (JO_shd (i := 0) rfl))) (J_vandP (J_vnotP (J_fz (fun _ _ => vs_vw) (J_op1P ov_s (JO_shd (i := 0) rfl)))) (J_fz (fun _ _ => vs_vw) (J_op2cP (L2 := ([] : List Nat)) (L3 := ([] : List Nat)) (JO_d J_cst) (JO_shd (i := 0) rfl) (JO_d J_cst) (fun _ h => nomatch h) (fun _ h => nomatch h) (fun _ h => nomatch h) (fun _ h => nomatch h)))))) fun _ _ => vs_vw) (fun r x en hv he => pf_rt r x en hv he)))
/-! is_command -/
def P_is_command (value_1 : PyData) : PR PyData :=
 (ifP (orP (notP (tstP (o1 (PR.ok value_1) fun a => outS ((oTest isiTup) a)))) (orP (tstP (o2 (o1 (PR.ok value_1) fun a => outS (oLen a)) (PR.ok (.int 0)) fun a b => outS (oEq a b))) (notP (tstP (o1 (o2 (PR.ok value_1) (PR.ok (.int 0)) fun a b => outS (oIx a b)) fun a => outS ((oTest isiStr) a))))))  (PR.ok (.bool false))  (ifP (tstP (o2 (o2 (PR.ok value_1) (PR.ok (.int 0)) fun a b => outS (oIx a b)) (PR.ok (.str "put")) fun a b => outS (oEq a b)))  (vandP (o2 (o1 (PR.ok value_1) fun a => outS (oLen a)) (PR.ok (.int 3)) fun a b => outS (oEq a b)) (vandP ((aconsP (o2 (PR.ok value_1) (PR.ok (.int 1)) fun a b => outS (oIx a b)) (PR.ok [])).bind fun ds => (A_is_name ds).noe) ((aconsP (o2 (PR.ok value_1) (PR.ok (.int 2)) fun a b => outS (oIx a b)) (PR.ok [])).bind fun ds => (A_is_digit ds).noe)))  (ifP (tstP (o2 (o2 (PR.ok value_1) (PR.ok (.int 0)) fun a b => outS (oIx a b)) (PR.ok (.str "get")) fun a b => outS (oEq a b)))  (vandP (o2 (o1 (PR.ok value_1) fun a => outS (oLen a)) (PR.ok (.int 3)) fun a b => outS (oEq a b)) (vandP ((aconsP (o2 (PR.ok value_1) (PR.ok (.int 1)) fun a b => outS (oIx a b)) (PR.ok [])).bind fun ds => (A_is_name ds).noe) ((aconsP (o2 (PR.ok value_1) (PR.ok (.int 2)) fun a b => outS (oIx a b)) (PR.ok [])).bind fun ds => (A_is_name ds).noe)))  (ifP (tstP (o2 (o2 (PR.ok value_1) (PR.ok (.int 0)) fun a b => outS (oIx a b)) (PR.ok (.str "swap")) fun a b => outS (oEq a b)))  (vandP (o2 (o1 (PR.ok value_1) fun a => outS (oLen a)) (PR.ok (.int 4)) fun a b => outS (oEq a b)) (vandP ((aconsP (o2 (PR.ok value_1) (PR.ok (.int 1)) fun a b => outS (oIx a b)) (PR.ok [])).bind fun ds => (A_is_name ds).noe) (vandP ((aconsP (o2 (PR.ok value_1) (PR.ok (.int 2)) fun a b => outS (oIx a b)) (PR.ok [])).bind fun ds => (A_is_digit ds).noe) ((aconsP (o2 (PR.ok value_1) (PR.ok (.int 3)) fun a b => outS (oIx a b)) (PR.ok [])).bind fun ds => (A_is_name ds).noe))))  (o2 (PR.ok value_1) ((aconsP (PR.ok (.str "fence")) (PR.ok [])).bind tupF) fun a b => outS (oEq a b))))))
def A_is_command : List PyData → PR PyData
  | [value_1] => P_is_command value_1
  | _ => PR.bad
theorem q_is_command : FnD VW 1 F_is_command (fun ds => PQ (A_is_command ds)) := fnD_of (n := 1) (m := m_is_command) (fun ds Qd h => (match ds, h with | [_], _ => rfl | [], h => h.elim | _ :: _ :: _, h => h.elim)) fun ds hl => match ds, hl with | [value_1], _ => (show RS [(.shd value_1)] m_is_command (PQ (P_is_command value_1)) (PF VW) from
 (RS_ifP (L := ([] : List Nat)) (J_orP (J_notP (J_tstP (J_fz (fun _ _ => vs_vw) (J_op1P ov_s (JO_shd (i := 0) rfl))))) (J_orP (J_tstP (J_fz (fun _ _ => vs_vw) (J_op2P (L2 := ([] : List Nat)) ov_s (JO_d (J_fz (fun _ _ => vs_vw) (J_op1P ov_s (JO_shd (i := 0) rfl)))) (JO_d J_cst) (fun _ h => nomatch h) (fun _ h => nomatch h)))) (J_notP (J_tstP (J_fz (fun _ _ => vs_vw) (J_op1P ov_s (JO_d (J_fz (fun _ _ => vs_vw) (J_op2P (L2 := ([] : List Nat)) ov_s (JO_shd (i := 0) rfl) (JO_d J_cst) (fun _ h => nomatch h) (fun _ h => nomatch h))))))))))  (RS_eq (mseq_mret _ _) (RS_ret0 (L := ([] : List Nat)) (J_weak (J_shV J_cst) fun _ _ => vs_vw) (fun r x en hv he => pf_rt r x en hv he)))  (RS_eq (mseq_nx _) (RS_ifP (L := ([] : List Nat)) (J_tstP (J_fz (fun _ _ => vs_vw) (J_op2P (L2 := ([] : List Nat)) ov_s (JO_d (J_fz (fun _ _ => vs_vw) (J_op2P (L2 := ([] : List Nat)) ov_s (JO_shd (i := 0) rfl) (JO_d J_cst) (fun _ h => nomatch h) (fun _ h => nomatch h)))) (JO_d J_cst) (fun _ h => nomatch h) (fun _ h => nomatch h))))  (RS_eq (mseq_mret _ _) (RS_ret0 (L := ([] : List Nat)) (J_weak (J_shV (J_vandP (J_fz (fun _ _ => vs_vw) (J_op2P (L2 := ([] : List Nat)) ov_s (JO_d (J_fz (fun _ _ => vs_vw) (J_op1P ov_s (JO_shd (i := 0) rfl)))) (JO_d J_cst) (fun _ h => nomatch h) (fun _ h => nomatch h))) (J_vandP (J_fz (fun _ _ h => h) (J_callP q_is_name (J_consP (J_fz (fun _ _ => vs_vw) (J_op2P (L2 := ([] : List Nat)) ov_s (JO_shd (i := 0) rfl) (JO_d J_cst) (fun _ h => nomatch h) (fun _ h => nomatch h))) J_nil))) (J_fz (fun _ _ h => h) (J_callP q_is_digit (J_consP (J_fz (fun _ _ => vs_vw) (J_op2P (L2 := ([] : List Nat)) ov_s (JO_shd (i := 0) rfl) (JO_d J_cst) (fun _ h => nomatch h) (fun _ h => nomatch h))) J_nil)))))) fun _ _ => vs_vw) (fun r x en hv he => pf_rt r x en hv he)))  (RS_eq (mseq_nx _) (RS_ifP (L := ([] : List Nat)) (J_tstP (J_fz (fun _ _ => vs_vw) (J_op2P (L2 := ([] : List Nat)) ov_s (JO_d (J_fz (fun _ _ => vs_vw) (J_op2P (L2 := ([] : List Nat)) ov_s (JO_shd (i := 0) rfl) (JO_d J_cst) (fun _ h => nomatch h) (fun _ h => nomatch h)))) (JO_d J_cst) (fun _ h => nomatch h) (fun _ h => nomatch h))))  (RS_eq (mseq_mret _ _) (RS_ret0 (L := ([] : List Nat)) (J_weak (J_shV (J_vandP (J_fz (fun _ _ => vs_vw) (J_op2P (L2 := ([] : List Nat)) ov_s (JO_d (J_fz (fun _ _ => vs_vw) (J_op1P ov_s (JO_shd (i := 0) rfl)))) (JO_d J_cst) (fun _ h => nomatch h) (fun _ h => nomatch h))) (J_vandP (J_fz (fun _ _ h => h) (J_callP q_is_name (J_consP (J_fz (fun _ _ => vs_vw) (J_op2P (L2 := ([] : List Nat)) ov_s (JO_shd (i := 0) rfl) (JO_d J_cst) (fun _ h => nomatch h) (fun _ h => nomatch h))) J_nil))) (J_fz (fun _ _ h => h) (J_callP q_is_name (J_consP (J_fz (fun _ _ => vs_vw) (J_op2P (L2 := ([] : List Nat)) ov_s (JO_shd (i := 0) rfl) (JO_d J_cst) (fun _ h => nomatch h) (fun _ h => nomatch h))) J_nil)))))) fun _ _ => vs_vw) (fun r x en hv he => pf_rt r x en hv he)))  (RS_eq (mseq_nx _) (RS_ifP (L := ([] : List Nat)) (J_tstP (J_fz (fun _ _ => vs_vw) (J_op2P (L2 := ([] : List Nat)) ov_s (JO_d (J_fz (fun _ _ => vs_vw) (J_op2P (L2 := ([] : List Nat)) ov_s (JO_shd (i := 0) rfl) (JO_d J_cst) (fun _ h => nomatch h) (fun _ h => nomatch h)))) (JO_d J_cst) (fun _ h => nomatch h) (fun _ h => nomatch h))))  (RS_eq (mseq_mret _ _) (RS_ret0 (L := ([] : List Nat)) (J_weak (J_shV (J_vandP (J_fz (fun _ _ => vs_vw) (J_op2P (L2 := ([] : List Nat)) ov_s (JO_d (J_fz (fun _ _ => vs_vw) (J_op1P ov_s (JO_shd (i := 0) rfl)))) (JO_d J_cst) (fun _ h => nomatch h) (fun _ h => nomatch h))) (J_vandP (J_fz (fun _ _ h => h) (J_callP q_is_name (J_consP (J_fz (fun _ _ => vs_vw) (J_op2P (L2 := ([] : List Nat)) ov_s (JO_shd (i := 0) rfl) (JO_d J_cst) (fun _ h => nomatch h) (fun _ h => nomatch h))) J_nil))) (J_vandP (J_fz (fun _ _ h => h) (J_callP q_is_digit (J_consP (J_fz (fun _ _ => vs_vw) (J_op2P (L2 := ([] : List Nat)) ov_s (JO_shd (i := 0) rfl) (JO_d J_cst) (fun _ h => nomatch h) (fun _ h => nomatch h))) J_nil))) (J_fz (fun _ _ h => h) (J_callP q_is_name (J_consP (J_fz (fun _ _ => vs_vw) (J_op2P (L2 := ([] : List Nat)) ov_s (JO_shd (i := 0) rfl) (JO_d J_cst) (fun _ h => nomatch h) (fun _ h => nomatch h))) J_nil))))))) fun _ _ => vs_vw) (fun r x en hv he => pf_rt r x en hv he)))  (RS_eq (mseq_nx _) (RS_ret0 (L := ([] : List Nat)) (J_weak (J_op2P (L2 := ([] : List Nat)) ov_s (JO_shd (i := 0) rfl) (JO_d (J_tupP (J_consP J_cst J_nil))) (fun _ h => nomatch h) (fun _ h => nomatch h)) fun _ _ => vs_vw) (fun r x en hv he => pf_rt r x en hv he)))))))))))
/-! is_thread -/
def P_is_thread (value_1 : PyData) : PR PyData :=
 (ifP (orP (notP (tstP (o1 (PR.ok value_1) fun a => outS ((oTest isiTup) a)))) (orP (tstP (o2 (o1 (PR.ok value_1) fun a => outS (oLen a)) (PR.ok (.int 4)) fun a b => outS (oGt a b))) (notP (tstP (mallP ((PR.ok value_1).bind seqF) (fun x_2 => (st1 ((aconsP (PR.ok x_2) (PR.ok [])).bind fun ds => (A_is_command ds).noe))))))))  (PR.ok (.bool false))  ((mcompP ((PR.ok value_1).bind seqF) (fun x_3 => (stP (tstP (o2 (o2 (PR.ok x_3) (PR.ok (.int 0)) fun a b => outS (oIx a b)) ((aconsP (PR.ok (.str "get")) (aconsP (PR.ok (.str "swap")) (PR.ok []))).bind tupF) fun a b => outS ((oIn false) a b))) (o2 (PR.ok x_3) (o1 (PR.ok (.int 1)) fun a => outS ((oI1 fun i => -i) a)) fun a b => outS (oIx a b))))).bind fun names_4 =>  (o2 (mlsetP ((PR.ok names_4).bind seqF) (fun x_5 => (st1 (PR.ok x_5)))) (o1 (PR.ok names_4) fun a => outS (oLen a)) fun a b => outS (oEq a b))))
def A_is_thread : List PyData → PR PyData
  | [value_1] => P_is_thread value_1
  | _ => PR.bad
theorem q_is_thread : FnD VW 1 F_is_thread (fun ds => PQ (A_is_thread ds)) := fnD_of (n := 5) (m := m_is_thread) (fun ds Qd h => (match ds, h with | [_], _ => rfl | [], h => h.elim | _ :: _ :: _, h => h.elim)) fun ds hl => match ds, hl with | [value_1], _ => (show RS [(.shd value_1), .pl, .pl, .pl, .pl] m_is_thread (PQ (P_is_thread value_1)) (PF VW) from
 (RS_ifP (L := ([] : List Nat)) (J_orP (J_notP (J_tstP (J_fz (fun _ _ => vs_vw) (J_op1P ov_s (JO_shd (i := 0) rfl))))) (J_orP (J_tstP (J_fz (fun _ _ => vs_vw) (J_op2P (L2 := ([] : List Nat)) ov_s (JO_d (J_fz (fun _ _ => vs_vw) (J_op1P ov_s (JO_shd (i := 0) rfl)))) (JO_d J_cst) (fun _ h => nomatch h) (fun _ h => nomatch h)))) (J_notP (J_tstP (J_allP (vs := [1]) (J_seqP (J_shd (i := 0) rfl)) rfl (fun x_2 => J_stepN (i := 1) rfl (by decide) (J2_tail1P rfl rfl (by decide) (J_fz (fun _ _ h => h) (J_callP q_is_command (J_consP (J_shd (i := 1) rfl) J_nil))))))))))  (RS_eq (mseq_mret _ _) (RS_ret0 (L := ([] : List Nat)) (J_weak (J_shV J_cst) fun _ _ => vs_vw) (fun r x en hv he => pf_rt r x en hv he)))  (RS_eq (mseq_nx _) (RS_asgP (i := 2) (L := ([] : List Nat)) (J_compP (vs := [3]) (J_seqP (J_shd (i := 0) rfl)) rfl (fun x_3 => J_stepN (i := 3) rfl (by decide) (J2_tailP rfl rfl (by decide) (J_tstP (J_fz (fun _ _ => vs_vw) (J_op2P (L2 := ([] : List Nat)) ov_s (JO_d (J_fz (fun _ _ => vs_vw) (J_op2P (L2 := ([] : List Nat)) ov_s (JO_shd (i := 3) rfl) (JO_d J_cst) (fun _ h => nomatch h) (fun _ h => nomatch h)))) (JO_d (J_tupP (J_consP J_cst (J_consP J_cst J_nil)))) (fun _ h => nomatch h) (fun _ h => nomatch h)))) (J_fz (fun _ _ => vs_vw) (J_op2P (L2 := ([] : List Nat)) ov_s (JO_shd (i := 3) rfl) (JO_d (J_fz (fun _ _ => vs_vw) (J_op1P ov_s (JO_d J_cst)))) (fun _ h => nomatch h) (fun _ h => nomatch h)))))) v_ownl rfl fun names_4 => (RS_sub (.cons s_rf (.cons s_rf (.cons s_lv (.cons s_rf (.cons s_rf .nil))))) (RS_ret0 (L := ([] : List Nat)) (J_weak (J_op2P (L2 := ([] : List Nat)) ov_s (JO_d (J_lsetP (vs := [4]) (J_seqP (J_val (i := 2) rfl)) rfl (fun x_5 => J_stepN (i := 4) rfl (by decide) (J2_tail1P rfl rfl (by decide) (J_shd (i := 4) rfl))))) (JO_d (J_fz (fun _ _ => vs_vw) (J_op1P ov_s (JO_val (i := 2) rfl)))) (fun _ h => nomatch h) (fun _ h => nomatch h)) fun _ _ => vs_vw) (fun r x en hv he => pf_rt r x en hv he)))))))
/-! is_program -/
def P_is_program (value_1 : PyData) : PR PyData :=
 (ifP (orP (notP (tstP (o1 (PR.ok value_1) fun a => outS ((oTest isiTup) a)))) (orP (notP (tstP (chainP oLe oLe (PR.ok (.int 1)) (o1 (PR.ok value_1) fun a => outS (oLen a)) (PR.ok (.int 3))))) (notP (tstP (mallP ((PR.ok value_1).bind seqF) (fun x_2 => (st1 ((aconsP (PR.ok x_2) (PR.ok [])).bind fun ds => (A_is_thread ds).noe))))))))  (PR.ok (.bool false))  (o2 (o1 (mcompP ((PR.ok value_1).bind seqF) (fun x_3 => (st1 (o1 (PR.ok x_3) fun a => outS (oLen a))))) fun a => outS (oSum a)) (PR.ok (.int 8)) fun a b => outS (oLe a b)))
def A_is_program : List PyData → PR PyData
  | [value_1] => P_is_program value_1
  | _ => PR.bad
theorem q_is_program : FnD VW 1 F_is_program (fun ds => PQ (A_is_program ds)) := fnD_of (n := 3) (m := m_is_program) (fun ds Qd h => (match ds, h with | [_], _ => rfl | [], h => h.elim | _ :: _ :: _, h => h.elim)) fun ds hl => match ds, hl with | [value_1], _ => (show RS [(.shd value_1), .pl, .pl] m_is_program (PQ (P_is_program value_1)) (PF VW) from
 (RS_ifP (L := ([] : List Nat)) (J_orP (J_notP (J_tstP (J_fz (fun _ _ => vs_vw) (J_op1P ov_s (JO_shd (i := 0) rfl))))) (J_orP (J_notP (J_tstP (J_fz (fun _ _ => vs_vw) (J_op2cP (L2 := ([] : List Nat)) (L3 := ([] : List Nat)) (JO_d J_cst) (JO_d (J_fz (fun _ _ => vs_vw) (J_op1P ov_s (JO_shd (i := 0) rfl)))) (JO_d J_cst) (fun _ h => nomatch h) (fun _ h => nomatch h) (fun _ h => nomatch h) (fun _ h => nomatch h))))) (J_notP (J_tstP (J_allP (vs := [1]) (J_seqP (J_shd (i := 0) rfl)) rfl (fun x_2 => J_stepN (i := 1) rfl (by decide) (J2_tail1P rfl rfl (by decide) (J_fz (fun _ _ h => h) (J_callP q_is_thread (J_consP (J_shd (i := 1) rfl) J_nil))))))))))  (RS_eq (mseq_mret _ _) (RS_ret0 (L := ([] : List Nat)) (J_weak (J_shV J_cst) fun _ _ => vs_vw) (fun r x en hv he => pf_rt r x en hv he)))  (RS_eq (mseq_nx _) (RS_ret0 (L := ([] : List Nat)) (J_weak (J_op2P (L2 := ([] : List Nat)) ov_s (JO_d (J_fz (fun _ _ => vs_vw) (J_op1P ov_s (JO_d (J_fz (fun _ _ => vl_vw) (J_compP (vs := [2]) (J_seqP (J_shd (i := 0) rfl)) rfl (fun x_3 => J_stepN (i := 2) rfl (by decide) (J2_tail1P rfl rfl (by decide) (J_fz (fun _ _ => vs_vw) (J_op1P ov_s (JO_shd (i := 2) rfl))))))))))) (JO_d J_cst) (fun _ h => nomatch h) (fun _ h => nomatch h)) fun _ _ => vs_vw) (fun r x en hv he => pf_rt r x en hv he)))))
/-! registers -/
def P_registers (program_1 : PyData) : PR PyData :=
 (((PR.ok []).bind lstF).bind fun found_2 =>  (PR.bind ((PR.ok program_1).bind enumF) fun l_11 => (PR.bind (foldP (fun d_4 (s_3 : PyData) => (PR.bind (unF 2 d_4) fun q_12 => match q_12 with | [number_5, thread_6] => ((mcompP ((PR.ok thread_6).bind seqF) (fun x_7 => (stP (tstP (o2 (o2 (PR.ok x_7) (PR.ok (.int 0)) fun a b => outS (oIx a b)) ((aconsP (PR.ok (.str "get")) (aconsP (PR.ok (.str "swap")) (PR.ok []))).bind tupF) fun a b => outS ((oIn false) a b))) ((aconsP (PR.ok number_5) (aconsP (o2 (PR.ok x_7) (o1 (PR.ok (.int 1)) fun a => outS ((oI1 fun i => -i) a)) fun a b => outS (oIx a b)) (PR.ok []))).bind tupF)))).bind fun y_9 => (extF s_3 y_9).bind fun found_8 =>  (PR.ok found_8)) | _ => PR.bad)) l_11 found_2) fun (s_10 : PyData) => (o1 (PR.ok s_10) fun a => outL (oSorted a)))))
def A_registers : List PyData → PR PyData
  | [program_1] => P_registers program_1
  | _ => PR.bad
theorem q_registers : FnD VL 1 F_registers (fun ds => PQ (A_registers ds)) := fnD_of (n := 5) (m := m_registers) (fun ds Qd h => (match ds, h with | [_], _ => rfl | [], h => h.elim | _ :: _ :: _, h => h.elim)) fun ds hl => match ds, hl with | [program_1], _ => (show RS [(.shd program_1), .pl, .pl, .pl, .pl] m_registers (PQ (P_registers program_1)) (PF VL) from
 (RS_asgP (i := 1) (L := ([] : List Nat)) (J_lstP J_nil) v_ownl rfl fun found_2 => (RS_forTP (is := [2, 3]) (L := ([] : List Nat)) (Gs := (fun (s_3 : PyData) => [(.shd program_1), (.ownl s_3), .pl, .pl, .pl])) found_2 (J_enumP (J_shd (i := 0) rfl)) (.cons s_rf (.cons s_rf (.cons s_rf (.cons s_rf (.cons s_rf .nil))))) (fun _ => rfl) rfl (fun d_4 s_3 ds hl => match ds, hl with | [number_5, thread_6], _ => (RS_end (RS_extP (i := 1) (L := ([] : List Nat)) rfl (J_fz (fun _ _ => vl_vw) (J_compP (vs := [4]) (J_seqP (J_shd (i := 3) rfl)) rfl (fun x_7 => J_stepN (i := 4) rfl (by decide) (J2_tailP rfl rfl (by decide) (J_tstP (J_fz (fun _ _ => vs_vw) (J_op2P (L2 := ([] : List Nat)) ov_s (JO_d (J_fz (fun _ _ => vs_vw) (J_op2P (L2 := ([] : List Nat)) ov_s (JO_shd (i := 4) rfl) (JO_d J_cst) (fun _ h => nomatch h) (fun _ h => nomatch h)))) (JO_d (J_tupP (J_consP J_cst (J_consP J_cst J_nil)))) (fun _ h => nomatch h) (fun _ h => nomatch h)))) (J_tupP (J_consP (J_shd (i := 2) rfl) (J_consP (J_fz (fun _ _ => vs_vw) (J_op2P (L2 := ([] : List Nat)) ov_s (JO_shd (i := 4) rfl) (JO_d (J_fz (fun _ _ => vs_vw) (J_op1P ov_s (JO_d J_cst)))) (fun _ h => nomatch h) (fun _ h => nomatch h))) J_nil))))))) fun found_8 => (RS_nx fun en he => ⟨.inl rfl, er_sub (.cons s_rf (.cons s_rf (.cons s_hp (.cons s_hp (.cons s_rf .nil))))) he⟩)))) (fun s_10 => (RS_ret0 (L := ([] : List Nat)) (J_op1P ov_l (JO_ownl (i := 1) rfl)) (fun r x en hv he => pf_rt r x en hv he))))))
/-! gaps -/
def P_gaps (program_1 : PyData) : PR PyData :=
 (((PR.ok []).bind lstF).bind fun found_2 =>  (PR.bind ((PR.ok program_1).bind enumF) fun l_11 => (PR.bind (foldP (fun d_4 (s_3 : PyData) => (PR.bind (unF 2 d_4) fun q_12 => match q_12 with | [number_5, thread_6] => ((mcompP ((PR.ok (.int 1)).bind fun a => (o1 (PR.ok thread_6) fun a => outS (oLen a)).bind fun b => rng2F a b) (fun x_7 => (st1 ((aconsP (PR.ok number_5) (aconsP (PR.ok x_7) (PR.ok []))).bind tupF)))).bind fun y_9 => (extF s_3 y_9).bind fun found_8 =>  (PR.ok found_8)) | _ => PR.bad)) l_11 found_2) fun (s_10 : PyData) => (PR.ok s_10))))
def A_gaps : List PyData → PR PyData
  | [program_1] => P_gaps program_1
  | _ => PR.bad
theorem q_gaps : FnD VW 1 F_gaps (fun ds => PQ (A_gaps ds)) := fnD_of (n := 5) (m := m_gaps) (fun ds Qd h => (match ds, h with | [_], _ => rfl | [], h => h.elim | _ :: _ :: _, h => h.elim)) fun ds hl => match ds, hl with | [program_1], _ => (show RS [(.shd program_1), .pl, .pl, .pl, .pl] m_gaps (PQ (P_gaps program_1)) (PF VW) from
 (RS_asgP (i := 1) (L := ([] : List Nat)) (J_lstP J_nil) v_ownl rfl fun found_2 => (RS_forTP (is := [2, 3]) (L := ([] : List Nat)) (Gs := (fun (s_3 : PyData) => [(.shd program_1), (.ownl s_3), .pl, .pl, .pl])) found_2 (J_enumP (J_shd (i := 0) rfl)) (.cons s_rf (.cons s_rf (.cons s_rf (.cons s_rf (.cons s_rf .nil))))) (fun _ => rfl) rfl (fun d_4 s_3 ds hl => match ds, hl with | [number_5, thread_6], _ => (RS_end (RS_extP (i := 1) (L := ([] : List Nat)) rfl (J_fz (fun _ _ => vl_vw) (J_compP (vs := [4]) (J_rng2P J_cst (J_fz (fun _ _ => vs_vw) (J_op1P ov_s (JO_shd (i := 3) rfl)))) rfl (fun x_7 => J_stepN (i := 4) rfl (by decide) (J2_tail1P rfl rfl (by decide) (J_tupP (J_consP (J_shd (i := 2) rfl) (J_consP (J_shd (i := 4) rfl) J_nil))))))) fun found_8 => (RS_nx fun en he => ⟨.inl rfl, er_sub (.cons s_rf (.cons s_rf (.cons s_hp (.cons s_hp (.cons s_rf .nil))))) he⟩)))) (fun s_10 => (RS_retN (i := 1) rfl (.inr (.inr (.inr (.inr (.inl ⟨rfl, rfl⟩))))) (fun x en hv he => pf_rt _ _ _ hv he))))))
/-! fenced -/
def P_fenced (program_1 : PyData) (some_2 : PyData) : PR PyData :=
 (((PR.ok []).bind lstF).bind fun found_3 =>  (PR.bind ((PR.ok program_1).bind enumF) fun l_45 => (PR.bind (foldP (fun d_24 (s_23 : PyData) => (PR.bind (unF 2 d_24) fun q_46 => match q_46 with | [number_25, thread_26] => (((PR.ok []).bind lstF).bind fun row_27 =>  (PR.bind ((PR.ok thread_26).bind enumF) fun l_42 => (PR.bind (foldP (fun d_29 (s_28 : PyData) => (PR.bind (unF 2 d_29) fun q_43 => match q_43 with | [place_30, command_31] => (PR.bind (ifP (tstP (o2 ((aconsP (PR.ok number_25) (aconsP (PR.ok place_30) (PR.ok []))).bind tupF) (PR.ok some_2) fun a b => outS ((oInS false) a b)))  (((aconsP (PR.ok (.str "fence")) (PR.ok [])).bind tupF).bind fun y_35 => (appF s_28 y_35).bind fun row_34 =>  (PR.ok row_34))  (PR.ok s_28)) fun (j_36 : PyData) =>  ((PR.ok command_31).bind fun y_38 => (appF j_36 y_38).bind fun row_37 =>  (PR.ok row_37))) | _ => PR.bad)) l_42 row_27) fun (s_39 : PyData) => ((o1 (PR.ok s_39) fun a => outS (oTuple a)).bind fun y_41 => (appF s_23 y_41).bind fun found_40 =>  (PR.ok found_40))))) | _ => PR.bad)) l_45 found_3) fun (s_44 : PyData) => (o1 (PR.ok s_44) fun a => outS (oTuple a)))))
def A_fenced : List PyData → PR PyData
  | [program_1, some_2] => P_fenced program_1 some_2
  | _ => PR.bad
theorem q_fenced : FnD VW 2 F_fenced (fun ds => PQ (A_fenced ds)) := fnD_of (n := 8) (m := m_fenced) (fun ds Qd h => (match ds, h with | [_, _], _ => rfl | [], h => h.elim | [_], h => h.elim | _ :: _ :: _ :: _, h => h.elim)) fun ds hl => match ds, hl with | [program_1, some_2], _ => (show RS [(.shd program_1), (.shd some_2), .pl, .pl, .pl, .pl, .pl, .pl] m_fenced (PQ (P_fenced program_1 some_2)) (PF VW) from
 (RS_asgP (i := 2) (L := ([] : List Nat)) (J_lstP J_nil) v_ownl rfl fun found_3 => (RS_forTP (is := [3, 4]) (L := ([] : List Nat)) (Gs := (fun (s_23 : PyData) => [(.shd program_1), (.shd some_2), (.ownl s_23), .pl, .pl, .any, .pl, .pl])) found_3 (J_enumP (J_shd (i := 0) rfl)) (.cons s_rf (.cons s_rf (.cons s_rf (.cons s_rf (.cons s_rf (.cons s_pa (.cons s_rf (.cons s_rf .nil)))))))) (fun _ => rfl) rfl (fun d_24 s_23 ds hl => match ds, hl with | [number_25, thread_26], _ => (RS_asgP (i := 5) (L := ([] : List Nat)) (J_lstP J_nil) v_ownl rfl fun row_27 => (RS_forTP (is := [6, 7]) (L := ([] : List Nat)) (Gs := (fun (s_28 : PyData) => [(.shd program_1), (.shd some_2), (.ownl s_23), (.shd number_25), (.shd thread_26), (.ownl s_28), .pl, .pl])) row_27 (J_enumP (J_shd (i := 4) rfl)) (.cons s_rf (.cons s_rf (.cons s_rf (.cons s_rf (.cons s_rf (.cons s_rf (.cons s_rf (.cons s_rf .nil)))))))) (fun _ => rfl) rfl (fun d_29 s_28 ds hl => match ds, hl with | [place_30, command_31], _ => (RS_bindP (Gs := (fun (j_36 : PyData) => [(.shd program_1), (.shd some_2), (.ownl s_23), (.shd number_25), (.shd thread_26), (.ownl j_36), (.shd place_30), (.shd command_31)])) (RS_end (RS_ifP (L := ([] : List Nat)) (J_tstP (J_fz (fun _ _ => vs_vw) (J_op2P (L2 := ([] : List Nat)) ov_s (JO_d (J_tupP (J_consP (J_shd (i := 3) rfl) (J_consP (J_shd (i := 6) rfl) J_nil)))) (JO_shd (i := 1) rfl) (fun _ h => nomatch h) (fun _ h => nomatch h))))  (RS_appP (i := 5) (L := ([] : List Nat)) rfl (J_tupP (J_consP J_cst J_nil)) fun row_34 => (RS_nx fun en he => ⟨rfl, er_sub (.cons s_rf (.cons s_rf (.cons s_rf (.cons s_rf (.cons s_rf (.cons s_rf (.cons s_rf (.cons s_rf .nil)))))))) he⟩))  (RS_eq (mseq_nx _) (RS_nx fun en he => ⟨rfl, er_sub (.cons s_rf (.cons s_rf (.cons s_rf (.cons s_rf (.cons s_rf (.cons s_rf (.cons s_rf (.cons s_rf .nil)))))))) he⟩)))) fun j_36 => (RS_end (RS_appP (i := 5) (L := ([] : List Nat)) rfl (J_shd (i := 7) rfl) fun row_37 => (RS_nx fun en he => ⟨.inl rfl, er_sub (.cons s_rf (.cons s_rf (.cons s_rf (.cons s_rf (.cons s_rf (.cons s_rf (.cons s_hp (.cons s_hp .nil)))))))) he⟩))))) (fun s_39 => (RS_end (RS_appP (i := 2) (L := ([] : List Nat)) rfl (J_fz (fun _ _ => vs_vw) (J_op1P ov_s (JO_ownl (i := 5) rfl))) fun found_40 => (RS_nx fun en he => ⟨.inl rfl, er_sub (.cons s_rf (.cons s_rf (.cons s_rf (.cons s_hp (.cons s_hp (.cons s_la (.cons s_rf (.cons s_rf .nil)))))))) he⟩))))))) (fun s_44 => (RS_ret0 (L := ([] : List Nat)) (J_weak (J_op1P ov_s (JO_ownl (i := 2) rfl)) fun _ _ => vs_vw) (fun r x en hv he => pf_rt r x en hv he))))))
/-! _law_says -/
def P__law_says (told_1 : PyData) (due_2 : PyData) : PR PyData :=
 (vandP (o1 (PR.ok told_1) fun a => outS ((oTest isiBool) a)) (o2 (PR.ok told_1) (PR.ok due_2) fun a b => outS (oEq a b)))
def A__law_says : List PyData → PR PyData
  | [told_1, due_2] => P__law_says told_1 due_2
  | _ => PR.bad
theorem q__law_says : FnD VW 2 F__law_says (fun ds => PQ (A__law_says ds)) := fnD_of (n := 2) (m := m__law_says) (fun ds Qd h => (match ds, h with | [_, _], _ => rfl | [], h => h.elim | [_], h => h.elim | _ :: _ :: _ :: _, h => h.elim)) fun ds hl => match ds, hl with | [told_1, due_2], _ => (show RS [(.shd told_1), (.shd due_2)] m__law_says (PQ (P__law_says told_1 due_2)) (PF VW) from
 (RS_ret0 (L := ([] : List Nat)) (J_weak (J_shV (J_vandP (J_fz (fun _ _ => vs_vw) (J_op1P ov_s (JO_shd (i := 0) rfl))) (J_fz (fun _ _ => vs_vw) (J_op2P (L2 := ([] : List Nat)) ov_s (JO_shd (i := 0) rfl) (JO_shd (i := 1) rfl) (fun _ h => nomatch h) (fun _ h => nomatch h))))) fun _ _ => vs_vw) (fun r x en hv he => pf_rt r x en hv he)))
/-! _law_alike -/
def B__law_alike (rA : List PyData → PR PyData) (found_1 : PyData) (due_2 : PyData) : PR PyData :=
 (ifP (orP (tstP (o1 (PR.ok due_2) fun a => outS ((oTest isiList) a))) (tstP (o1 (PR.ok due_2) fun a => outS ((oTest isiTup) a))))  (ifP (orP (tstP (o2 (o1 (PR.ok found_1) fun a => outS ((oTest isiList) a)) (o1 (PR.ok due_2) fun a => outS ((oTest isiList) a)) fun a b => outS (oNe a b))) (tstP (o2 (o1 (PR.ok found_1) fun a => outS ((oTest isiTup) a)) (o1 (PR.ok due_2) fun a => outS ((oTest isiTup) a)) fun a b => outS (oNe a b))))  (PR.ok (.bool false))  (vandP (o2 (o1 (PR.ok found_1) fun a => outS (oLen a)) (o1 (PR.ok due_2) fun a => outS (oLen a)) fun a b => outS (oEq a b)) (o2 (mcompP ((o1 (PR.ok due_2) fun a => outS (oLen a)).bind rng1F) (fun x_3 => (stP (notP (tstP ((aconsP (o2 (PR.ok found_1) (PR.ok x_3) fun a b => outS (oIx a b)) (aconsP (o2 (PR.ok due_2) (PR.ok x_3) fun a b => outS (oIx a b)) (PR.ok []))).bind fun ds => (rA ds).noe))) (PR.ok x_3)))) ((PR.ok []).bind lstF) fun a b => outS (oEq a b))))  (ifP (tstP (o2 (PR.ok due_2) (PR.ok .none) fun a b => outS ((oIs false) a b)))  (o2 (PR.ok found_1) (PR.ok .none) fun a b => outS ((oIs false) a b))  (ifP (orP (tstP (o1 (PR.ok due_2) fun a => outS ((oTest isiBool) a))) (tstP (o1 (PR.ok found_1) fun a => outS ((oTest isiBool) a))))  (vandP (o1 (PR.ok found_1) fun a => outS ((oTest isiBool) a)) (vandP (o1 (PR.ok due_2) fun a => outS ((oTest isiBool) a)) (o2 (PR.ok found_1) (PR.ok due_2) fun a b => outS (oEq a b))))  (ifP (tstP (o1 (PR.ok due_2) fun a => outS ((oTest isiInt) a)))  (vandP (o1 (PR.ok found_1) fun a => outS ((oTest isiInt) a)) (o2 (PR.ok found_1) (PR.ok due_2) fun a b => outS (oEq a b)))  (vandP (o1 (PR.ok found_1) fun a => outS ((oTest isiStr) a)) (o2 (PR.ok found_1) (PR.ok due_2) fun a b => outS (oEq a b)))))))
def C__law_alike (rA : List PyData → PR PyData) : List PyData → PR PyData
  | [found_1, due_2] => B__law_alike rA found_1 due_2
  | _ => PR.bad
def A__law_alike_n : Nat → List PyData → PR PyData
  | 0 => fun _ => PR.bad
  | n + 1 => C__law_alike (A__law_alike_n n)
def A__law_alike : List PyData → PR PyData := A__law_alike_n 12
theorem qr__law_alike : ∀ n, FnD VW 2 (R__law_alike n) (fun ds => PQ (A__law_alike_n n ds))
  | 0 => fnD_bad
  | n + 1 => fnD_of (n := 3) (m := m__law_alike (R__law_alike n)) (fun ds Qd h => (match ds, h with | [_, _], _ => rfl | [], h => h.elim | [_], h => h.elim | _ :: _ :: _ :: _, h => h.elim)) fun ds hl => match ds, hl with | [found_1, due_2], _ => have hrec : FnD VW 2 (R__law_alike n) (fun ds => PQ (A__law_alike_n n ds)) := qr__law_alike n; (show RS [(.shd found_1), (.shd due_2), .pl] (m__law_alike (R__law_alike n)) (PQ (B__law_alike (A__law_alike_n n) found_1 due_2)) (PF VW) from
 (RS_ifP (L := ([] : List Nat)) (J_orP (J_tstP (J_fz (fun _ _ => vs_vw) (J_op1P ov_s (JO_shd (i := 1) rfl)))) (J_tstP (J_fz (fun _ _ => vs_vw) (J_op1P ov_s (JO_shd (i := 1) rfl)))))  (RS_as (RS_ifP (L := ([] : List Nat)) (J_orP (J_tstP (J_fz (fun _ _ => vs_vw) (J_op2P (L2 := ([] : List Nat)) ov_s (JO_d (J_fz (fun _ _ => vs_vw) (J_op1P ov_s (JO_shd (i := 0) rfl)))) (JO_d (J_fz (fun _ _ => vs_vw) (J_op1P ov_s (JO_shd (i := 1) rfl)))) (fun _ h => nomatch h) (fun _ h => nomatch h)))) (J_tstP (J_fz (fun _ _ => vs_vw) (J_op2P (L2 := ([] : List Nat)) ov_s (JO_d (J_fz (fun _ _ => vs_vw) (J_op1P ov_s (JO_shd (i := 0) rfl)))) (JO_d (J_fz (fun _ _ => vs_vw) (J_op1P ov_s (JO_shd (i := 1) rfl)))) (fun _ h => nomatch h) (fun _ h => nomatch h)))))  (RS_eq (mseq_mret _ _) (RS_ret0 (L := ([] : List Nat)) (J_weak (J_shV J_cst) fun _ _ => vs_vw) (fun r x en hv he => pf_rt r x en hv he)))  (RS_eq (mseq_nx _) (RS_eq (mseq_mret _ _) (RS_ret0 (L := ([] : List Nat)) (J_weak (J_shV (J_vandP (J_fz (fun _ _ => vs_vw) (J_op2P (L2 := ([] : List Nat)) ov_s (JO_d (J_fz (fun _ _ => vs_vw) (J_op1P ov_s (JO_shd (i := 0) rfl)))) (JO_d (J_fz (fun _ _ => vs_vw) (J_op1P ov_s (JO_shd (i := 1) rfl)))) (fun _ h => nomatch h) (fun _ h => nomatch h))) (J_fz (fun _ _ => vs_vw) (J_op2P (L2 := ([] : List Nat)) ov_s (JO_d (J_fz (fun _ _ => vl_vw) (J_compP (vs := [2]) (J_rng1P (J_fz (fun _ _ => vs_vw) (J_op1P ov_s (JO_shd (i := 1) rfl)))) rfl (fun x_3 => J_stepN (i := 2) rfl (by decide) (J2_tailP rfl rfl (by decide) (J_notP (J_tstP (J_fz (fun _ _ h => h) (J_callP hrec (J_consP (J_fz (fun _ _ => vs_vw) (J_op2P (L2 := ([] : List Nat)) ov_s (JO_shd (i := 0) rfl) (JO_shd (i := 2) rfl) (fun _ h => nomatch h) (fun _ h => nomatch h))) (J_consP (J_fz (fun _ _ => vs_vw) (J_op2P (L2 := ([] : List Nat)) ov_s (JO_shd (i := 1) rfl) (JO_shd (i := 2) rfl) (fun _ h => nomatch h) (fun _ h => nomatch h))) J_nil)))))) (J_shd (i := 2) rfl)))))) (JO_d (J_fz (fun _ _ => vl_vw) (J_lstP J_nil))) (fun _ h => nomatch h) (fun _ h => nomatch h))))) fun _ _ => vs_vw) (fun r x en hv he => pf_rt r x en hv he))))))  (RS_eq (mseq_nx _) (RS_ifP (L := ([] : List Nat)) (J_tstP (J_fz (fun _ _ => vs_vw) (J_op2P (L2 := ([] : List Nat)) ov_s (JO_shd (i := 1) rfl) (JO_d J_cst) (fun _ h => nomatch h) (fun _ h => nomatch h))))  (RS_eq (mseq_mret _ _) (RS_ret0 (L := ([] : List Nat)) (J_weak (J_op2P (L2 := ([] : List Nat)) ov_s (JO_shd (i := 0) rfl) (JO_d J_cst) (fun _ h => nomatch h) (fun _ h => nomatch h)) fun _ _ => vs_vw) (fun r x en hv he => pf_rt r x en hv he)))  (RS_eq (mseq_nx _) (RS_ifP (L := ([] : List Nat)) (J_orP (J_tstP (J_fz (fun _ _ => vs_vw) (J_op1P ov_s (JO_shd (i := 1) rfl)))) (J_tstP (J_fz (fun _ _ => vs_vw) (J_op1P ov_s (JO_shd (i := 0) rfl)))))  (RS_eq (mseq_mret _ _) (RS_ret0 (L := ([] : List Nat)) (J_weak (J_shV (J_vandP (J_fz (fun _ _ => vs_vw) (J_op1P ov_s (JO_shd (i := 0) rfl))) (J_vandP (J_fz (fun _ _ => vs_vw) (J_op1P ov_s (JO_shd (i := 1) rfl))) (J_fz (fun _ _ => vs_vw) (J_op2P (L2 := ([] : List Nat)) ov_s (JO_shd (i := 0) rfl) (JO_shd (i := 1) rfl) (fun _ h => nomatch h) (fun _ h => nomatch h)))))) fun _ _ => vs_vw) (fun r x en hv he => pf_rt r x en hv he)))  (RS_eq (mseq_nx _) (RS_ifP (L := ([] : List Nat)) (J_tstP (J_fz (fun _ _ => vs_vw) (J_op1P ov_s (JO_shd (i := 1) rfl))))  (RS_eq (mseq_mret _ _) (RS_ret0 (L := ([] : List Nat)) (J_weak (J_shV (J_vandP (J_fz (fun _ _ => vs_vw) (J_op1P ov_s (JO_shd (i := 0) rfl))) (J_fz (fun _ _ => vs_vw) (J_op2P (L2 := ([] : List Nat)) ov_s (JO_shd (i := 0) rfl) (JO_shd (i := 1) rfl) (fun _ h => nomatch h) (fun _ h => nomatch h))))) fun _ _ => vs_vw) (fun r x en hv he => pf_rt r x en hv he)))  (RS_eq (mseq_nx _) (RS_ret0 (L := ([] : List Nat)) (J_weak (J_shV (J_vandP (J_fz (fun _ _ => vs_vw) (J_op1P ov_s (JO_shd (i := 0) rfl))) (J_fz (fun _ _ => vs_vw) (J_op2P (L2 := ([] : List Nat)) ov_s (JO_shd (i := 0) rfl) (JO_shd (i := 1) rfl) (fun _ h => nomatch h) (fun _ h => nomatch h))))) fun _ _ => vs_vw) (fun r x en hv he => pf_rt r x en hv he)))))))))))
theorem q__law_alike : FnD VW 2 F__law_alike (fun ds => PQ (A__law_alike ds)) := qr__law_alike 12
/-! _law_command -/
def P__law_command (regs_2 : PyData) : Dm PyData :=
 (bD (b2 (PQ ((aconsP (PR.ok (.str "x")) (aconsP (PR.ok (.str "y")) (aconsP (PR.ok (.str "zz")) (PR.ok [])))).bind lstF)) (bD (aconsD (b2 (PQ (PR.ok (.int 2))) (bD (PQ (aconsP (PR.ok (.int 2)) (PR.ok []))) fun ds => nD (A__law_take ds)) fun a b => outR (oAdd a b)) (PQ (PR.ok []))) fun ds => nD (A__law_take ds)) fun a b => outS (oIx a b)) fun cell_3 =>  (b2 (bD (aconsD (bD (aconsD (PQ (PR.ok (.str "put"))) (aconsD (PQ (PR.ok cell_3)) (aconsD (b2 (PQ (PR.ok (.int 1))) (bD (PQ (aconsP (PR.ok (.int 2)) (PR.ok []))) fun ds => nD (A__law_take ds)) fun a b => outR (oAdd a b)) (PQ (PR.ok []))))) fun ds => PQ (tupF ds)) (aconsD (bD (aconsD (PQ (PR.ok (.str "put"))) (aconsD (PQ (PR.ok cell_3)) (aconsD (b2 (PQ (PR.ok (.int 1))) (bD (PQ (aconsP (PR.ok (.int 2)) (PR.ok []))) fun ds => nD (A__law_take ds)) fun a b => outR (oAdd a b)) (PQ (PR.ok []))))) fun ds => PQ (tupF ds)) (aconsD (PQ ((aconsP (PR.ok (.str "get")) (aconsP (PR.ok cell_3) (aconsP (o2 (PR.ok (.str "r")) (o2 (PR.ok (.str "abcd")) (PR.ok regs_2) fun a b => outS (oIx a b)) fun a b => outR (oAdd a b)) (PR.ok [])))).bind tupF)) (aconsD (PQ ((aconsP (PR.ok (.str "get")) (aconsP (PR.ok cell_3) (aconsP (o2 (PR.ok (.str "r")) (o2 (PR.ok (.str "abcd")) (PR.ok regs_2) fun a b => outS (oIx a b)) fun a b => outR (oAdd a b)) (PR.ok [])))).bind tupF)) (aconsD (bD (aconsD (PQ (PR.ok (.str "swap"))) (aconsD (PQ (PR.ok cell_3)) (aconsD (b2 (PQ (PR.ok (.int 1))) (bD (PQ (aconsP (PR.ok (.int 9)) (PR.ok []))) fun ds => nD (A__law_take ds)) fun a b => outR (oAdd a b)) (PQ (aconsP (o2 (PR.ok (.str "r")) (o2 (PR.ok (.str "abcd")) (PR.ok regs_2) fun a b => outS (oIx a b)) fun a b => outR (oAdd a b)) (PR.ok [])))))) fun ds => PQ (tupF ds)) (PQ (aconsP ((aconsP (PR.ok (.str "fence")) (PR.ok [])).bind tupF) (PR.ok [])))))))) fun ds => PQ (lstF ds)) (ifD (tstD (b2 (bD (PQ (aconsP (PR.ok (.int 3)) (PR.ok []))) fun ds => nD (A__law_take ds)) (PQ (PR.ok (.int 0))) fun a b => outS (oEq a b))) (b2 (bD (PQ (aconsP (PR.ok (.int 7)) (PR.ok []))) fun ds => nD (A__law_take ds)) (PQ (PR.ok (.int 5))) fun a b => outS (oMin2 a b)) (bD (PQ (aconsP (PR.ok (.int 4)) (PR.ok []))) fun ds => nD (A__law_take ds))) fun a b => outS (oIx a b)))
def A__law_command : List PyData → Dm PyData
  | [regs_2] => P__law_command regs_2
  | _ => PQ .bad
theorem q__law_command : FnI VW DS 2 F__law_command A__law_command := fnI_of (n := 3) (m := m__law_command) (fun ds Qd h => (match ds, h with | [_], _ => rfl | [], h => h.elim | _ :: _ :: _, h => h.elim)) fun ds hl => match ds, hl with | [regs_2], _ => (show RS [(.iov DS), (.shd regs_2), .pl] m__law_command (P__law_command regs_2) (PFI VW DS) from
 (RS_asg (i := 2) (L := ([0] : List Nat)) (J_opv2 ov_s vl_d (J_lstP (J_consP J_cst (J_consP J_cst (J_consP J_cst J_nil)))) (JO_d (J_fz (fun _ _ h => h) (J_callI q__law_take (i := 0) rfl (.inl rfl) (by decide) (J_cons (J_fz (fun _ _ h => h) (J_op2 (L2 := ([0] : List Nat)) ov_w (JO_d J_cst) (JO_d (J_fz (fun _ _ h => h) (J_callI q__law_take (i := 0) rfl (.inl rfl) (by decide) (J_consP J_cst J_nil)))) (by decide) (by decide))) J_nil))))) v_shd rfl fun cell_3 => (RS_ret0 (L := ([0] : List Nat)) (J_weak (J_opv2 ov_s vl_d (J_lst (J_cons (J_tup (J_cons J_cst (J_cons (J_shd (i := 2) rfl) (J_cons (J_fz (fun _ _ h => h) (J_op2 (L2 := ([0] : List Nat)) ov_w (JO_d J_cst) (JO_d (J_fz (fun _ _ h => h) (J_callI q__law_take (i := 0) rfl (.inl rfl) (by decide) (J_consP J_cst J_nil)))) (by decide) (by decide))) J_nil)))) (J_cons (J_tup (J_cons J_cst (J_cons (J_shd (i := 2) rfl) (J_cons (J_fz (fun _ _ h => h) (J_op2 (L2 := ([0] : List Nat)) ov_w (JO_d J_cst) (JO_d (J_fz (fun _ _ h => h) (J_callI q__law_take (i := 0) rfl (.inl rfl) (by decide) (J_consP J_cst J_nil)))) (by decide) (by decide))) J_nil)))) (J_cons (J_tupP (J_consP J_cst (J_consP (J_shd (i := 2) rfl) (J_consP (J_fz (fun _ _ h => h) (J_op2P (L2 := ([] : List Nat)) ov_w (JO_d J_cst) (JO_d (J_fz (fun _ _ => vs_vw) (J_op2P (L2 := ([] : List Nat)) ov_s (JO_d J_cst) (JO_shd (i := 1) rfl) (fun _ h => nomatch h) (fun _ h => nomatch h)))) (fun _ h => nomatch h) (fun _ h => nomatch h))) J_nil)))) (J_cons (J_tupP (J_consP J_cst (J_consP (J_shd (i := 2) rfl) (J_consP (J_fz (fun _ _ h => h) (J_op2P (L2 := ([] : List Nat)) ov_w (JO_d J_cst) (JO_d (J_fz (fun _ _ => vs_vw) (J_op2P (L2 := ([] : List Nat)) ov_s (JO_d J_cst) (JO_shd (i := 1) rfl) (fun _ h => nomatch h) (fun _ h => nomatch h)))) (fun _ h => nomatch h) (fun _ h => nomatch h))) J_nil)))) (J_cons (J_tup (J_cons J_cst (J_cons (J_shd (i := 2) rfl) (J_cons (J_fz (fun _ _ h => h) (J_op2 (L2 := ([0] : List Nat)) ov_w (JO_d J_cst) (JO_d (J_fz (fun _ _ h => h) (J_callI q__law_take (i := 0) rfl (.inl rfl) (by decide) (J_consP J_cst J_nil)))) (by decide) (by decide))) (J_consP (J_fz (fun _ _ h => h) (J_op2P (L2 := ([] : List Nat)) ov_w (JO_d J_cst) (JO_d (J_fz (fun _ _ => vs_vw) (J_op2P (L2 := ([] : List Nat)) ov_s (JO_d J_cst) (JO_shd (i := 1) rfl) (fun _ h => nomatch h) (fun _ h => nomatch h)))) (fun _ h => nomatch h) (fun _ h => nomatch h))) J_nil))))) (J_consP (J_tupP (J_consP J_cst J_nil)) J_nil))))))) (JO_d (J_fz (fun _ _ h => h) (J_if (J_tst (J_fz (fun _ _ => vs_vw) (J_op2 (L2 := ([] : List Nat)) ov_s (JO_d (J_fz (fun _ _ h => h) (J_callI q__law_take (i := 0) rfl (.inl rfl) (by decide) (J_consP J_cst J_nil)))) (JO_d J_cst) (fun _ h => nomatch h) (fun _ h => nomatch h)))) (J_weak (J_op2 (L2 := ([] : List Nat)) ov_s (JO_d (J_fz (fun _ _ h => h) (J_callI q__law_take (i := 0) rfl (.inl rfl) (by decide) (J_consP J_cst J_nil)))) (JO_d J_cst) (fun _ h => nomatch h) (fun _ h => nomatch h)) fun _ _ => vs_vw) (J_callI q__law_take (i := 0) rfl (.inl rfl) (by decide) (J_consP J_cst J_nil)))))) fun _ _ => vs_vw) (fun r x en hv he => pfi_rt r x en hv he))))
/-! _law_program -/
def P__law_program (most_2 : PyData) : Dm PyData :=
 (bD (bD (PQ (aconsP (PR.ok (.int 4)) (PR.ok []))) fun ds => nD (A__law_take ds)) fun how_3 =>  (bD (PQ ((PR.ok []).bind lstF)) fun rows_4 =>  (bD (PQ (ifP (tstP (o2 (PR.ok how_3) (PR.ok (.int 0)) fun a b => outS (oEq a b)))  (((aconsP ((aconsP ((aconsP (PR.ok (.str "put")) (aconsP (PR.ok (.str "x")) (aconsP (PR.ok (.int 1)) (PR.ok [])))).bind tupF) (aconsP ((aconsP (PR.ok (.str "get")) (aconsP (PR.ok (.str "y")) (aconsP (PR.ok (.str "ra")) (PR.ok [])))).bind tupF) (PR.ok []))).bind lstF) (aconsP ((aconsP ((aconsP (PR.ok (.str "put")) (aconsP (PR.ok (.str "y")) (aconsP (PR.ok (.int 1)) (PR.ok [])))).bind tupF) (aconsP ((aconsP (PR.ok (.str "get")) (aconsP (PR.ok (.str "x")) (aconsP (PR.ok (.str "ra")) (PR.ok [])))).bind tupF) (PR.ok []))).bind lstF) (PR.ok []))).bind lstF).bind fun rows_6 =>  (PR.ok rows_6))  (PR.ok rows_4))) fun (j_7 : PyData) =>  (bD (PQ (ifP (tstP (o2 (PR.ok how_3) (PR.ok (.int 1)) fun a b => outS (oEq a b)))  (((aconsP ((aconsP ((aconsP (PR.ok (.str "put")) (aconsP (PR.ok (.str "x")) (aconsP (PR.ok (.int 1)) (PR.ok [])))).bind tupF) (aconsP ((aconsP (PR.ok (.str "put")) (aconsP (PR.ok (.str "y")) (aconsP (PR.ok (.int 1)) (PR.ok [])))).bind tupF) (PR.ok []))).bind lstF) (aconsP ((aconsP ((aconsP (PR.ok (.str "get")) (aconsP (PR.ok (.str "y")) (aconsP (PR.ok (.str "ra")) (PR.ok [])))).bind tupF) (aconsP ((aconsP (PR.ok (.str "get")) (aconsP (PR.ok (.str "x")) (aconsP (PR.ok (.str "rb")) (PR.ok [])))).bind tupF) (PR.ok []))).bind lstF) (PR.ok []))).bind lstF).bind fun rows_9 =>  (PR.ok rows_9))  (PR.ok j_7))) fun (j_10 : PyData) =>  (bD (ifD (PQ (tstP (o2 (PR.ok how_3) (PR.ok (.int 2)) fun a b => outS (oLt a b))))  (bD (bD (PQ (aconsP (PR.ok (.int 2)) (PR.ok []))) fun ds => nD (A__law_take ds)) fun at_31 =>  (bD (bD (PQ (aconsP (PR.ok (.int 3)) (PR.ok []))) fun ds => nD (A__law_take ds)) fun place_32 =>  (bD (b2 (PQ ((aconsP ((aconsP (PR.ok (.str "fence")) (PR.ok [])).bind tupF) (aconsP ((aconsP (PR.ok (.str "put")) (aconsP (PR.ok (.str "x")) (aconsP (PR.ok (.int 2)) (PR.ok [])))).bind tupF) (aconsP ((aconsP (PR.ok (.str "swap")) (aconsP (PR.ok (.str "zz")) (aconsP (PR.ok (.int 3)) (aconsP (PR.ok (.str "rd")) (PR.ok []))))).bind tupF) (aconsP ((aconsP (PR.ok (.str "get")) (aconsP (PR.ok (.str "x")) (aconsP (PR.ok (.str "rd")) (PR.ok [])))).bind tupF) (PR.ok []))))).bind lstF)) (bD (PQ (aconsP (PR.ok (.int 4)) (PR.ok []))) fun ds => nD (A__law_take ds)) fun a b => outS (oIx a b)) fun more_33 =>  (bD (b2 (b2 (PQ (slcP outR (o2 (PR.ok j_10) (PR.ok at_31) fun a b => outS (oIx a b)) (PR.ok none) ((PR.ok place_32).bind posF))) (b2 (PQ ((aconsP (PR.ok more_33) (PR.ok [])).bind lstF)) (bD (PQ (aconsP (PR.ok (.int 2)) (PR.ok []))) fun ds => nD (A__law_take ds)) fun a b => outR (oMulV a b)) fun a b => outR (oAdd a b)) (PQ (slcP outR (o2 (PR.ok j_10) (PR.ok at_31) fun a b => outS (oIx a b)) ((PR.ok place_32).bind posF) (PR.ok none))) fun a b => outR (oAdd a b)) fun y_35 => bD (PQ (PR.ok at_31)) fun z_36 => bD (PQ (stoF j_10 z_36 y_35)) fun rows_34 =>  (PQ (PR.ok rows_34))))))  (bD (PQ (PR.ok most_2)) fun left_37 =>  (bD (bD (b2 (PQ (PR.ok (.int 1))) (bD (PQ (aconsP (PR.ok (.int 3)) (PR.ok []))) fun ds => nD (A__law_take ds)) fun a b => outR (oAdd a b)) fun a => PQ (rng1F a)) fun l_50 => (bD (foldD (fun d_39 (s_38 : PyData × PyData) =>  (bD (PQ ((PR.ok []).bind lstF)) fun row_40 =>  (bD (bD (b2 (PQ (PR.ok s_38.1)) (bD (PQ (aconsP (PR.ok (.int 5)) (PR.ok []))) fun ds => nD (A__law_take ds)) fun a b => outS (oMin2 a b)) fun a => PQ (rng1F a)) fun l_48 => (bD (foldD (fun d_42 (s_41 : PyData) =>  (bD (bD (PQ (aconsP (o1 (PR.ok s_41) fun a => outS (oLen a)) (PR.ok []))) fun ds => nD (A__law_command ds)) fun y_44 => bD (PQ (appF s_41 y_44)) fun row_43 =>  (PQ (PR.ok row_43)))) l_48 row_40) fun (s_45 : PyData) => (PQ ((o2 (PR.ok s_38.1) (o1 (PR.ok s_45) fun a => outS (oLen a)) fun a b => outS (oSub a b)).bind fun left_46 =>  ((appF s_38.2 s_45).bind fun rows_47 =>  (PR.ok (left_46, rows_47))))))))) l_50 (left_37, j_10)) fun (s_49 : PyData × PyData) => (PQ (PR.ok s_49.2)))))) fun (j_51 : PyData) =>  (PQ (o1 (mcompP ((PR.ok j_51).bind seqF) (fun x_52 => (st1 (o1 (PR.ok x_52) fun a => outS (oTuple a))))) fun a => outS (oTuple a))))))))
def A__law_program : List PyData → Dm PyData
  | [most_2] => P__law_program most_2
  | _ => PQ .bad
theorem q__law_program : FnI VW DS 2 F__law_program A__law_program := fnI_of (n := 11) (m := m__law_program) (fun ds Qd h => (match ds, h with | [_], _ => rfl | [], h => h.elim | _ :: _ :: _, h => h.elim)) fun ds hl => match ds, hl with | [most_2], _ => (show RS [(.iov DS), (.shd most_2), .pl, .pl, .pl, .pl, .pl, .pl, .pl, .pl, .pl] m__law_program (P__law_program most_2) (PFI VW DS) from
 (RS_asg (i := 2) (L := ([0] : List Nat)) (J_callI q__law_take (i := 0) rfl (.inl rfl) (by decide) (J_consP J_cst J_nil)) v_val rfl fun how_3 => (RS_asg (i := 3) (L := ([] : List Nat)) (J_lstP J_nil) v_ownl rfl fun rows_4 => (RS_bind (Gs := (fun (j_7 : PyData) => [(.iov DS), (.shd most_2), (.val how_3), (.ownl j_7), .pl, .pl, .pl, .pl, .pl, .pl, .pl])) (RS_end (RS_ifP (L := ([] : List Nat)) (J_tstP (J_fz (fun _ _ => vs_vw) (J_op2P (L2 := ([] : List Nat)) ov_s (JO_val (i := 2) rfl) (JO_d J_cst) (fun _ h => nomatch h) (fun _ h => nomatch h))))  (RS_asgP (i := 3) (L := ([] : List Nat)) (J_lstP (J_consP (J_fz (fun _ _ => vl_vw) (J_lstP (J_consP (J_tupP (J_consP J_cst (J_consP J_cst (J_consP J_cst J_nil)))) (J_consP (J_tupP (J_consP J_cst (J_consP J_cst (J_consP J_cst J_nil)))) J_nil)))) (J_consP (J_fz (fun _ _ => vl_vw) (J_lstP (J_consP (J_tupP (J_consP J_cst (J_consP J_cst (J_consP J_cst J_nil)))) (J_consP (J_tupP (J_consP J_cst (J_consP J_cst (J_consP J_cst J_nil)))) J_nil)))) J_nil))) v_ownl rfl fun rows_6 => (RS_nx fun en he => ⟨rfl, er_sub (.cons s_rf (.cons s_rf (.cons s_rf (.cons s_rf (.cons s_rf (.cons s_rf (.cons s_rf (.cons s_rf (.cons s_rf (.cons s_rf (.cons s_rf .nil))))))))))) he⟩))  (RS_eq (mseq_nx _) (RS_nx fun en he => ⟨rfl, er_sub (.cons s_rf (.cons s_rf (.cons s_rf (.cons s_rf (.cons s_rf (.cons s_rf (.cons s_rf (.cons s_rf (.cons s_rf (.cons s_rf (.cons s_rf .nil))))))))))) he⟩)))) fun j_7 => (RS_bind (Gs := (fun (j_10 : PyData) => [(.iov DS), (.shd most_2), (.val how_3), (.ownl j_10), .pl, .pl, .pl, .pl, .pl, .pl, .pl])) (RS_end (RS_ifP (L := ([] : List Nat)) (J_tstP (J_fz (fun _ _ => vs_vw) (J_op2P (L2 := ([] : List Nat)) ov_s (JO_val (i := 2) rfl) (JO_d J_cst) (fun _ h => nomatch h) (fun _ h => nomatch h))))  (RS_asgP (i := 3) (L := ([] : List Nat)) (J_lstP (J_consP (J_fz (fun _ _ => vl_vw) (J_lstP (J_consP (J_tupP (J_consP J_cst (J_consP J_cst (J_consP J_cst J_nil)))) (J_consP (J_tupP (J_consP J_cst (J_consP J_cst (J_consP J_cst J_nil)))) J_nil)))) (J_consP (J_fz (fun _ _ => vl_vw) (J_lstP (J_consP (J_tupP (J_consP J_cst (J_consP J_cst (J_consP J_cst J_nil)))) (J_consP (J_tupP (J_consP J_cst (J_consP J_cst (J_consP J_cst J_nil)))) J_nil)))) J_nil))) v_ownl rfl fun rows_9 => (RS_nx fun en he => ⟨rfl, er_sub (.cons s_rf (.cons s_rf (.cons s_rf (.cons s_rf (.cons s_rf (.cons s_rf (.cons s_rf (.cons s_rf (.cons s_rf (.cons s_rf (.cons s_rf .nil))))))))))) he⟩))  (RS_eq (mseq_nx _) (RS_nx fun en he => ⟨rfl, er_sub (.cons s_rf (.cons s_rf (.cons s_rf (.cons s_rf (.cons s_rf (.cons s_rf (.cons s_rf (.cons s_rf (.cons s_rf (.cons s_rf (.cons s_rf .nil))))))))))) he⟩)))) fun j_10 => (RS_bind (Gs := (fun (j_51 : PyData) => [(.iov DS), (.shd most_2), (.val how_3), (.ownl j_51), .any, .any, .pl, .pl, .pl, .pl, .pl])) (RS_end (RS_if (L := ([] : List Nat)) (J_tstP (J_fz (fun _ _ => vs_vw) (J_op2P (L2 := ([] : List Nat)) ov_s (JO_val (i := 2) rfl) (JO_d J_cst) (fun _ h => nomatch h) (fun _ h => nomatch h))))  (RS_as (RS_asg (i := 4) (L := ([0] : List Nat)) (J_callI q__law_take (i := 0) rfl (.inl rfl) (by decide) (J_consP J_cst J_nil)) v_val rfl fun at_31 => (RS_as (RS_asg (i := 5) (L := ([0] : List Nat)) (J_callI q__law_take (i := 0) rfl (.inl rfl) (by decide) (J_consP J_cst J_nil)) v_val rfl fun place_32 => (RS_as (RS_asg (i := 6) (L := ([0] : List Nat)) (J_opv2 ov_s vl_d (J_lstP (J_consP (J_tupP (J_consP J_cst J_nil)) (J_consP (J_tupP (J_consP J_cst (J_consP J_cst (J_consP J_cst J_nil)))) (J_consP (J_tupP (J_consP J_cst (J_consP J_cst (J_consP J_cst (J_consP J_cst J_nil))))) (J_consP (J_tupP (J_consP J_cst (J_consP J_cst (J_consP J_cst J_nil)))) J_nil))))) (JO_d (J_fz (fun _ _ h => h) (J_callI q__law_take (i := 0) rfl (.inl rfl) (by decide) (J_consP J_cst J_nil))))) v_shd rfl fun more_33 => (RS_sto (i := 3) (L := ([0] : List Nat)) rfl (J_fz (fun _ _ h => h) (J_op2 (L2 := ([] : List Nat)) ov_w (JO_d (J_fz (fun _ _ h => h) (J_op2 (L2 := ([0] : List Nat)) ov_w (JO_d (J_fz (fun _ _ h => h) (J_slcP (L2 := ([] : List Nat)) ov_w (JO_d (J_fz (fun _ _ => vs_vw) (J_op2P (L2 := ([] : List Nat)) ov_s (JO_ownl (i := 3) rfl) (JO_val (i := 4) rfl) (fun _ h => nomatch h) (fun _ h => nomatch h)))) J_pno (J_psoP (JO_val (i := 5) rfl)) (fun _ h => nomatch h) (fun _ h => nomatch h)))) (JO_d (J_fz (fun _ _ h => h) (J_op2 (L2 := ([0] : List Nat)) ov_w (JO_d (J_fz (fun _ _ => vl_vw) (J_lstP (J_consP (J_shd (i := 6) rfl) J_nil)))) (JO_d (J_fz (fun _ _ h => h) (J_callI q__law_take (i := 0) rfl (.inl rfl) (by decide) (J_consP J_cst J_nil)))) (by decide) (by decide)))) (by decide) (by decide)))) (JO_d (J_fz (fun _ _ h => h) (J_slcP (L2 := ([] : List Nat)) ov_w (JO_d (J_fz (fun _ _ => vs_vw) (J_op2P (L2 := ([] : List Nat)) ov_s (JO_ownl (i := 3) rfl) (JO_val (i := 4) rfl) (fun _ h => nomatch h) (fun _ h => nomatch h)))) (J_psoP (JO_val (i := 5) rfl)) J_pno (fun _ h => nomatch h) (fun _ h => nomatch h)))) (fun _ h => nomatch h) (fun _ h => nomatch h))) (JO_val (i := 4) rfl) fun rows_34 => (RS_nx fun en he => ⟨rfl, er_sub (.cons s_rf (.cons s_rf (.cons s_rf (.cons s_rf (.cons s_va (.cons s_va (.cons s_hp (.cons s_rf (.cons s_rf (.cons s_rf (.cons s_rf .nil))))))))))) he⟩))))))))  (RS_as (RS_asg (i := 7) (L := ([] : List Nat)) (J_shV (J_shd (i := 1) rfl)) v_shd rfl fun left_37 => (RS_forN (i := 8) (L := ([0] : List Nat)) (Gs := (fun (s_38 : PyData × PyData) => [(.iov DS), (.shd most_2), (.val how_3), (.ownl s_38.2), .pl, .pl, .pl, (.shd s_38.1), .pl, .pl, .pl])) (left_37, j_10) (J_rng1 (J_fz (fun _ _ h => h) (J_op2 (L2 := ([0] : List Nat)) ov_w (JO_d J_cst) (JO_d (J_fz (fun _ _ h => h) (J_callI q__law_take (i := 0) rfl (.inl rfl) (by decide) (J_consP J_cst J_nil)))) (by decide) (by decide)))) (.cons s_rf (.cons s_rf (.cons s_rf (.cons s_rf (.cons s_rf (.cons s_rf (.cons s_rf (.cons s_rf (.cons s_rf (.cons s_rf (.cons s_rf .nil))))))))))) (fun _ => rfl) (fun d_39 s_38 => (RS_asg (i := 9) (L := ([] : List Nat)) (J_lstP J_nil) v_ownl rfl fun row_40 => (RS_forN (i := 10) (L := ([0] : List Nat)) (Gs := (fun (s_41 : PyData) => [(.iov DS), (.shd most_2), (.val how_3), (.ownl s_38.2), .pl, .pl, .pl, (.shd s_38.1), (.shd d_39), (.ownl s_41), .pl])) row_40 (J_rng1 (J_fz (fun _ _ => vs_vw) (J_op2 (L2 := ([0] : List Nat)) ov_s (JO_shd (i := 7) rfl) (JO_d (J_fz (fun _ _ h => h) (J_callI q__law_take (i := 0) rfl (.inl rfl) (by decide) (J_consP J_cst J_nil)))) (by decide) (by decide)))) (.cons s_rf (.cons s_rf (.cons s_rf (.cons s_rf (.cons s_rf (.cons s_rf (.cons s_rf (.cons s_rf (.cons s_rf (.cons s_rf (.cons s_rf .nil))))))))))) (fun _ => rfl) (fun d_42 s_41 => (RS_end (RS_app (i := 9) (L := ([0] : List Nat)) rfl (J_fz (fun _ _ h => h) (J_callI q__law_command (i := 0) rfl (.inl rfl) (by decide) (J_consP (J_fz (fun _ _ => vs_vw) (J_op1P ov_s (JO_ownl (i := 9) rfl))) J_nil))) fun row_43 => (RS_nx fun en he => ⟨.inl rfl, er_sub (.cons s_rf (.cons s_rf (.cons s_rf (.cons s_rf (.cons s_rf (.cons s_rf (.cons s_rf (.cons s_rf (.cons s_rf (.cons s_rf (.cons s_hp .nil))))))))))) he⟩)))) (fun s_45 => (RS_asgP (i := 7) (L := ([] : List Nat)) (J_op2P (L2 := ([] : List Nat)) ov_s (JO_shd (i := 7) rfl) (JO_d (J_fz (fun _ _ => vs_vw) (J_op1P ov_s (JO_ownl (i := 9) rfl)))) (fun _ h => nomatch h) (fun _ h => nomatch h)) v_shd rfl fun left_46 => (RS_end (RS_appNP (i := 3) (j := 9) rfl rfl (by decide) fun rows_47 => (RS_nx fun en he => ⟨.inl rfl, er_sub (.cons s_rf (.cons s_rf (.cons s_rf (.cons s_rf (.cons s_rf (.cons s_rf (.cons s_rf (.cons s_rf (.cons s_hp (.cons s_hp (.cons s_rf .nil))))))))))) he⟩)))))))) (fun s_49 => (RS_nx fun en he => ⟨rfl, er_sub (.cons s_rf (.cons s_rf (.cons s_rf (.cons s_rf (.cons s_pa (.cons s_pa (.cons s_rf (.cons s_hp (.cons s_rf (.cons s_rf (.cons s_rf .nil))))))))))) he⟩))))))) fun j_51 => (RS_sub (.cons s_rf (.cons s_rf (.cons s_rf (.cons s_lv (.cons s_rf (.cons s_rf (.cons s_rf (.cons s_rf (.cons s_rf (.cons s_rf (.cons s_rf .nil))))))))))) (RS_ret0 (L := ([] : List Nat)) (J_weak (J_op1P ov_s (JO_d (J_fz (fun _ _ => vl_vw) (J_compP (vs := [9]) (J_seqP (J_val (i := 3) rfl)) rfl (fun x_52 => J_stepN (i := 9) rfl (by decide) (J2_tail1P rfl rfl (by decide) (J_fz (fun _ _ => vs_vw) (J_op1P ov_s (JO_shd (i := 9) rfl))))))))) fun _ _ => vs_vw) (fun r x en hv he => pfi_rt r x en hv he)))))))))
/-! _law_odd -/
def P__law_odd (program_2 : PyData) : Dm PyData :=
 (bD (bD (PQ (aconsP (o1 (PR.ok program_2) fun a => outS (oLen a)) (PR.ok []))) fun ds => nD (A__law_take ds)) fun at_3 =>  (bD (PQ (o2 (PR.ok program_2) (PR.ok at_3) fun a b => outS (oIx a b))) fun row_4 =>  (bD (bD (PQ (aconsP (o2 (o1 (PR.ok row_4) fun a => outS (oLen a)) (PR.ok (.int 1)) fun a b => outR (oAdd a b)) (PR.ok []))) fun ds => nD (A__law_take ds)) fun place_5 =>  (PQ (((aconsP ((aconsP (PR.ok (.str "put")) (aconsP (PR.ok (.str "x")) (aconsP (PR.ok (.int 10)) (PR.ok [])))).bind tupF) (aconsP ((aconsP (PR.ok (.str "put")) (aconsP (PR.ok (.str "x")) (aconsP (o1 (PR.ok (.int 1)) fun a => outS ((oI1 fun i => -i) a)) (PR.ok [])))).bind tupF) (aconsP ((aconsP (PR.ok (.str "put")) (aconsP (PR.ok (.str "x")) (aconsP (PR.ok (.bool true)) (PR.ok [])))).bind tupF) (aconsP ((aconsP (PR.ok (.str "put")) (aconsP (PR.ok (.str "X")) (aconsP (PR.ok (.int 1)) (PR.ok [])))).bind tupF) (aconsP ((aconsP (PR.ok (.str "put")) (aconsP (PR.ok (.str "x")) (PR.ok []))).bind tupF) (aconsP ((aconsP (PR.ok (.str "put")) (aconsP (PR.ok (.str "x")) (aconsP (PR.ok (.int 1)) (aconsP (PR.ok (.int 1)) (PR.ok []))))).bind tupF) (aconsP ((aconsP (PR.ok (.str "put")) (aconsP (PR.ok (.str "x")) (aconsP (PR.ok .none) (PR.ok [])))).bind tupF) (aconsP ((aconsP (PR.ok (.str "get")) (aconsP (PR.ok (.str "x")) (aconsP (PR.ok (.str "")) (PR.ok [])))).bind tupF) (aconsP ((aconsP (PR.ok (.str "get")) (aconsP (PR.ok (.str "x")) (aconsP (PR.ok (.int 1)) (PR.ok [])))).bind tupF) (aconsP ((aconsP (PR.ok (.str "get")) (aconsP (PR.ok (.str "x")) (PR.ok []))).bind tupF) (aconsP ((aconsP (PR.ok (.str "get")) (aconsP (PR.ok (.int 1)) (aconsP (PR.ok (.str "r")) (PR.ok [])))).bind tupF) (PR.ok [])))))))))))).bind lstF).bind fun odd_6 =>  ((o2 (PR.ok odd_6) ((aconsP ((aconsP (PR.ok (.str "swap")) (aconsP (PR.ok (.str "x")) (aconsP (PR.ok (.int 1)) (PR.ok [])))).bind tupF) (aconsP ((aconsP (PR.ok (.str "swap")) (aconsP (PR.ok (.str "x")) (aconsP (PR.ok (.int 10)) (aconsP (PR.ok (.str "r")) (PR.ok []))))).bind tupF) (aconsP ((aconsP (PR.ok (.str "swap")) (aconsP (PR.ok (.str "x")) (aconsP (PR.ok (.int 1)) (aconsP (PR.ok (.str "R")) (PR.ok []))))).bind tupF) (aconsP ((aconsP (PR.ok (.str "fence")) (aconsP (PR.ok (.str "x")) (PR.ok []))).bind tupF) (aconsP ((PR.ok []).bind tupF) (aconsP ((aconsP (PR.ok (.str "look")) (aconsP (PR.ok (.str "x")) (aconsP (PR.ok (.str "r")) (PR.ok [])))).bind tupF) (aconsP (PR.ok .none) (aconsP (PR.ok (.str "fence")) (aconsP ((aconsP (PR.ok (.str "fence")) (PR.ok [])).bind lstF) (aconsP ((aconsP (PR.ok (.str "get")) (aconsP (o2 (PR.ok (.str "x")) (PR.ok (.int 17)) fun a b => outR (oMulV a b)) (aconsP (PR.ok (.str "r")) (PR.ok [])))).bind tupF) (PR.ok []))))))))))).bind lstF) fun a b => outR (oAdd a b)).bind fun odd_7 =>  ((o2 (mcompP ((PR.ok odd_7).bind seqF) (fun x_8 => (st1 (o2 (o2 (slcP outR (PR.ok program_2) (PR.ok none) ((PR.ok at_3).bind posF)) ((aconsP (o2 (o2 (slcP outR (PR.ok row_4) (PR.ok none) ((PR.ok place_5).bind posF)) ((aconsP (PR.ok x_8) (PR.ok [])).bind tupF) fun a b => outR (oAdd a b)) (slcP outR (PR.ok row_4) ((PR.ok place_5).bind posF) (PR.ok none)) fun a b => outR (oAdd a b)) (PR.ok [])).bind tupF) fun a b => outR (oAdd a b)) (slcP outR (PR.ok program_2) ((o2 (PR.ok at_3) (PR.ok (.int 1)) fun a b => outR (oAdd a b)).bind posF) (PR.ok none)) fun a b => outR (oAdd a b))))) ((aconsP (o1 (PR.ok program_2) fun a => outL (oList a)) (aconsP (PR.ok .none) (aconsP (PR.ok (.int 7)) (aconsP ((PR.ok []).bind tupF) (aconsP (o2 (o2 (slcP outR (PR.ok program_2) (PR.ok none) ((PR.ok at_3).bind posF)) ((aconsP (o1 (PR.ok row_4) fun a => outL (oList a)) (PR.ok [])).bind tupF) fun a b => outR (oAdd a b)) (slcP outR (PR.ok program_2) ((o2 (PR.ok at_3) (PR.ok (.int 1)) fun a b => outR (oAdd a b)).bind posF) (PR.ok none)) fun a b => outR (oAdd a b)) (PR.ok [])))))).bind lstF) fun a b => outR (oAdd a b)).bind fun found_9 =>  (((aconsP ((aconsP (PR.ok (.str "get")) (aconsP (PR.ok (.str "x")) (aconsP (PR.ok (.str "rr")) (PR.ok [])))).bind tupF) (aconsP ((aconsP (PR.ok (.str "swap")) (aconsP (PR.ok (.str "y")) (aconsP (PR.ok (.int 1)) (aconsP (PR.ok (.str "rr")) (PR.ok []))))).bind tupF) (PR.ok []))).bind tupF).bind fun twice_10 =>  (o2 (PR.ok found_9) ((aconsP ((aconsP (PR.ok twice_10) (PR.ok [])).bind tupF) (aconsP ((aconsP (o2 ((aconsP ((aconsP (PR.ok (.str "fence")) (PR.ok [])).bind tupF) (PR.ok [])).bind tupF) (PR.ok (.int 5)) fun a b => outS (oMulU a b)) (PR.ok [])).bind tupF) (aconsP ((aconsP (o2 ((aconsP ((aconsP (PR.ok (.str "fence")) (PR.ok [])).bind tupF) (PR.ok [])).bind tupF) (PR.ok (.int 4)) fun a b => outS (oMulU a b)) (aconsP (o2 ((aconsP ((aconsP (PR.ok (.str "fence")) (PR.ok [])).bind tupF) (PR.ok [])).bind tupF) (PR.ok (.int 4)) fun a b => outS (oMulU a b)) (aconsP ((aconsP ((aconsP (PR.ok (.str "fence")) (PR.ok [])).bind tupF) (PR.ok [])).bind tupF) (PR.ok [])))).bind tupF) (aconsP (o2 ((aconsP ((PR.ok []).bind tupF) (PR.ok [])).bind tupF) (PR.ok (.int 4)) fun a b => outS (oMulU a b)) (aconsP ((aconsP (PR.ok (.str "fence")) (PR.ok [])).bind tupF) (PR.ok [])))))).bind lstF) fun a b => outR (oAdd a b))))))))))
def A__law_odd : List PyData → Dm PyData
  | [program_2] => P__law_odd program_2
  | _ => PQ .bad
theorem q__law_odd : FnI VW DS 2 F__law_odd A__law_odd := fnI_of (n := 9) (m := m__law_odd) (fun ds Qd h => (match ds, h with | [_], _ => rfl | [], h => h.elim | _ :: _ :: _, h => h.elim)) fun ds hl => match ds, hl with | [program_2], _ => (show RS [(.iov DS), (.shd program_2), .pl, .pl, .pl, .pl, .pl, .pl, .pl] m__law_odd (P__law_odd program_2) (PFI VW DS) from
 (RS_asg (i := 2) (L := ([0] : List Nat)) (J_callI q__law_take (i := 0) rfl (.inl rfl) (by decide) (J_consP (J_fz (fun _ _ => vs_vw) (J_op1P ov_s (JO_shd (i := 1) rfl))) J_nil)) v_val rfl fun at_3 => (RS_asg (i := 3) (L := ([] : List Nat)) (J_op2P (L2 := ([] : List Nat)) ov_s (JO_shd (i := 1) rfl) (JO_val (i := 2) rfl) (fun _ h => nomatch h) (fun _ h => nomatch h)) v_shd rfl fun row_4 => (RS_asg (i := 4) (L := ([0] : List Nat)) (J_callI q__law_take (i := 0) rfl (.inl rfl) (by decide) (J_consP (J_fz (fun _ _ h => h) (J_op2P (L2 := ([] : List Nat)) ov_w (JO_d (J_fz (fun _ _ => vs_vw) (J_op1P ov_s (JO_shd (i := 3) rfl)))) (JO_d J_cst) (fun _ h => nomatch h) (fun _ h => nomatch h))) J_nil)) v_val rfl fun place_5 => (RS_asgP (i := 5) (L := ([] : List Nat)) (J_lstP (J_consP (J_tupP (J_consP J_cst (J_consP J_cst (J_consP J_cst J_nil)))) (J_consP (J_tupP (J_consP J_cst (J_consP J_cst (J_consP (J_fz (fun _ _ => vs_vw) (J_op1P ov_s (JO_d J_cst))) J_nil)))) (J_consP (J_tupP (J_consP J_cst (J_consP J_cst (J_consP J_cst J_nil)))) (J_consP (J_tupP (J_consP J_cst (J_consP J_cst (J_consP J_cst J_nil)))) (J_consP (J_tupP (J_consP J_cst (J_consP J_cst J_nil))) (J_consP (J_tupP (J_consP J_cst (J_consP J_cst (J_consP J_cst (J_consP J_cst J_nil))))) (J_consP (J_tupP (J_consP J_cst (J_consP J_cst (J_consP J_cst J_nil)))) (J_consP (J_tupP (J_consP J_cst (J_consP J_cst (J_consP J_cst J_nil)))) (J_consP (J_tupP (J_consP J_cst (J_consP J_cst (J_consP J_cst J_nil)))) (J_consP (J_tupP (J_consP J_cst (J_consP J_cst J_nil))) (J_consP (J_tupP (J_consP J_cst (J_consP J_cst (J_consP J_cst J_nil)))) J_nil)))))))))))) v_ownl rfl fun odd_6 => (RS_asgP (i := 5) (L := ([] : List Nat)) (J_op2P (L2 := ([] : List Nat)) ov_w (JO_ownl (i := 5) rfl) (JO_d (J_fz (fun _ _ => vl_vw) (J_lstP (J_consP (J_tupP (J_consP J_cst (J_consP J_cst (J_consP J_cst J_nil)))) (J_consP (J_tupP (J_consP J_cst (J_consP J_cst (J_consP J_cst (J_consP J_cst J_nil))))) (J_consP (J_tupP (J_consP J_cst (J_consP J_cst (J_consP J_cst (J_consP J_cst J_nil))))) (J_consP (J_tupP (J_consP J_cst (J_consP J_cst J_nil))) (J_consP (J_tupP J_nil) (J_consP (J_tupP (J_consP J_cst (J_consP J_cst (J_consP J_cst J_nil)))) (J_consP J_cst (J_consP J_cst (J_consP (J_fz (fun _ _ => vl_vw) (J_lstP (J_consP J_cst J_nil))) (J_consP (J_tupP (J_consP J_cst (J_consP (J_fz (fun _ _ h => h) (J_op2P (L2 := ([] : List Nat)) ov_w (JO_d J_cst) (JO_d J_cst) (fun _ h => nomatch h) (fun _ h => nomatch h))) (J_consP J_cst J_nil)))) J_nil))))))))))))) (fun _ h => nomatch h) (fun _ h => nomatch h)) v_val rfl fun odd_7 => (RS_asgP (i := 6) (L := ([] : List Nat)) (J_op2P (L2 := ([] : List Nat)) ov_w (JO_d (J_fz (fun _ _ => vl_vw) (J_compP (vs := [7]) (J_seqP (J_val (i := 5) rfl)) rfl (fun x_8 => J_stepN (i := 7) rfl (by decide) (J2_tail1P rfl rfl (by decide) (J_fz (fun _ _ h => h) (J_op2P (L2 := ([] : List Nat)) ov_w (JO_d (J_fz (fun _ _ h => h) (J_op2P (L2 := ([] : List Nat)) ov_w (JO_d (J_fz (fun _ _ h => h) (J_slcP (L2 := ([] : List Nat)) ov_w (JO_shd (i := 1) rfl) J_pno (J_psoP (JO_val (i := 2) rfl)) (fun _ h => nomatch h) (fun _ h => nomatch h)))) (JO_d (J_tupP (J_consP (J_fz (fun _ _ h => h) (J_op2P (L2 := ([] : List Nat)) ov_w (JO_d (J_fz (fun _ _ h => h) (J_op2P (L2 := ([] : List Nat)) ov_w (JO_d (J_fz (fun _ _ h => h) (J_slcP (L2 := ([] : List Nat)) ov_w (JO_shd (i := 3) rfl) J_pno (J_psoP (JO_val (i := 4) rfl)) (fun _ h => nomatch h) (fun _ h => nomatch h)))) (JO_d (J_tupP (J_consP (J_shd (i := 7) rfl) J_nil))) (fun _ h => nomatch h) (fun _ h => nomatch h)))) (JO_d (J_fz (fun _ _ h => h) (J_slcP (L2 := ([] : List Nat)) ov_w (JO_shd (i := 3) rfl) (J_psoP (JO_val (i := 4) rfl)) J_pno (fun _ h => nomatch h) (fun _ h => nomatch h)))) (fun _ h => nomatch h) (fun _ h => nomatch h))) J_nil))) (fun _ h => nomatch h) (fun _ h => nomatch h)))) (JO_d (J_fz (fun _ _ h => h) (J_slcP (L2 := ([] : List Nat)) ov_w (JO_shd (i := 1) rfl) (J_psoP (JO_d (J_fz (fun _ _ h => h) (J_op2P (L2 := ([] : List Nat)) ov_w (JO_val (i := 2) rfl) (JO_d J_cst) (fun _ h => nomatch h) (fun _ h => nomatch h))))) J_pno (fun _ h => nomatch h) (fun _ h => nomatch h)))) (fun _ h => nomatch h) (fun _ h => nomatch h)))))))) (JO_d (J_fz (fun _ _ => vl_vw) (J_lstP (J_consP (J_fz (fun _ _ => vl_vw) (J_op1P ov_l (JO_shd (i := 1) rfl))) (J_consP J_cst (J_consP J_cst (J_consP (J_tupP J_nil) (J_consP (J_fz (fun _ _ h => h) (J_op2P (L2 := ([] : List Nat)) ov_w (JO_d (J_fz (fun _ _ h => h) (J_op2P (L2 := ([] : List Nat)) ov_w (JO_d (J_fz (fun _ _ h => h) (J_slcP (L2 := ([] : List Nat)) ov_w (JO_shd (i := 1) rfl) J_pno (J_psoP (JO_val (i := 2) rfl)) (fun _ h => nomatch h) (fun _ h => nomatch h)))) (JO_d (J_tupP (J_consP (J_fz (fun _ _ => vl_vw) (J_op1P ov_l (JO_shd (i := 3) rfl))) J_nil))) (fun _ h => nomatch h) (fun _ h => nomatch h)))) (JO_d (J_fz (fun _ _ h => h) (J_slcP (L2 := ([] : List Nat)) ov_w (JO_shd (i := 1) rfl) (J_psoP (JO_d (J_fz (fun _ _ h => h) (J_op2P (L2 := ([] : List Nat)) ov_w (JO_val (i := 2) rfl) (JO_d J_cst) (fun _ h => nomatch h) (fun _ h => nomatch h))))) J_pno (fun _ h => nomatch h) (fun _ h => nomatch h)))) (fun _ h => nomatch h) (fun _ h => nomatch h))) J_nil)))))))) (fun _ h => nomatch h) (fun _ h => nomatch h)) v_val rfl fun found_9 => (RS_asgP (i := 8) (L := ([] : List Nat)) (J_shV (J_tupP (J_consP (J_tupP (J_consP J_cst (J_consP J_cst (J_consP J_cst J_nil)))) (J_consP (J_tupP (J_consP J_cst (J_consP J_cst (J_consP J_cst (J_consP J_cst J_nil))))) J_nil)))) v_shd rfl fun twice_10 => (RS_ret0 (L := ([] : List Nat)) (J_op2P (L2 := ([] : List Nat)) ov_w (JO_val (i := 6) rfl) (JO_d (J_fz (fun _ _ => vl_vw) (J_lstP (J_consP (J_tupP (J_consP (J_shd (i := 8) rfl) J_nil)) (J_consP (J_tupP (J_consP (J_fz (fun _ _ => vs_vw) (J_op2P (L2 := ([] : List Nat)) ov_s (JO_d (J_tupP (J_consP (J_tupP (J_consP J_cst J_nil)) J_nil))) (JO_d J_cst) (fun _ h => nomatch h) (fun _ h => nomatch h))) J_nil)) (J_consP (J_tupP (J_consP (J_fz (fun _ _ => vs_vw) (J_op2P (L2 := ([] : List Nat)) ov_s (JO_d (J_tupP (J_consP (J_tupP (J_consP J_cst J_nil)) J_nil))) (JO_d J_cst) (fun _ h => nomatch h) (fun _ h => nomatch h))) (J_consP (J_fz (fun _ _ => vs_vw) (J_op2P (L2 := ([] : List Nat)) ov_s (JO_d (J_tupP (J_consP (J_tupP (J_consP J_cst J_nil)) J_nil))) (JO_d J_cst) (fun _ h => nomatch h) (fun _ h => nomatch h))) (J_consP (J_tupP (J_consP (J_tupP (J_consP J_cst J_nil)) J_nil)) J_nil)))) (J_consP (J_fz (fun _ _ => vs_vw) (J_op2P (L2 := ([] : List Nat)) ov_s (JO_d (J_tupP (J_consP (J_tupP J_nil) J_nil))) (JO_d J_cst) (fun _ h => nomatch h) (fun _ h => nomatch h))) (J_consP (J_tupP (J_consP J_cst J_nil)) J_nil)))))))) (fun _ h => nomatch h) (fun _ h => nomatch h)) (fun r x en hv he => pfi_rt r x en hv he))))))))))
/-! law -/
def P_law (script_1 : PyData) : Dm PyData :=
 (bD (bD (PQ (aconsP (PR.ok script_1) (PR.ok []))) fun ds => nD (A__law_draws ds)) fun u_2 =>  (bD (bD (PQ (aconsP (PR.ok (.int 8)) (PR.ok []))) fun ds => nD (A__law_program ds)) fun program_3 =>  (bD (PQ (ifP (tstP (o2 (mcompP ((o1 (PR.ok program_3) fun a => outS (oLen a)).bind rng1F) (fun x_4 => (stP (tstP (o2 (o1 (o2 (PR.ok program_3) (PR.ok x_4) fun a b => outS (oIx a b)) fun a => outS (oLen a)) (PR.ok (.int 4)) fun a b => outS (oGt a b))) (PR.ok x_4)))) ((PR.ok []).bind lstF) fun a b => outS (oNe a b)))  ((o1 (mcompP ((PR.ok program_3).bind seqF) (fun x_7 => (st1 (slcP outR (PR.ok x_7) (PR.ok none) ((PR.ok (.int 4)).bind posF))))) fun a => outS (oTuple a)).bind fun program_8 =>  (PR.ok program_8))  (PR.ok program_3))) fun (j_9 : PyData) =>  (bD (PQ ((aconsP (PR.ok j_9) (aconsP ((aconsP ((PR.ok []).bind tupF) (PR.ok [])).bind tupF) (aconsP ((aconsP ((PR.ok []).bind tupF) (aconsP ((PR.ok []).bind tupF) (aconsP ((PR.ok []).bind tupF) (PR.ok [])))).bind tupF) (aconsP ((aconsP (o2 ((aconsP ((aconsP (PR.ok (.str "fence")) (PR.ok [])).bind tupF) (PR.ok [])).bind tupF) (PR.ok (.int 4)) fun a b => outS (oMulU a b)) (aconsP (o2 ((aconsP ((aconsP (PR.ok (.str "fence")) (PR.ok [])).bind tupF) (PR.ok [])).bind tupF) (PR.ok (.int 4)) fun a b => outS (oMulU a b)) (PR.ok []))).bind tupF) (aconsP ((aconsP ((aconsP ((aconsP (PR.ok (.str "get")) (aconsP (PR.ok (.str "x")) (aconsP (PR.ok (.str "r")) (PR.ok [])))).bind tupF) (PR.ok [])).bind tupF) (aconsP ((aconsP ((aconsP (PR.ok (.str "get")) (aconsP (PR.ok (.str "x")) (aconsP (PR.ok (.str "r")) (PR.ok [])))).bind tupF) (PR.ok [])).bind tupF) (PR.ok []))).bind tupF) (aconsP ((aconsP ((aconsP ((aconsP (PR.ok (.str "put")) (aconsP (o2 (PR.ok (.str "a")) (PR.ok (.int 16)) fun a b => outR (oMulV a b)) (aconsP (PR.ok (.int 9)) (PR.ok [])))).bind tupF) (aconsP ((aconsP (PR.ok (.str "put")) (aconsP (PR.ok (.str "a")) (aconsP (PR.ok (.int 0)) (PR.ok [])))).bind tupF) (PR.ok []))).bind tupF) (PR.ok [])).bind tupF) (PR.ok []))))))).bind lstF)) fun good_10 =>  (ifD (orD (PQ (tstP (o2 (mcompP ((PR.ok good_10).bind seqF) (fun x_11 => (stP (notP (tstP ((aconsP ((aconsP (PR.ok x_11) (PR.ok [])).bind fun ds => (A_is_program ds).noe) (aconsP (PR.ok (.bool true)) (PR.ok []))).bind fun ds => (A__law_says ds).noe))) (PR.ok x_11)))) ((PR.ok []).bind lstF) fun a b => outS (oNe a b)))) (tstD (b2 (mcompD (bD (bD (PQ (aconsP (PR.ok j_9) (PR.ok []))) fun ds => nD (A__law_odd ds)) fun a => PQ (seqF a)) (fun d => PQ ((fun x_12 => (stP (tstP (o2 ((aconsP (PR.ok x_12) (PR.ok [])).bind fun ds => (A_is_program ds).noe) (PR.ok (.bool false)) fun a b => outS ((oIs true) a b))) (PR.ok x_12))) d))) (PQ ((PR.ok []).bind lstF)) fun a b => outS (oNe a b))))  (PQ (PR.ok (.bool false)))  (bD (PQ ((PR.ok []).bind lstF)) fun names_13 =>  (bD (PQ ((PR.ok []).bind lstF)) fun places_14 =>  (bD (PQ ((o1 (PR.ok j_9) fun a => outS (oLen a)).bind rng1F)) fun l_106 => (bD (foldD (fun d_28 (s_27 : PyData × PyData) =>  (PQ ((o2 (PR.ok s_27.1) (mcompP ((o2 (PR.ok j_9) (PR.ok d_28) fun a b => outS (oIx a b)).bind seqF) (fun x_29 => (stP (tstP (o2 (o2 (PR.ok x_29) (PR.ok (.int 0)) fun a b => outS (oIx a b)) ((aconsP (PR.ok (.str "get")) (aconsP (PR.ok (.str "swap")) (PR.ok []))).bind tupF) fun a b => outS ((oIn false) a b))) ((aconsP (PR.ok d_28) (aconsP (o2 (PR.ok x_29) (o1 (PR.ok (.int 1)) fun a => outS ((oI1 fun i => -i) a)) fun a b => outS (oIx a b)) (PR.ok []))).bind tupF)))) fun a b => outR (oAdd a b)).bind fun names_30 =>  ((o2 (PR.ok s_27.2) (mcompP ((PR.ok (.int 1)).bind fun a => (o1 (o2 (PR.ok j_9) (PR.ok d_28) fun a b => outS (oIx a b)) fun a => outS (oLen a)).bind fun b => rng2F a b) (fun x_31 => (st1 ((aconsP (PR.ok d_28) (aconsP (PR.ok x_31) (PR.ok []))).bind tupF)))) fun a b => outR (oAdd a b)).bind fun places_32 =>  (PR.ok (names_30, places_32)))))) l_106 (names_13, places_14)) fun (s_33 : PyData × PyData) => (ifD (PQ (notP (tstP ((aconsP ((aconsP ((aconsP (PR.ok j_9) (PR.ok [])).bind fun ds => (A_registers ds).noe) (aconsP ((aconsP (PR.ok j_9) (PR.ok [])).bind fun ds => (A_gaps ds).noe) (PR.ok []))).bind lstF) (aconsP ((aconsP (o1 (PR.ok s_33.1) fun a => outL (oSorted a)) (aconsP (PR.ok s_33.2) (PR.ok []))).bind lstF) (PR.ok []))).bind fun ds => (A__law_alike ds).noe))))  (PQ (PR.ok (.bool false)))  (bD (PQ ((PR.ok (.int 3)).bind rng1F)) fun l_105 => (bD (loopD (fun d_85 (s_84 : Unit) =>  (bD (b1 (mcompD (PQ ((PR.ok s_33.2).bind seqF)) (fun x_86 => (stD (tstD (b2 (bD (PQ (aconsP (PR.ok (.int 2)) (PR.ok []))) fun ds => nD (A__law_take ds)) (PQ (PR.ok (.int 0))) fun a b => outS (oEq a b))) (PQ (PR.ok x_86))))) fun a => outS (oTuple a)) fun some_87 =>  (PQ (((PR.ok []).bind lstF).bind fun rows_88 =>  (PR.bind ((o1 (PR.ok j_9) fun a => outS (oLen a)).bind rng1F) fun l_103 => (PR.bind (foldP (fun d_90 (s_89 : PyData) =>  (((PR.ok []).bind tupF).bind fun row_91 =>  (PR.bind ((o1 (o2 (PR.ok j_9) (PR.ok d_90) fun a b => outS (oIx a b)) fun a => outS (oLen a)).bind rng1F) fun l_101 => (PR.bind (foldP (fun d_96 (s_95 : PyData) =>  ((o2 (o2 (PR.ok s_95) (o2 ((aconsP ((aconsP (PR.ok (.str "fence")) (PR.ok [])).bind tupF) (PR.ok [])).bind tupF) (o1 (o2 ((aconsP (PR.ok d_90) (aconsP (PR.ok d_96) (PR.ok []))).bind tupF) (PR.ok some_87) fun a b => outS ((oInS false) a b)) fun a => outS (oIntB a)) fun a b => outS (oMulU a b)) fun a b => outR (oAdd a b)) ((aconsP (o2 (o2 (PR.ok j_9) (PR.ok d_90) fun a b => outS (oIx a b)) (PR.ok d_96) fun a b => outS (oIx a b)) (PR.ok [])).bind tupF) fun a b => outR (oAdd a b)).bind fun row_97 =>  (PR.ok row_97))) l_101 row_91) fun (s_98 : PyData) => ((PR.ok s_98).bind fun y_100 => (appF s_89 y_100).bind fun rows_99 =>  (PR.ok rows_99)))))) l_103 rows_88) fun (s_102 : PyData) => (ifP (orP (notP (tstP ((aconsP ((aconsP (PR.ok j_9) (aconsP (PR.ok some_87) (PR.ok []))).bind fun ds => (A_fenced ds).noe) (aconsP (o1 (PR.ok s_102) fun a => outS (oTuple a)) (PR.ok []))).bind fun ds => (A__law_alike ds).noe))) (tstP (o2 ((aconsP ((aconsP (PR.ok j_9) (aconsP (PR.ok some_87) (PR.ok []))).bind fun ds => (A_fenced ds).noe) (PR.ok [])).bind fun ds => (A_registers ds).noe) (o1 (PR.ok s_33.1) fun a => outL (oSorted a)) fun a b => outS (oNe a b))))  ((PR.ok (.bool false)).bind fun r => PR.ok (LR.rt r))  (PR.ok (LR.nx ()))))))))) l_105 ()) (aftD (fun (s_104 : Unit) => (PQ ((aconsP ((aconsP (PR.ok j_9) (aconsP ((PR.ok []).bind tupF) (PR.ok []))).bind fun ds => (A_fenced ds).noe) (aconsP (PR.ok j_9) (PR.ok []))).bind fun ds => (A__law_alike ds).noe))) (fun r => r))))))))))))))
def A_law : List PyData → Dm PyData
  | [script_1] => P_law script_1
  | _ => PQ .bad
theorem q_law : FnD VW 1 F_law A_law := fnD_of (n := 15) (m := m_law) (fun ds Qd h => (match ds, h with | [_], _ => rfl | [], h => h.elim | _ :: _ :: _, h => h.elim)) fun ds hl => match ds, hl with | [script_1], _ => (show RS [(.shd script_1), .pl, .pl, .pl, .pl, .pl, .pl, .pl, .pl, .pl, .pl, .pl, .pl, .pl, .pl] m_law (P_law script_1) (PF VW) from
 (RS_asg (i := 1) (L := ([] : List Nat)) (J_callW q__law_draws (J_consP (J_shd (i := 0) rfl) J_nil)) v_owv rfl fun u_2 => (RS_asg (i := 2) (L := ([1] : List Nat)) (J_callI q__law_program (i := 1) rfl (.inr rfl) (by decide) (J_consP J_cst J_nil)) v_val rfl fun program_3 => (RS_bind (Gs := (fun (j_9 : PyData) => [(.shd script_1), (.owv DS), (.val j_9), .pl, .pl, .pl, .pl, .pl, .pl, .pl, .pl, .pl, .pl, .pl, .pl])) (RS_end (RS_ifP (L := ([] : List Nat)) (J_tstP (J_fz (fun _ _ => vs_vw) (J_op2P (L2 := ([] : List Nat)) ov_s (JO_d (J_fz (fun _ _ => vl_vw) (J_compP (vs := [3]) (J_rng1P (J_fz (fun _ _ => vs_vw) (J_op1P ov_s (JO_val (i := 2) rfl)))) rfl (fun x_4 => J_stepN (i := 3) rfl (by decide) (J2_tailP rfl rfl (by decide) (J_tstP (J_fz (fun _ _ => vs_vw) (J_op2P (L2 := ([] : List Nat)) ov_s (JO_d (J_fz (fun _ _ => vs_vw) (J_op1P ov_s (JO_d (J_fz (fun _ _ => vs_vw) (J_op2P (L2 := ([] : List Nat)) ov_s (JO_val (i := 2) rfl) (JO_shd (i := 3) rfl) (fun _ h => nomatch h) (fun _ h => nomatch h))))))) (JO_d J_cst) (fun _ h => nomatch h) (fun _ h => nomatch h)))) (J_shd (i := 3) rfl)))))) (JO_d (J_fz (fun _ _ => vl_vw) (J_lstP J_nil))) (fun _ h => nomatch h) (fun _ h => nomatch h))))  (RS_asgP (i := 2) (L := ([] : List Nat)) (J_op1P ov_s (JO_d (J_fz (fun _ _ => vl_vw) (J_compP (vs := [4]) (J_seqP (J_val (i := 2) rfl)) rfl (fun x_7 => J_stepN (i := 4) rfl (by decide) (J2_tail1P rfl rfl (by decide) (J_fz (fun _ _ h => h) (J_slcP (L2 := ([] : List Nat)) ov_w (JO_shd (i := 4) rfl) J_pno (J_psoP (JO_d J_cst)) (fun _ h => nomatch h) (fun _ h => nomatch h))))))))) v_shd rfl fun program_8 => (RS_nx fun en he => ⟨rfl, er_sub (.cons s_rf (.cons s_rf (.cons s_hv (.cons s_rf (.cons s_rf (.cons s_rf (.cons s_rf (.cons s_rf (.cons s_rf (.cons s_rf (.cons s_rf (.cons s_rf (.cons s_rf (.cons s_rf (.cons s_rf .nil))))))))))))))) he⟩))  (RS_eq (mseq_nx _) (RS_nx fun en he => ⟨rfl, er_sub (.cons s_rf (.cons s_rf (.cons s_rf (.cons s_rf (.cons s_rf (.cons s_rf (.cons s_rf (.cons s_rf (.cons s_rf (.cons s_rf (.cons s_rf (.cons s_rf (.cons s_rf (.cons s_rf (.cons s_rf .nil))))))))))))))) he⟩)))) fun j_9 => (RS_asg (i := 5) (L := ([] : List Nat)) (J_lstP (J_consP (J_val (i := 2) rfl) (J_consP (J_tupP (J_consP (J_tupP J_nil) J_nil)) (J_consP (J_tupP (J_consP (J_tupP J_nil) (J_consP (J_tupP J_nil) (J_consP (J_tupP J_nil) J_nil)))) (J_consP (J_tupP (J_consP (J_fz (fun _ _ => vs_vw) (J_op2P (L2 := ([] : List Nat)) ov_s (JO_d (J_tupP (J_consP (J_tupP (J_consP J_cst J_nil)) J_nil))) (JO_d J_cst) (fun _ h => nomatch h) (fun _ h => nomatch h))) (J_consP (J_fz (fun _ _ => vs_vw) (J_op2P (L2 := ([] : List Nat)) ov_s (JO_d (J_tupP (J_consP (J_tupP (J_consP J_cst J_nil)) J_nil))) (JO_d J_cst) (fun _ h => nomatch h) (fun _ h => nomatch h))) J_nil))) (J_consP (J_tupP (J_consP (J_tupP (J_consP (J_tupP (J_consP J_cst (J_consP J_cst (J_consP J_cst J_nil)))) J_nil)) (J_consP (J_tupP (J_consP (J_tupP (J_consP J_cst (J_consP J_cst (J_consP J_cst J_nil)))) J_nil)) J_nil))) (J_consP (J_tupP (J_consP (J_tupP (J_consP (J_tupP (J_consP J_cst (J_consP (J_fz (fun _ _ h => h) (J_op2P (L2 := ([] : List Nat)) ov_w (JO_d J_cst) (JO_d J_cst) (fun _ h => nomatch h) (fun _ h => nomatch h))) (J_consP J_cst J_nil)))) (J_consP (J_tupP (J_consP J_cst (J_consP J_cst (J_consP J_cst J_nil)))) J_nil))) J_nil)) J_nil))))))) v_ownl rfl fun good_10 => (RS_sub (.cons s_rf (.cons s_rf (.cons s_rf (.cons s_rf (.cons s_rf (.cons s_lv (.cons s_rf (.cons s_rf (.cons s_rf (.cons s_rf (.cons s_rf (.cons s_rf (.cons s_rf (.cons s_rf (.cons s_rf .nil))))))))))))))) (RS_if (L := ([1] : List Nat)) (J_or (J_tstP (J_fz (fun _ _ => vs_vw) (J_op2P (L2 := ([] : List Nat)) ov_s (JO_d (J_fz (fun _ _ => vl_vw) (J_compP (vs := [6]) (J_seqP (J_val (i := 5) rfl)) rfl (fun x_11 => J_stepN (i := 6) rfl (by decide) (J2_tailP rfl rfl (by decide) (J_notP (J_tstP (J_fz (fun _ _ h => h) (J_callP q__law_says (J_consP (J_fz (fun _ _ h => h) (J_callP q_is_program (J_consP (J_shd (i := 6) rfl) J_nil))) (J_consP J_cst J_nil)))))) (J_shd (i := 6) rfl)))))) (JO_d (J_fz (fun _ _ => vl_vw) (J_lstP J_nil))) (fun _ h => nomatch h) (fun _ h => nomatch h)))) (J_tst (J_fz (fun _ _ => vs_vw) (J_op2 (L2 := ([] : List Nat)) ov_s (JO_d (J_fz (fun _ _ => vl_vw) (J_comp (vs := [6]) (J_seq (J_fz (fun _ _ h => h) (J_callI q__law_odd (i := 1) rfl (.inr rfl) (by decide) (J_consP (J_val (i := 2) rfl) J_nil)))) rfl (fun x_12 => J_stepN (i := 6) rfl (by decide) (J2_tailP rfl rfl (by decide) (J_tstP (J_fz (fun _ _ => vs_vw) (J_op2P (L2 := ([] : List Nat)) ov_s (JO_d (J_fz (fun _ _ h => h) (J_callP q_is_program (J_consP (J_shd (i := 6) rfl) J_nil)))) (JO_d J_cst) (fun _ h => nomatch h) (fun _ h => nomatch h)))) (J_shd (i := 6) rfl)))))) (JO_d (J_fz (fun _ _ => vl_vw) (J_lstP J_nil))) (fun _ h => nomatch h) (fun _ h => nomatch h)))))  (RS_eq (mseq_mret _ _) (RS_ret0 (L := ([] : List Nat)) (J_weak (J_shV J_cst) fun _ _ => vs_vw) (fun r x en hv he => pf_rt r x en hv he)))  (RS_eq (mseq_nx _) (RS_asg (i := 7) (L := ([] : List Nat)) (J_lstP J_nil) v_ownl rfl fun names_13 => (RS_asg (i := 8) (L := ([] : List Nat)) (J_lstP J_nil) v_ownl rfl fun places_14 => (RS_forN (i := 3) (L := ([] : List Nat)) (Gs := (fun (s_27 : PyData × PyData) => [(.shd script_1), (.owv DS), (.val j_9), .pl, .pl, (.val good_10), .pl, (.val s_27.1), (.val s_27.2), .pl, .pl, .pl, .pl, .pl, .pl])) (names_13, places_14) (J_rng1P (J_fz (fun _ _ => vs_vw) (J_op1P ov_s (JO_val (i := 2) rfl)))) (.cons s_rf (.cons s_rf (.cons s_rf (.cons s_rf (.cons s_rf (.cons s_rf (.cons s_rf (.cons s_lv (.cons s_lv (.cons s_rf (.cons s_rf (.cons s_rf (.cons s_rf (.cons s_rf (.cons s_rf .nil))))))))))))))) (fun _ => rfl) (fun d_28 s_27 => (RS_asgP (i := 7) (L := ([] : List Nat)) (J_op2P (L2 := ([] : List Nat)) ov_w (JO_val (i := 7) rfl) (JO_d (J_fz (fun _ _ => vl_vw) (J_compP (vs := [9]) (J_seqP (J_fz (fun _ _ => vs_vw) (J_op2P (L2 := ([] : List Nat)) ov_s (JO_val (i := 2) rfl) (JO_shd (i := 3) rfl) (fun _ h => nomatch h) (fun _ h => nomatch h)))) rfl (fun x_29 => J_stepN (i := 9) rfl (by decide) (J2_tailP rfl rfl (by decide) (J_tstP (J_fz (fun _ _ => vs_vw) (J_op2P (L2 := ([] : List Nat)) ov_s (JO_d (J_fz (fun _ _ => vs_vw) (J_op2P (L2 := ([] : List Nat)) ov_s (JO_shd (i := 9) rfl) (JO_d J_cst) (fun _ h => nomatch h) (fun _ h => nomatch h)))) (JO_d (J_tupP (J_consP J_cst (J_consP J_cst J_nil)))) (fun _ h => nomatch h) (fun _ h => nomatch h)))) (J_tupP (J_consP (J_shd (i := 3) rfl) (J_consP (J_fz (fun _ _ => vs_vw) (J_op2P (L2 := ([] : List Nat)) ov_s (JO_shd (i := 9) rfl) (JO_d (J_fz (fun _ _ => vs_vw) (J_op1P ov_s (JO_d J_cst)))) (fun _ h => nomatch h) (fun _ h => nomatch h))) J_nil)))))))) (fun _ h => nomatch h) (fun _ h => nomatch h)) v_val rfl fun names_30 => (RS_end (RS_asgP (i := 8) (L := ([] : List Nat)) (J_op2P (L2 := ([] : List Nat)) ov_w (JO_val (i := 8) rfl) (JO_d (J_fz (fun _ _ => vl_vw) (J_compP (vs := [10]) (J_rng2P J_cst (J_fz (fun _ _ => vs_vw) (J_op1P ov_s (JO_d (J_fz (fun _ _ => vs_vw) (J_op2P (L2 := ([] : List Nat)) ov_s (JO_val (i := 2) rfl) (JO_shd (i := 3) rfl) (fun _ h => nomatch h) (fun _ h => nomatch h))))))) rfl (fun x_31 => J_stepN (i := 10) rfl (by decide) (J2_tail1P rfl rfl (by decide) (J_tupP (J_consP (J_shd (i := 3) rfl) (J_consP (J_shd (i := 10) rfl) J_nil)))))))) (fun _ h => nomatch h) (fun _ h => nomatch h)) v_val rfl fun places_32 => (RS_nx fun en he => ⟨.inl rfl, er_sub (.cons s_rf (.cons s_rf (.cons s_rf (.cons s_hp (.cons s_rf (.cons s_rf (.cons s_rf (.cons s_rf (.cons s_rf (.cons s_rf (.cons s_rf (.cons s_rf (.cons s_rf (.cons s_rf (.cons s_rf .nil))))))))))))))) he⟩))))) (fun s_33 => (RS_if (L := ([] : List Nat)) (J_notP (J_tstP (J_fz (fun _ _ h => h) (J_callP q__law_alike (J_consP (J_fz (fun _ _ => vl_vw) (J_lstP (J_consP (J_fz (fun _ _ => vl_vw) (J_callP q_registers (J_consP (J_val (i := 2) rfl) J_nil))) (J_consP (J_fz (fun _ _ h => h) (J_callP q_gaps (J_consP (J_val (i := 2) rfl) J_nil))) J_nil)))) (J_consP (J_fz (fun _ _ => vl_vw) (J_lstP (J_consP (J_fz (fun _ _ => vl_vw) (J_op1P ov_l (JO_val (i := 7) rfl))) (J_consP (J_val (i := 8) rfl) J_nil)))) J_nil))))))  (RS_eq (mseq_mret _ _) (RS_ret0 (L := ([] : List Nat)) (J_weak (J_shV J_cst) fun _ _ => vs_vw) (fun r x en hv he => pf_rt r x en hv he)))  (RS_eq (mseq_nx _) (RS_forLN (i := 11) (PF := (PF VW)) (inj := (fun r => r)) (L := ([] : List Nat)) (Gs := (fun (s_84 : Unit) => [(.shd script_1), (.owv DS), (.val j_9), .pl, .any, (.val good_10), .pl, (.val s_33.1), (.val s_33.2), .pl, .pl, .pl, .pl, .pl, .any])) () (J_rng1P J_cst) (.cons s_rf (.cons s_rf (.cons s_rf (.cons s_rf (.cons s_pa (.cons s_rf (.cons s_rf (.cons s_rf (.cons s_rf (.cons s_rf (.cons s_rf (.cons s_rf (.cons s_rf (.cons s_rf (.cons s_pa .nil))))))))))))))) (fun _ => rfl) (fun d_85 s_84 => (RS_asg (i := 12) (L := ([1] : List Nat)) (J_op1 ov_s (JO_d (J_fz (fun _ _ => vl_vw) (J_comp (vs := [13]) (J_seqP (J_val (i := 8) rfl)) rfl (fun x_86 => J_stepN (i := 13) rfl (by decide) (J2_tail rfl rfl (by decide) (J_tst (J_fz (fun _ _ => vs_vw) (J_op2 (L2 := ([] : List Nat)) ov_s (JO_d (J_fz (fun _ _ h => h) (J_callI q__law_take (i := 1) rfl (.inr rfl) (by decide) (J_consP J_cst J_nil)))) (JO_d J_cst) (fun _ h => nomatch h) (fun _ h => nomatch h)))) (J_shd (i := 13) rfl))))))) v_shd rfl fun some_87 => (RS_asgP (i := 14) (L := ([] : List Nat)) (J_lstP J_nil) v_ownl rfl fun rows_88 => (RS_forNP (i := 3) (L := ([] : List Nat)) (Gs := (fun (s_89 : PyData) => [(.shd script_1), (.owv DS), (.val j_9), .pl, .any, (.val good_10), .pl, (.val s_33.1), (.val s_33.2), .pl, .pl, (.shd d_85), (.shd some_87), .pl, (.ownl s_89)])) rows_88 (J_rng1P (J_fz (fun _ _ => vs_vw) (J_op1P ov_s (JO_val (i := 2) rfl)))) (.cons s_rf (.cons s_rf (.cons s_rf (.cons s_rf (.cons s_rf (.cons s_rf (.cons s_rf (.cons s_rf (.cons s_rf (.cons s_rf (.cons s_rf (.cons s_rf (.cons s_rf (.cons s_rf (.cons s_rf .nil))))))))))))))) (fun _ => rfl) (fun d_90 s_89 => (RS_asgP (i := 4) (L := ([] : List Nat)) (J_shV (J_tupP J_nil)) v_shd rfl fun row_91 => (RS_forNP (i := 10) (L := ([] : List Nat)) (Gs := (fun (s_95 : PyData) => [(.shd script_1), (.owv DS), (.val j_9), (.shd d_90), (.val s_95), (.val good_10), .pl, (.val s_33.1), (.val s_33.2), .pl, .pl, (.shd d_85), (.shd some_87), .pl, (.ownl s_89)])) row_91 (J_rng1P (J_fz (fun _ _ => vs_vw) (J_op1P ov_s (JO_d (J_fz (fun _ _ => vs_vw) (J_op2P (L2 := ([] : List Nat)) ov_s (JO_val (i := 2) rfl) (JO_shd (i := 3) rfl) (fun _ h => nomatch h) (fun _ h => nomatch h))))))) (.cons s_rf (.cons s_rf (.cons s_rf (.cons s_rf (.cons s_hv (.cons s_rf (.cons s_rf (.cons s_rf (.cons s_rf (.cons s_rf (.cons s_rf (.cons s_rf (.cons s_rf (.cons s_rf (.cons s_rf .nil))))))))))))))) (fun _ => rfl) (fun d_96 s_95 => (RS_end (RS_asgP (i := 4) (L := ([] : List Nat)) (J_op2P (L2 := ([] : List Nat)) ov_w (JO_d (J_fz (fun _ _ h => h) (J_op2P (L2 := ([] : List Nat)) ov_w (JO_val (i := 4) rfl) (JO_d (J_fz (fun _ _ => vs_vw) (J_op2P (L2 := ([] : List Nat)) ov_s (JO_d (J_tupP (J_consP (J_tupP (J_consP J_cst J_nil)) J_nil))) (JO_d (J_fz (fun _ _ => vs_vw) (J_op1P ov_s (JO_d (J_fz (fun _ _ => vs_vw) (J_op2P (L2 := ([] : List Nat)) ov_s (JO_d (J_tupP (J_consP (J_shd (i := 3) rfl) (J_consP (J_shd (i := 10) rfl) J_nil)))) (JO_shd (i := 12) rfl) (fun _ h => nomatch h) (fun _ h => nomatch h))))))) (fun _ h => nomatch h) (fun _ h => nomatch h)))) (fun _ h => nomatch h) (fun _ h => nomatch h)))) (JO_d (J_tupP (J_consP (J_fz (fun _ _ => vs_vw) (J_op2P (L2 := ([] : List Nat)) ov_s (JO_d (J_fz (fun _ _ => vs_vw) (J_op2P (L2 := ([] : List Nat)) ov_s (JO_val (i := 2) rfl) (JO_shd (i := 3) rfl) (fun _ h => nomatch h) (fun _ h => nomatch h)))) (JO_shd (i := 10) rfl) (fun _ h => nomatch h) (fun _ h => nomatch h))) J_nil))) (fun _ h => nomatch h) (fun _ h => nomatch h)) v_val rfl fun row_97 => (RS_nx fun en he => ⟨.inl rfl, er_sub (.cons s_rf (.cons s_rf (.cons s_rf (.cons s_rf (.cons s_rf (.cons s_rf (.cons s_rf (.cons s_rf (.cons s_rf (.cons s_rf (.cons s_hp (.cons s_rf (.cons s_rf (.cons s_rf (.cons s_rf .nil))))))))))))))) he⟩)))) (fun s_98 => (RS_end (RS_appP (i := 14) (L := ([] : List Nat)) rfl (J_val (i := 4) rfl) fun rows_99 => (RS_nx fun en he => ⟨.inl rfl, er_sub (.cons s_rf (.cons s_rf (.cons s_rf (.cons s_hp (.cons s_va (.cons s_rf (.cons s_rf (.cons s_rf (.cons s_rf (.cons s_rf (.cons s_rf (.cons s_rf (.cons s_rf (.cons s_rf (.cons s_rf .nil))))))))))))))) he⟩))))))) (fun s_102 => (RS_end (RS_ifP (L := ([] : List Nat)) (J_orP (J_notP (J_tstP (J_fz (fun _ _ h => h) (J_callP q__law_alike (J_consP (J_fz (fun _ _ h => h) (J_callP q_fenced (J_consP (J_val (i := 2) rfl) (J_consP (J_shd (i := 12) rfl) J_nil)))) (J_consP (J_fz (fun _ _ => vs_vw) (J_op1P ov_s (JO_ownl (i := 14) rfl))) J_nil)))))) (J_tstP (J_fz (fun _ _ => vs_vw) (J_op2P (L2 := ([] : List Nat)) ov_s (JO_d (J_fz (fun _ _ => vl_vw) (J_callP q_registers (J_consP (J_fz (fun _ _ h => h) (J_callP q_fenced (J_consP (J_val (i := 2) rfl) (J_consP (J_shd (i := 12) rfl) J_nil)))) J_nil)))) (JO_d (J_fz (fun _ _ => vl_vw) (J_op1P ov_l (JO_val (i := 7) rfl)))) (fun _ h => nomatch h) (fun _ h => nomatch h)))))  (RS_eq (mseq_mret _ _) (RS_retP (L := ([] : List Nat)) (inj := LR.rt) (J_weak (J_shV J_cst) fun _ _ => vs_vw) (fun r x en hv he => ⟨⟨_, rfl⟩, pf_rt r x en hv he⟩)))  (RS_eq (mseq_nx _) (RS_nx fun en he => ⟨.inl rfl, er_sub (.cons s_rf (.cons s_rf (.cons s_rf (.cons s_rf (.cons s_rf (.cons s_rf (.cons s_rf (.cons s_rf (.cons s_rf (.cons s_rf (.cons s_rf (.cons s_hp (.cons s_hp (.cons s_rf (.cons s_la .nil))))))))))))))) he⟩))))))))) (fun s_104 => (RS_ret0 (L := ([] : List Nat)) (J_callP q__law_alike (J_consP (J_fz (fun _ _ h => h) (J_callP q_fenced (J_consP (J_val (i := 2) rfl) (J_consP (J_tupP J_nil) J_nil)))) (J_consP (J_val (i := 2) rfl) J_nil))) (fun r x en hv he => pf_rt r x en hv he))) (fun r x en h => h))))))))))))))))
end Q43

namespace Q43
open PySem ZD ZP
theorem oEq_ss {x y : Str} (hx : PyData.strOk x = true) (hy : PyData.strOk y = true) : oEq (.str x) (.str y) = .d (.bool (x == y)) := by
  rw [oEq_of (n := 0) (m := 0) (by rw [shN_s]; exact hx) (by rw [shN_s]; exact hy) (by decide) (by decide), PyData.eqv]
@[simp] theorem ix0 (a : PyData) (r : List PyData) : oIx (.tuple (a :: r)) (.int 0) = .d a := oIx_t (by decide) (id rfl)
@[simp] theorem ix1 (a b : PyData) (r : List PyData) : oIx (.tuple (a :: b :: r)) (.int 1) = .d b := oIx_t (by decide) (id rfl)
@[simp] theorem ix2 (a b c : PyData) (r : List PyData) : oIx (.tuple (a :: b :: c :: r)) (.int 2) = .d c := oIx_t (by decide) (id rfl)
@[simp] theorem ix3 (a b c d : PyData) (r : List PyData) : oIx (.tuple (a :: b :: c :: d :: r)) (.int 3) = .d d := oIx_t (by decide) (id rfl)
@[simp] theorem ixm3 (a b c : PyData) : oIx (.tuple [a, b, c]) (.int (-1)) = .d c := id rfl
@[simp] theorem ixm4 (a b c d : PyData) : oIx (.tuple [a, b, c, d]) (.int (-1)) = .d d := id rfl
@[simp] theorem ixm1 (a : PyData) : oIx (.tuple [a]) (.int (-1)) = .d a := id rfl
@[simp] theorem e_pp : oEq (.str "put") (.str "put") = .d (.bool true) := (oEq_ss (by decide +kernel) (by decide +kernel)).trans (congrArg (fun b => Out.d (.bool b)) (by decide +kernel))
@[simp] theorem e_gp : oEq (.str "get") (.str "put") = .d (.bool false) := (oEq_ss (by decide +kernel) (by decide +kernel)).trans (congrArg (fun b => Out.d (.bool b)) (by decide +kernel))
@[simp] theorem e_gg : oEq (.str "get") (.str "get") = .d (.bool true) := (oEq_ss (by decide +kernel) (by decide +kernel)).trans (congrArg (fun b => Out.d (.bool b)) (by decide +kernel))
@[simp] theorem e_sp : oEq (.str "swap") (.str "put") = .d (.bool false) := (oEq_ss (by decide +kernel) (by decide +kernel)).trans (congrArg (fun b => Out.d (.bool b)) (by decide +kernel))
@[simp] theorem e_sg : oEq (.str "swap") (.str "get") = .d (.bool false) := (oEq_ss (by decide +kernel) (by decide +kernel)).trans (congrArg (fun b => Out.d (.bool b)) (by decide +kernel))
@[simp] theorem e_ss : oEq (.str "swap") (.str "swap") = .d (.bool true) := (oEq_ss (by decide +kernel) (by decide +kernel)).trans (congrArg (fun b => Out.d (.bool b)) (by decide +kernel))
@[simp] theorem e_fp : oEq (.str "fence") (.str "put") = .d (.bool false) := (oEq_ss (by decide +kernel) (by decide +kernel)).trans (congrArg (fun b => Out.d (.bool b)) (by decide +kernel))
@[simp] theorem e_fg : oEq (.str "fence") (.str "get") = .d (.bool false) := (oEq_ss (by decide +kernel) (by decide +kernel)).trans (congrArg (fun b => Out.d (.bool b)) (by decide +kernel))
@[simp] theorem e_fs : oEq (.str "fence") (.str "swap") = .d (.bool false) := (oEq_ss (by decide +kernel) (by decide +kernel)).trans (congrArg (fun b => Out.d (.bool b)) (by decide +kernel))
@[simp] theorem e_lp : oEq (.str "look") (.str "put") = .d (.bool false) := (oEq_ss (by decide +kernel) (by decide +kernel)).trans (congrArg (fun b => Out.d (.bool b)) (by decide +kernel))
@[simp] theorem e_lg : oEq (.str "look") (.str "get") = .d (.bool false) := (oEq_ss (by decide +kernel) (by decide +kernel)).trans (congrArg (fun b => Out.d (.bool b)) (by decide +kernel))
@[simp] theorem e_ls : oEq (.str "look") (.str "swap") = .d (.bool false) := (oEq_ss (by decide +kernel) (by decide +kernel)).trans (congrArg (fun b => Out.d (.bool b)) (by decide +kernel))
theorem strok_f : PyData.strOk (Str.ofString "fence") = true := by decide +kernel
theorem shT1 : shN 5 (.tuple [.str "fence"]) = true := by simp [strok_f, shN_s]
@[simp] theorem t_ff : oEq (.tuple [.str "fence"]) (.tuple [.str "fence"]) = .d (.bool true) := by
  rw [oEq_of shT1 shT1 (by decide) (by decide)]; simp [PyData.eqv, PyData.eqvAll]
@[simp] theorem t_fx : oEq (.tuple [.str "fence", .str "x"]) (.tuple [.str "fence"]) = .d (.bool false) := by
  rw [oEq_of (n := 5) (by simp [strok_f, shN_s]; decide +kernel) shT1 (by decide) (by decide)]; simp [PyData.eqv, PyData.eqvAll]
@[simp] theorem t_lo : oEq (.tuple [.str "look", .str "x", .str "r"]) (.tuple [.str "fence"]) = .d (.bool false) := by
  rw [oEq_of (n := 5) (by simp [shN_s]; exact ⟨by decide +kernel, by decide +kernel, by decide +kernel⟩) shT1 (by decide) (by decide)]; simp [PyData.eqv, PyData.eqvAll]
inductive Cmd | put (c : Fin 3) (v : Fin 3) | get (c : Fin 3) (r : Fin 4) | swap (c : Fin 3) (v : Fin 10) (r : Fin 4) | fence
def cellS : Fin 3 → PyData | 0 => .str "x" | 1 => .str "y" | 2 => .str "zz"
def regS : Fin 4 → PyData | 0 => .str "ra" | 1 => .str "rb" | 2 => .str "rc" | 3 => .str "rd"
def eC : Cmd → PyData
  | .put c v => .tuple [.str "put", cellS c, .int v]
  | .get c r => .tuple [.str "get", cellS c, regS r]
  | .swap c v r => .tuple [.str "swap", cellS c, .int v, regS r]
  | .fence => .tuple [.str "fence"]
theorem nm_cell (c : Fin 3) : A_is_name [cellS c] = .ok (.bool true) := by
  match c with
  | 0 => rfl
  | 1 => rfl
  | 2 => rfl
theorem nm_reg (c : Fin 4) : A_is_name [regS c] = .ok (.bool true) := by
  match c with
  | 0 => rfl
  | 1 => rfl
  | 2 => rfl
  | 3 => rfl
theorem dig (v : Int) (h : 0 ≤ v) (h2 : v ≤ 9) : A_is_digit [.int v] = .ok (.bool true) := by
  simp [A_is_digit, P_is_digit, isiInt, isiBool, h, h2]
theorem cmd_ok (c : Cmd) : A_is_command [eC c] = .ok (.bool true) := by
  cases c with
  | put c v => simp [A_is_command, P_is_command, eC, isiTup, isiStr, nm_cell, dig v (by omega) (by omega)]
  | get c r => simp [A_is_command, P_is_command, eC, isiTup, isiStr, nm_cell, nm_reg]
  | swap c v r => simp [A_is_command, P_is_command, eC, isiTup, isiStr, nm_cell, nm_reg, dig v (by omega) (by omega)]
  | fence => simp [A_is_command, P_is_command, eC, isiTup, isiStr]
def odds : List PyData := [.tuple [.str "put", .str "x", .int 10], .tuple [.str "put", .str "x", .int (-1)], .tuple [.str "put", .str "x", .bool true], .tuple [.str "put", .str "X", .int 1], .tuple [.str "put", .str "x"], .tuple [.str "put", .str "x", .int 1, .int 1], .tuple [.str "put", .str "x", .none], .tuple [.str "get", .str "x", .str ""], .tuple [.str "get", .str "x", .int 1],
  .tuple [.str "get", .str "x"], .tuple [.str "get", .int 1, .str "r"]]
def odds2 : List PyData := [.tuple [.str "swap", .str "x", .int 1], .tuple [.str "swap", .str "x", .int 10, .str "r"], .tuple [.str "swap", .str "x", .int 1, .str "R"], .tuple [.str "fence", .str "x"], .tuple [], .tuple [.str "look", .str "x", .str "r"], .none, .str "fence", .list [.str "fence"], .tuple [.str "get", .str (strRep "x" 17), .str "r"]]
theorem nm_x : A_is_name [.str "x"] = .ok (.bool true) := by rfl
theorem nm_X : A_is_name [.str "X"] = .ok (.bool false) := by rfl
theorem nm_R : A_is_name [.str "R"] = .ok (.bool false) := by rfl
theorem nm_r : A_is_name [.str "r"] = .ok (.bool true) := by rfl
theorem nm_e : A_is_name [.str ""] = .ok (.bool false) := by rfl
theorem nm_1 : A_is_name [.int 1] = .ok (.bool false) := by rfl
theorem nm_l : A_is_name [.str (strRep "x" 17)] = .ok (.bool false) := by rfl
theorem dg_10 : A_is_digit [.int 10] = .ok (.bool false) := by rfl
theorem dg_m : A_is_digit [.int (-1)] = .ok (.bool false) := by rfl
theorem dg_1 : A_is_digit [.int 1] = .ok (.bool true) := by rfl
theorem dg_b : A_is_digit [.bool true] = .ok (.bool false) := by rfl
theorem dg_n : A_is_digit [.none] = .ok (.bool false) := by rfl
theorem odds_no : ∀ d ∈ odds, A_is_command [d] = .ok (.bool false) := by
  intro d hd
  simp only [odds, List.mem_cons, List.not_mem_nil, or_false] at hd
  rcases hd with rfl | rfl | rfl | rfl | rfl | rfl | rfl | rfl | rfl | rfl | rfl <;>
    simp [A_is_command, P_is_command, isiTup, isiStr, nm_x, nm_X, nm_e, nm_1, dg_10, dg_m, dg_b, dg_n]
theorem odds2_no : ∀ d ∈ odds2, A_is_command [d] = .ok (.bool false) := by
  intro d hd
  simp only [odds2, List.mem_cons, List.not_mem_nil, or_false] at hd
  rcases hd with rfl | rfl | rfl | rfl | rfl | rfl | rfl | rfl | rfl | rfl <;>
    simp [A_is_command, P_is_command, isiTup, isiStr, nm_x, nm_R, nm_l, dg_10, dg_1]
end Q43

namespace Q43
open PySem ZD ZP
def regZ : Fin 4 → Str | 0 => "ra" | 1 => "rb" | 2 => "rc" | 3 => "rd"
theorem regS_z (r : Fin 4) : regS r = .str (regZ r) := by
  match r with
  | 0 => rfl
  | 1 => rfl
  | 2 => rfl
  | 3 => rfl
theorem regZ_inj : ∀ a b : Fin 4, regZ a = regZ b → a = b := by decide +kernel
def rg : Cmd → Option (Fin 4)
  | .get _ r => some r
  | .swap _ _ r => some r
  | _ => none
def GS : PyData := .tuple [.str "get", .str "swap"]
theorem in_any (x : Str) (b : Bool) (h : ((x == Str.ofString "get") || (x == Str.ofString "swap")) = b) (h1 : (Str.ofString "get" == x) = (x == Str.ofString "get")) (h2 : (Str.ofString "swap" == x) = (x == Str.ofString "swap")) : oIn false (.str x) GS = .d (.bool b) := by
  show inD false (.str x) [.str "get", .str "swap"] = _
  unfold inD
  rw [if_pos (by simp [flatD])]
  simp [PyData.eqv, h1, h2, ← h]
@[simp] theorem in_g : oIn false (.str "get") (.tuple [.str "get", .str "swap"]) = .d (.bool true) := in_any _ _ (by decide +kernel) (by decide +kernel) (by decide +kernel)
@[simp] theorem in_s : oIn false (.str "swap") (.tuple [.str "get", .str "swap"]) = .d (.bool true) := in_any _ _ (by decide +kernel) (by decide +kernel) (by decide +kernel)
@[simp] theorem in_p : oIn false (.str "put") (.tuple [.str "get", .str "swap"]) = .d (.bool false) := in_any _ _ (by decide +kernel) (by decide +kernel) (by decide +kernel)
@[simp] theorem in_f : oIn false (.str "fence") (.tuple [.str "get", .str "swap"]) = .d (.bool false) := in_any _ _ (by decide +kernel) (by decide +kernel) (by decide +kernel)
def eT (t : List Cmd) : PyData := .tuple (t.map eC)
theorem uniq_app (ks : List L2.Key) : ∀ acc : List L2.Key, (acc ++ ks).Nodup → ks.foldl addU acc = acc ++ ks := by
  induction ks with
  | nil => intro acc _; simp
  | cons k ks ih =>
    intro acc h
    rw [List.foldl_cons]
    have hk : k ∉ acc := fun q => by
      rw [List.nodup_append] at h
      exact h.2.2 k q k (by simp) rfl
    have e : addU acc k = acc ++ [k] := if_neg hk
    rw [e, ih (acc ++ [k]) (by simpa using h)]
    simp
theorem uniq_nodup {ks : List L2.Key} (h : ks.Nodup) : uniq ks = ks := by unfold uniq; rw [uniq_app ks [] (by simpa using h)]; simp
theorem keys_reg (l : List (Fin 4)) : keysOf (l.map regS) = some (l.map fun r => .inr (regZ r)) := by
  induction l with
  | nil => rfl
  | cons r l ih =>
    rw [List.map_cons, regS_z]
    unfold keysOf
    rw [ih]
    rfl
theorem lset_reg {l : List (Fin 4)} (h : l.Nodup) : lenSetF (l.map regS) = .ok (.int l.length) := by
  unfold lenSetF
  rw [keys_reg]
  have : (l.map fun r => (Sum.inr (regZ r) : L2.Key)).Nodup := List.Pairwise.map _ (fun a b hab e => hab (regZ_inj a b (Sum.inr.inj e))) h
  simp only
  rw [uniq_nodup this, List.length_map]
theorem names_eq (t : List Cmd) (f : PyData → Fin 4 → PyData) (body : PyData → PR PyData) (hb : ∀ c r, rg c = some r → body (eC c) = .ok (f (eC c) r)) :
    compP (fun x_3 => (stP (tstP (o2 (o2 (PR.ok x_3) (PR.ok (.int 0)) fun a b => outS (oIx a b)) ((aconsP (PR.ok (.str "get")) (aconsP (PR.ok (.str "swap")) (PR.ok []))).bind tupF) fun a b => outS ((oIn false) a b))) (body x_3))) (t.map eC) = .ok ((t.filterMap fun c => (rg c).map fun r => (c, r)).map fun q => f (eC q.1) q.2) := by
  refine compP_m (e2 := fun q : Cmd × Fin 4 => f (eC q.1) q.2) t fun c _ => ?_
  cases c with
  | put c v => simp [eC, rg]
  | fence => simp [eC, rg]
  | get c r => simp only [eC, o2_ok, ix0, outS_d, acons_ok, bind_ok, tupF2, in_g, tstP_ok, stP_t, rg, Option.map]; exact bind_eq (hb (.get c r) r rfl) rfl
  | swap c v r => simp only [eC, o2_ok, ix0, outS_d, acons_ok, bind_ok, tupF2, in_s, tstP_ok, stP_t, rg, Option.map]; exact bind_eq (hb (.swap c v r) r rfl) rfl
theorem fm_snd (t : List Cmd) : (t.filterMap fun c => (rg c).map fun r => (c, r)).map (·.2) = t.filterMap rg := by
  induction t with
  | nil => rfl
  | cons c t ih =>
    rw [List.filterMap_cons, List.filterMap_cons]
    cases rg c with
    | none => exact ih
    | some r => show _ :: _ = _; rw [ih]
theorem thread_ok {t : List Cmd} (hl : t.length ≤ 4) (hn : (t.filterMap rg).Nodup) : A_is_thread [eT t] = .ok (.bool true) := by
  show P_is_thread (eT t) = _
  unfold P_is_thread eT
  have e1 := names_eq t (fun _ r => regS r) (fun x_3 => o2 (PR.ok x_3) (o1 (PR.ok (.int 1)) fun a => outS ((oI1 fun i => -i) a)) fun a b => outS (oIx a b)) fun c r h => by
    cases c with
    | put c v => cases h
    | fence => cases h
    | get c r' => cases h; simp [eC]
    | swap c v r' => cases h; simp [eC]
  have e2 : ((t.filterMap fun c => (rg c).map fun r => (c, r)).map fun q => regS q.2) = (t.filterMap rg).map regS := by
    rw [← fm_snd, List.map_map]; rfl
  rw [e2] at e1
  have a1 : mallP (.ok (t.map eC)) (fun x_2 => (st1 ((aconsP (PR.ok x_2) (PR.ok [])).bind fun ds => (A_is_command ds).noe))) = .ok (.bool true) := by
    refine mall_of ((allP_m (g := fun _ => true) t fun c _ => ?_).trans (by simp))
    simp [cmd_ok]
  have le : (t.filterMap rg).length ≤ t.length := List.length_filterMap_le _ _
  simp only [bind_ok, seqF_t, o1_ok, oTest_d, isiTup, outS_d, tstP_ok, notP_ok, Bool.not_true, orP_f, oLen_t, o2_ok, oGt_i, List.length_map, a1, decide_eq_false (show ¬ (4 : Int) < (t.length : Int) by omega), ifP_ok, Bool.false_eq_true, if_false]
  rw [mcomp_of (by simp; omega) (by simpa only [o2_ok, o1_ok, acons_ok, bind_ok, tupF2] using e1)]
  have s1 : mlsetP (PR.ok (List.map regS (List.filterMap rg t))) (fun x_5 => (st1 (PR.ok x_5))) = .ok (.int (t.filterMap rg).length) := by
    show mlsetF _ _ = _
    unfold mlsetF
    rw [if_pos (by rw [List.length_map]; omega), compP_m (e2 := regS) (g := fun r => some r) (t.filterMap rg) (fun r _ => rfl), noe_ok, bind_ok, List.filterMap_some, lset_reg hn]
  simp only [bind_ok, seqF_l, s1, o1_ok, oLen_l, outS_d, o2_ok, List.length_map, oEq_i, beq_self_eq_true]
theorem thread_no {xs ys : List PyData} {d : PyData} (hx : ∀ x ∈ xs, A_is_command [x] = .ok (.bool true)) (hd : A_is_command [d] = .ok (.bool false)) : A_is_thread [.tuple (xs ++ d :: ys)] = .ok (.bool false) := by
  show P_is_thread _ = _
  unfold P_is_thread
  have a1 : mallP (.ok (xs ++ d :: ys)) (fun x_2 => (st1 ((aconsP (PR.ok x_2) (PR.ok [])).bind fun ds => (A_is_command ds).noe))) = .ok (.bool false) := by
    refine mall_of (allP_pre ?_ fun x h => ?_)
    · simp [hd]
    · simp [hx x h]
  simp only [bind_ok, seqF_t, o1_ok, oTest_d, isiTup, outS_d, tstP_ok, notP_ok, Bool.not_true, orP_f, oLen_t, o2_ok, oGt_i, a1, Bool.not_false]
  cases decide ((4 : Int) < ((xs ++ d :: ys).length : Int)) <;> rfl
theorem thread_nt {d : PyData} (h : isiTup d = false) : A_is_thread [d] = .ok (.bool false) := by
  show P_is_thread _ = _
  unfold P_is_thread
  simp [h]
theorem thread_5 {xs : List PyData} (h : 4 < xs.length) : A_is_thread [.tuple xs] = .ok (.bool false) := by
  show P_is_thread _ = _
  unfold P_is_thread
  simp only [bind_ok, seqF_t, o1_ok, oTest_d, isiTup, outS_d, tstP_ok, notP_ok, Bool.not_true, orP_f, oLen_t, o2_ok, oGt_i, decide_eq_true (show (4 : Int) < (xs.length : Int) by omega), orP_t, ifP_ok, if_true]
/-! programs -/
def eP (p : List (List Cmd)) : PyData := .tuple (p.map eT)
structure Gd (p : List (List Cmd)) : Prop where
  l1 : 1 ≤ p.length
  l3 : p.length ≤ 3
  t4 : ∀ t ∈ p, t.length ≤ 4
  nd : ∀ t ∈ p, (t.filterMap rg).Nodup
def tot (p : List (List Cmd)) : Nat := (p.map List.length).sum
theorem sum_nat (l : List Nat) : (l.map fun (n : Nat) => (n : Int)).sum = (l.sum : Nat) := by
  induction l with
  | nil => rfl
  | cons a l ih => rw [List.map_cons, List.sum_cons, List.sum_cons, ih]; omega
theorem ints_I (l : List Int) : intsOf (I l) = some l := by
  induction l with
  | nil => rfl
  | cons a l ih => show (intsOf (I l)).map (a :: ·) = _; rw [ih]; rfl
theorem oSum_I (l : List Int) : oSum (.list (I l)) = .d (.int l.sum) := by
  show (match intsOf (I l) with | some ns => Out.d (.int ns.sum) | none => .bad) = _
  rw [ints_I]
theorem prog_is {p : List (List Cmd)} (g : Gd p) : A_is_program [eP p] = .ok (.bool (decide (tot p ≤ 8))) := by
  show P_is_program (eP p) = _
  unfold P_is_program eP
  have a1 : mallP (.ok (p.map eT)) (fun x_2 => (st1 ((aconsP (PR.ok x_2) (PR.ok [])).bind fun ds => (A_is_thread ds).noe))) = .ok (.bool true) := by
    refine mall_of ((allP_m (g := fun _ => true) p fun t ht => ?_).trans (by simp))
    simp [thread_ok (g.t4 t ht) (g.nd t ht)]
  have b1 := g.l1
  have b3 := g.l3
  have c1 : compP (fun x_3 => (st1 (o1 (PR.ok x_3) fun a => outS (oLen a)))) (p.map eT) = .ok ((p.map fun t => (t.length : Int)).map .int) := compP_mp (e2 := fun i : Int => .int i) p fun t _ => by simp [eT]
  simp only [bind_ok, seqF_t, o1_ok, oTest_d, isiTup, outS_d, tstP_ok, notP_ok, Bool.not_true, orP_f, oLen_t, chainP_ok, oLe_i, chB_b, List.length_map, decide_eq_true (show (1 : Int) ≤ (p.length : Int) by omega), if_true, decide_eq_true (show (p.length : Int) ≤ 3 by omega), a1, ifP_ok, Bool.false_eq_true, if_false]
  rw [mcomp_of (by simp; omega) (by simpa only [o1_ok] using c1)]
  rw [o1_ok, oSum_I, outS_d, o2_ok, oLe_i, outS_d]
  have : (p.map fun t => (t.length : Int)).sum = (tot p : Nat) := by
    unfold tot; rw [← sum_nat, List.map_map]; rfl
  rw [this]
  congr 2
  exact decide_eq_decide.mpr (by omega)
theorem prog_no {xs ys : List PyData} {d : PyData} (hx : ∀ x ∈ xs, A_is_thread [x] = .ok (.bool true)) (hd : A_is_thread [d] = .ok (.bool false)) : A_is_program [.tuple (xs ++ d :: ys)] = .ok (.bool false) := by
  show P_is_program _ = _
  unfold P_is_program
  have a1 : mallP (.ok (xs ++ d :: ys)) (fun x_2 => (st1 ((aconsP (PR.ok x_2) (PR.ok [])).bind fun ds => (A_is_thread ds).noe))) = .ok (.bool false) := by
    refine mall_of (allP_pre ?_ fun x h => ?_)
    · simp [hd]
    · simp [hx x h]
  simp only [bind_ok, seqF_t, o1_ok, oTest_d, isiTup, outS_d, tstP_ok, notP_ok, Bool.not_true, orP_f, oLen_t, chainP_ok, oLe_i, chB_b, a1, Bool.not_false]
  by_cases c : (1 : Int) ≤ ((xs ++ d :: ys).length : Int)
  · rw [decide_eq_true c, if_pos rfl]
    cases decide (((xs ++ d :: ys).length : Int) ≤ 3) <;> rfl
  · rw [decide_eq_false c]; rfl
theorem prog_nt {d : PyData} (h : isiTup d = false) : A_is_program [d] = .ok (.bool false) := by
  show P_is_program _ = _
  unfold P_is_program
  simp [h]
theorem prog_len {xs : List PyData} (h : xs.length = 0 ∨ 3 < xs.length) : A_is_program [.tuple xs] = .ok (.bool false) := by
  show P_is_program _ = _
  unfold P_is_program
  simp only [bind_ok, seqF_t, o1_ok, oTest_d, isiTup, outS_d, tstP_ok, notP_ok, Bool.not_true, orP_f, oLen_t, chainP_ok, oLe_i, chB_b]
  rcases h with h | h
  · rw [decide_eq_false (show ¬ (1 : Int) ≤ (xs.length : Int) by omega)]; rfl
  · rw [decide_eq_false (show ¬ (xs.length : Int) ≤ 3 by omega)]
    cases decide ((1 : Int) ≤ (xs.length : Int)) <;> rfl
end Q43

namespace Q43
open PySem ZD ZP
theorem un2 (a b : PyData) : unF 2 (.tuple [a, b]) = .ok [a, b] := id rfl
/-! rows with their numbers -/
def zp {α : Type} (p : List α) : List (Nat × α) := p.mapIdx fun i t => (i, t)
theorem mem_zp {α : Type} {p : List α} {q : Nat × α} : q ∈ zp p ↔ p[q.1]? = some q.2 := by
  unfold zp
  rw [List.mem_mapIdx]
  constructor
  · rintro ⟨i, h, rfl⟩
    exact List.getElem?_eq_getElem h
  · intro h
    obtain ⟨h1, h2⟩ := List.getElem?_eq_some_iff.mp h
    exact ⟨q.1, h1, by rw [h2]⟩
theorem zp_len {α : Type} (p : List α) : (zp p).length = p.length := by unfold zp; simp
theorem enum_zp {α : Type} (p : List α) (e : α → PyData) : enumD (p.map e) = (zp p).map fun q => .tuple [.int (q.1 : Nat), e q.2] := by
  rw [pairs_eq]
  apply List.ext_getElem
  · simp [zp]
  · intro i h1 h2; simp [zp]
theorem ran_zp {α : Type} (p : List α) : I (ran p.length) = (zp p).map fun q => .int (q.1 : Nat) := by
  unfold ran
  apply List.ext_getElem
  · simp [zp]
  · intro i h1 h2; simp [zp]
theorem foldP_cons {σ : Type} {k : PyData → σ → PR σ} {d : PyData} {ds : List PyData} {s s' : σ} (h : k d s = .ok s') : foldP k (d :: ds) s = foldP k ds s' := by
  rw [foldP, h, bind_ok]
theorem fold_ext {α : Type} {k : PyData → PyData → PR PyData} {e : α → PyData} {g : α → List PyData} (B : Nat) : ∀ (l : List α) (L : List PyData), (∀ a ∈ l, (g a).length ≤ B) → L.length + B * l.length ≤ 100 → (∀ a ∈ l, ∀ L : List PyData, L.length ≤ 100 → k (e a) (.list L) = .ok (.list (L ++ g a))) → foldP k (l.map e) (.list L) = .ok (.list (L ++ l.flatMap g))
  | [], L, _, _, _ => by rw [List.flatMap_nil, List.append_nil]; rfl
  | a :: l, L, h1, h2, h3 => by
    have z := h1 a (by simp)
    rw [List.length_cons, Nat.mul_succ] at h2
    rw [List.map_cons, foldP_cons (h3 a (by simp) L (by omega)), fold_ext B l _ (fun b hb => h1 b (by simp [hb])) (by rw [List.length_append]; omega) (fun b hb => h3 b (by simp [hb])), List.flatMap_cons, List.append_assoc]
def eN (k : Nat) (r : Fin 4) : PyData := .tuple [.int k, regS r]
def eG (k j : Nat) : PyData := .tuple [.int k, .int (1 + (j : Int))]
def rowN (q : Nat × List Cmd) : List PyData := (q.2.filterMap rg).map fun r => eN q.1 r
def rowG (q : Nat × List Cmd) : List PyData := (List.range (q.2.length - 1)).map fun j => eG q.1 j
def NN (p : List (List Cmd)) : List PyData := (zp p).flatMap rowN
def GG (p : List (List Cmd)) : List PyData := (zp p).flatMap rowG
structure Sm (p : List (List Cmd)) : Prop where
  l3 : p.length ≤ 3
  t8 : ∀ t ∈ p, t.length ≤ 8
theorem Gd.sm {p : List (List Cmd)} (g : Gd p) : Sm p := ⟨g.l3, fun t h => Nat.le_trans (g.t4 t h) (by decide)⟩
theorem zp_mem {p : List (List Cmd)} {q : Nat × List Cmd} (h : q ∈ zp p) : q.2 ∈ p := List.mem_of_getElem? (mem_zp.mp h)
theorem rowN_le (q : Nat × List Cmd) : (rowN q).length ≤ q.2.length := by unfold rowN; rw [List.length_map]; exact List.length_filterMap_le _ _
theorem rowG_le (q : Nat × List Cmd) : (rowG q).length ≤ q.2.length := by unfold rowG; simp
theorem comp_N (k : Nat) (t : List Cmd) (hl : t.length ≤ 8) : mcompP (.ok (t.map eC)) (fun x_7 => (stP (tstP (o2 (o2 (PR.ok x_7) (PR.ok (.int 0)) fun a b => outS (oIx a b)) ((aconsP (PR.ok (.str "get")) (aconsP (PR.ok (.str "swap")) (PR.ok []))).bind tupF) fun a b => outS ((oIn false) a b))) ((aconsP (PR.ok (.int (k : Nat))) (aconsP (o2 (PR.ok x_7) (o1 (PR.ok (.int 1)) fun a => outS ((oI1 fun i => -i) a)) fun a b => outS (oIx a b)) (PR.ok []))).bind tupF))) = .ok (.list (rowN (k, t))) := by
  have e1 := names_eq t (fun _ r => eN k r) (fun x_7 => (aconsP (PR.ok (.int (k : Nat))) (aconsP (o2 (PR.ok x_7) (o1 (PR.ok (.int 1)) fun a => outS ((oI1 fun i => -i) a)) fun a b => outS (oIx a b)) (PR.ok []))).bind tupF) fun c r h => by
    cases c with
    | put c v => cases h
    | fence => cases h
    | get c r' => cases h; simp [eC, eN]
    | swap c v r' => cases h; simp [eC, eN]
  have e2 : ((t.filterMap fun c => (rg c).map fun r => (c, r)).map fun q => eN k q.2) = rowN (k, t) := by
    unfold rowN
    rw [← fm_snd, List.map_map]; rfl
  rw [e2] at e1
  exact mcomp_of (by simp; omega) e1
theorem comp_G (k : Nat) (t : List Cmd) (hl : t.length ≤ 8) : mcompP ((PR.ok (.int 1)).bind fun a => (PR.ok (.int (t.length : Nat))).bind fun b => rng2F a b) (fun x_7 => (st1 ((aconsP (PR.ok (.int (k : Nat))) (aconsP (PR.ok x_7) (PR.ok []))).bind tupF))) = .ok (.list (rowG (k, t))) := by
  rw [bind_ok, bind_ok, rng2_ok (by omega) (by omega) (by decide) (by decide)]
  refine mcomp_of (by simp; omega) ?_
  refine (compP_m (e := fun i : Int => .int i) (e2 := fun i : Int => .tuple [.int (k : Nat), .int i]) (g := fun i => some i) _ fun i _ => by simp).trans ?_
  rw [List.filterMap_some, List.map_map]
  unfold rowG
  have : ((t.length : Int) - 1).toNat = t.length - 1 := by omega
  rw [this]
  rfl
theorem ext_ok {L ys : List PyData} (h : L.length + ys.length ≤ 1000000) : extF (.list L) (.list ys) = .ok (.list (L ++ ys)) := if_pos h
theorem regs_fold {p : List (List Cmd)} (g : Sm p) : A_registers [eP p] = outL (oSorted (.list (NN p))) := by
  show P_registers (eP p) = _
  unfold P_registers eP
  rw [bind_ok, lstF_nil, bind_ok, bind_ok, enumF_t, bind_ok, enum_zp]
  have l3 := g.l3
  refine bind_eq (fold_ext (g := rowN) 8 (zp p) [] (fun q h => Nat.le_trans (rowN_le q) (g.t8 _ (zp_mem h))) (by rw [zp_len]; simp; omega) fun q hq L hL => ?_) ?_
  · have t8 := g.t8 _ (zp_mem hq)
    rw [un2, bind_ok]
    have e := comp_N q.1 q.2 t8
    have rl := rowN_le q
    simp only [eT, bind_ok, seqF_t]
    refine bind_eq e (bind_eq (ext_ok (by have : (rowN (q.1, q.2)).length = (rowN q).length := rfl; omega)) rfl)
  · rw [o1_ok]; rfl
theorem gaps_fold {p : List (List Cmd)} (g : Sm p) : A_gaps [eP p] = .ok (.list (GG p)) := by
  show P_gaps (eP p) = _
  unfold P_gaps eP
  rw [bind_ok, lstF_nil, bind_ok, bind_ok, enumF_t, bind_ok, enum_zp]
  have l3 := g.l3
  refine bind_eq (fold_ext (g := rowG) 8 (zp p) [] (fun q h => Nat.le_trans (rowG_le q) (g.t8 _ (zp_mem h))) (by rw [zp_len]; simp; omega) fun q hq L hL => ?_) ?_
  · have t8 := g.t8 _ (zp_mem hq)
    rw [un2, bind_ok]
    have e := comp_G q.1 q.2 t8
    have rl := rowG_le q
    simp only [eT, o1_ok, oLen_t, List.length_map, outS_d]
    refine bind_eq e (bind_eq (ext_ok (by have : (rowG (q.1, q.2)).length = (rowG q).length := rfl; omega)) rfl)
  · rfl
/-! fences put in -/
def fenT (b : Nat → Bool) (t : List Cmd) : List Cmd := (zp t).flatMap fun q => (if b q.1 = true then [Cmd.fence] else []) ++ [q.2]
def fenP (b : Nat → Nat → Bool) (p : List (List Cmd)) : List (List Cmd) := (zp p).map fun q => fenT (b q.1) q.2
def mem2 (S : List PyData) (k j : Nat) : Bool := S.any fun y => PyData.eqv y (.tuple [.int (k : Nat), .int (j : Nat)])
theorem in_S {S : List PyData} (h : PyData.canLayAll0 S = true) (k j : Nat) : oInS false (.tuple [.int (k : Nat), .int (j : Nat)]) (.tuple S) = .d (.bool (mem2 S k j)) := by
  show inS false _ S = _
  unfold inS
  rw [if_pos (by rw [h, shaped_shN, show (64 : Nat) = 63 + 1 from rfl, shN_t]; simp), Bool.false_xor]
  rfl
theorem fenced_eq {p : List (List Cmd)} (g : Gd p) {S : List PyData} (h : PyData.canLayAll0 S = true) : A_fenced [eP p, .tuple S] = .ok (eP (fenP (mem2 S) p)) := by
  show P_fenced (eP p) (.tuple S) = _
  unfold P_fenced eP
  rw [bind_ok, lstF_nil, bind_ok, bind_ok, enumF_t, bind_ok, enum_zp]
  have l3 := g.l3
  refine bind_eq (fold_ext (g := fun q => [eT (fenT (mem2 S q.1) q.2)]) 1 (zp p) [] (fun q h => by simp) (by rw [zp_len]; simp; omega) fun q hq L hL => ?_) ?_
  · have t4 := g.t4 _ (zp_mem hq)
    rw [un2, bind_ok]
    simp only [eT, bind_ok, enumF_t, enum_zp]
    refine bind_eq (fold_ext (g := fun r => ((if mem2 S q.1 r.1 = true then [Cmd.fence] else []) ++ [r.2]).map eC) 2 (zp q.2) [] (fun r hr => by split <;> simp) (by rw [zp_len]; simp; omega) fun r hr M hM => ?_) ?_
    · rw [un2, bind_ok]
      simp only [acons_ok, bind_ok, tupF2, tupF1, o2_ok, in_S h, outS_d, tstP_ok, ifP_ok]
      cases mem2 S q.1 r.1 with
      | true =>
        rw [if_pos rfl, if_pos rfl, appF_ok (by omega), bind_ok, bind_ok, appF_ok (by simp; omega), bind_ok]
        simp [eC]
      | false =>
        rw [if_neg Bool.false_ne_true, if_neg Bool.false_ne_true, bind_ok, appF_ok (by omega), bind_ok]
        simp
    · rw [o1_ok, oTuple_l, outS_nt, bind_ok, appF_ok (by omega), bind_ok, List.nil_append]
      unfold fenT
      rw [List.map_flatMap]
  · rw [o1_ok, oTuple_l, outS_nt, List.nil_append]
    unfold fenP
    rw [List.map_map]
    congr 2
    induction zp p with
    | nil => rfl
    | cons a l ih => rw [List.flatMap_cons, ih]; rfl
end Q43

namespace Q43
open PySem ZD ZP
section
variable {Q : PyData → Prop} {E : String → Prop}
theorem min_i (i j : Int) : oMin2 (.int i) (.int j) = .d (.int (if j < i then j else i)) := id rfl
@[simp] theorem ixL0 (a : PyData) (r : List PyData) : oIx (.list (a :: r)) (.int 0) = .d a := oIx_l (by decide) (id rfl)
theorem r_cell (h : ∀ c, Q (cellS c)) : Ok (b2 (PQ ((aconsP (PR.ok (.str "x")) (aconsP (PR.ok (.str "y")) (aconsP (PR.ok (.str "zz")) (PR.ok [])))).bind lstF)) (bD (aconsD (b2 (PQ (PR.ok (.int 2))) (bD (PQ (aconsP (PR.ok (.int 2)) (PR.ok []))) fun ds => nD (A__law_take ds)) fun a b => outR (oAdd a b)) (PQ (PR.ok []))) fun ds => nD (A__law_take ds)) fun a b => outS (oIx a b)) Q E := by
  refine r_b2L (a := .list [.str "x", .str "y", .str "zz"]) (by simp) (r_bind (r_acons (r_b2L rfl (r_take rfl (by decide) fun r h0 h1 => r_ok (a := .int (2 + r)) (by simp) (r_ok (a := []) rfl (r_takeC (by omega) fun j g0 g1 => ?_))))))
  have : j = 0 ∨ j = 1 ∨ j = 2 := by omega
  rcases this with rfl | rfl | rfl
  · exact r_ok (a := cellS 0) rfl (h 0)
  · exact r_ok (a := cellS 1) rfl (h 1)
  · exact r_ok (a := cellS 2) rfl (h 2)
theorem r_put {c : Fin 3} (h : ∀ v, Q (eC (.put c v))) : Ok (bD (aconsD (PQ (PR.ok (.str "put"))) (aconsD (PQ (PR.ok (cellS c))) (aconsD (b2 (PQ (PR.ok (.int 1))) (bD (PQ (aconsP (PR.ok (.int 2)) (PR.ok []))) fun ds => nD (A__law_take ds)) fun a b => outR (oAdd a b)) (PQ (PR.ok []))))) fun ds => PQ (tupF ds)) Q E := by
  refine r_bind (r_acons (r_ok rfl (r_acons (r_ok rfl (r_acons (r_b2L rfl (r_take rfl (by decide) fun r h0 h1 => r_ok (a := .int (1 + r)) (by simp) (r_ok (a := []) rfl ?_))))))))
  have : r = 0 ∨ r = 1 := by omega
  rcases this with rfl | rfl
  · exact r_ok (a := eC (.put c 1)) rfl (h 1)
  · exact r_ok (a := eC (.put c 2)) rfl (h 2)
theorem r_swap {c : Fin 3} {j : Fin 4} (h : ∀ v, Q (eC (.swap c v j))) : Ok (bD (aconsD (PQ (PR.ok (.str "swap"))) (aconsD (PQ (PR.ok (cellS c))) (aconsD (b2 (PQ (PR.ok (.int 1))) (bD (PQ (aconsP (PR.ok (.int 9)) (PR.ok []))) fun ds => nD (A__law_take ds)) fun a b => outR (oAdd a b)) (PQ (aconsP (PR.ok (regS j)) (PR.ok [])))))) fun ds => PQ (tupF ds)) Q E := by
  refine r_bind (r_acons (r_ok rfl (r_acons (r_ok rfl (r_acons (r_b2L rfl (r_take rfl (by decide) fun r h0 h1 => r_ok (a := .int (1 + r)) (by simp) (r_ok (a := [regS j]) rfl ?_))))))))
  obtain ⟨n, rfl⟩ := Int.eq_ofNat_of_zero_le h0
  refine r_ok (a := eC (.swap c ⟨1 + n, by omega⟩ j)) ?_ (h _)
  simp [eC]
theorem reg_at (j : Fin 4) : (o2 (PR.ok (.str "r")) (o2 (PR.ok (.str "abcd")) (PR.ok (.int (j.val : Nat))) fun a b => outS (oIx a b)) fun a b => outR (oAdd a b)) = .ok (regS j) := by
  match j with
  | 0 => rfl
  | 1 => rfl
  | 2 => rfl
  | 3 => rfl
theorem r_command {j : Fin 4} (h : ∀ c, rg c = none ∨ rg c = some j → Q (eC c)) : Ok (P__law_command (.int (j.val : Nat))) Q E := by
  unfold P__law_command
  rw [reg_at]
  refine r_bind (r_cell fun c => ?_)
  refine r_b2 (r_bind (r_acons (r_put fun v1 => r_acons (r_put fun v2 => r_acons (r_ok (a := eC (.get c j)) (by simp [eC]) (r_acons (r_ok (a := eC (.get c j)) (by simp [eC]) (r_acons (r_swap fun v3 => r_ok (a := [eC .fence]) (by simp [eC]) (r_ok (a := .list [eC (.put c v1), eC (.put c v2), eC (.get c j), eC (.get c j), eC (.swap c v3 j), eC .fence]) (lstF_len (by simp)) ?_))))))))))
  have fin : ∀ i : Int, 0 ≤ i → i < 6 → Ok (PQ (outS (oIx (.list [eC (.put c v1), eC (.put c v2), eC (.get c j), eC (.get c j), eC (.swap c v3 j), eC .fence]) (.int i)))) Q E := fun i h0 h1 => by
    have : i = 0 ∨ i = 1 ∨ i = 2 ∨ i = 3 ∨ i = 4 ∨ i = 5 := by omega
    rcases this with rfl | rfl | rfl | rfl | rfl | rfl
    · exact r_ok rfl (h (.put c v1) (.inl rfl))
    · exact r_ok rfl (h (.put c v2) (.inl rfl))
    · exact r_ok rfl (h (.get c j) (.inr rfl))
    · exact r_ok rfl (h (.get c j) (.inr rfl))
    · exact r_ok rfl (h (.swap c v3 j) (.inr rfl))
    · exact r_ok rfl (h .fence (.inl rfl))
  refine r_ifC (fun Q' a b => r_chance (by decide) (fun r => ⟨_, oEq_i r 0⟩) a b) ?_ ?_
  · refine r_b2R rfl (r_take rfl (by decide) fun r h0 h1 => ?_)
    refine r_ok (a := .int (if (5 : Int) < r then 5 else r)) (by rw [min_i, outS_d]) (fin _ ?_ ?_) <;> split <;> omega
  · exact r_take rfl (by decide) fun r h0 h1 => fin r h0 (by omega)
/-! the drawn program -/
def eL (t : List Cmd) : PyData := .list (t.map eC)
def okRow (t : List Cmd) : Prop := t.length ≤ 4 ∧ (t.filterMap rg).Pairwise (· < ·) ∧ ∀ r ∈ t.filterMap rg, r.val < t.length
theorem okRow.nd {t : List Cmd} (h : okRow t) : (t.filterMap rg).Nodup := h.2.1.imp fun q => Fin.ne_of_lt q
theorem okRow.snoc {t : List Cmd} (h : okRow t) (hl : t.length < 4) {c : Cmd} (hc : rg c = none ∨ rg c = some ⟨t.length, hl⟩) : okRow (t ++ [c]) := by
  obtain ⟨h1, h2, h3⟩ := h
  refine ⟨by simp; omega, ?_, fun r hr => ?_⟩
  · rw [List.filterMap_append]
    rcases hc with hc | hc
    · simp [hc, h2]
    · simp only [List.filterMap_cons, hc, List.filterMap_nil]
      rw [List.pairwise_append]
      refine ⟨h2, by simp, fun a ha b hb => ?_⟩
      rw [List.mem_singleton.mp hb]
      exact h3 a ha
  · rw [List.filterMap_append, List.mem_append] at hr
    rw [List.length_append]
    rcases hr with hr | hr
    · have := h3 r hr; simp; omega
    · rcases hc with hc | hc
      · simp [hc] at hr
      · simp [hc] at hr
        subst hr
        simp
abbrev rA : List (List Cmd) := [[.put 0 1, .get 1 0], [.put 1 1, .get 0 0]]
abbrev rB : List (List Cmd) := [[.put 0 1, .put 1 1], [.get 1 0, .get 0 1]]
abbrev mores : List Cmd := [.fence, .put 0 2, .swap 2 3 3, .get 0 3]
def newT (t : List Cmd) (pl : Nat) (m : Cmd) (r : Nat) : List Cmd := t.take pl ++ List.replicate r m ++ t.drop pl
def chkR (R : List (List Cmd)) : Bool := decide (R.length = 2) && R.all (fun t => decide (t.length ≤ 4) && decide ((t.filterMap rg).Nodup)) && decide (tot R ≤ 8)
theorem chk_gd {R : List (List Cmd)} (h : chkR R = true) : Gd R ∧ tot R ≤ 8 := by
  unfold chkR at h
  simp only [Bool.and_eq_true, decide_eq_true_eq, List.all_eq_true] at h
  exact ⟨⟨by omega, by omega, fun t ht => (h.1.2 t ht).1, fun t ht => (h.1.2 t ht).2⟩, h.2⟩
theorem chk_all : ∀ (w : Bool) (at_ : Fin 2) (pl : Fin 3) (m : Fin 4) (r : Fin 2), chkR ((if w then rA else rB).set at_ (newT ((if w then rA else rB).getD at_ []) pl (mores.getD m .fence) r)) = true := by decide +kernel
theorem tup_rows (R : List (List Cmd)) (h : R.length ≤ 3) : (o1 (mcompP ((PR.ok (.list (R.map eL))).bind seqF) (fun x_52 => (st1 (o1 (PR.ok x_52) fun a => outS (oTuple a))))) fun a => outS (oTuple a)) = .ok (eP R) := by
  rw [bind_ok, seqF_l, mcomp_of (by simp; omega) (compP_mp (e2 := eT) (g := fun t => t) R fun t _ => by simp [eL, eT]), o1_ok, oTuple_l, outS_nt]
  simp [eP]
end
end Q43

namespace Q43
open PySem ZD ZP
section
variable {Q : PyData → Prop} {E : String → Prop}
theorem A_cmd (x : PyData) : A__law_command [x] = P__law_command x := id rfl
theorem tot_snoc (R : List (List Cmd)) (t : List Cmd) : tot (R ++ [t]) = tot R + t.length := by unfold tot; simp
theorem slT {t : List Cmd} (n : Nat) : (slcP outR (PR.ok (eL t)) (PR.ok none) ((PR.ok (.int (n : Nat))).bind posF)) = .ok (eL (t.take n)) := by
  rw [bind_ok, posF_i, slcP_ok]
  show outR (.nl (cutD (t.map eC) none (some (n : Int)))) = _
  rw [cut_to (by omega), outR_nl, Int.toNat_natCast, ← List.map_take]; rfl
theorem slD {t : List Cmd} (n : Nat) : (slcP outR (PR.ok (eL t)) ((PR.ok (.int (n : Nat))).bind posF) (PR.ok none)) = .ok (eL (t.drop n)) := by
  rw [bind_ok, posF_i, slcP_ok]
  show outR (.nl (cutD (t.map eC) (some (n : Int)) none)) = _
  rw [cut_from (by omega), outR_nl, Int.toNat_natCast, ← List.map_drop]; rfl
theorem mul_m (c : Cmd) (r : Fin 2) : outR (oMulV (.list [eC c]) (.int (r.val : Nat))) = .ok (eL (List.replicate r c)) := by
  match r with
  | 0 => rfl
  | 1 => rfl
theorem add_L {a b : List Cmd} (h : a.length + b.length ≤ 1000) : outR (oAdd (eL a) (eL b)) = .ok (eL (a ++ b)) := by
  unfold eL
  rw [oAdd_l (by simp; omega), outR_nl, List.map_append]
theorem more_at (m : Fin 4) : outS (oIx (.list (mores.map eC)) (.int (m.val : Nat))) = .ok (eC (mores.getD m .fence)) := by
  match m with
  | 0 => rfl
  | 1 => rfl
  | 2 => rfl
  | 3 => rfl
theorem r_small {w : Bool} {j : PyData} (hj : j = .list ((if w then rA else rB).map eL)) (h : ∀ R, chkR R = true → Q (.list (R.map eL))) :
    Ok (bD (bD (PQ (aconsP (PR.ok (.int 2)) (PR.ok []))) fun ds => nD (A__law_take ds)) fun at_31 =>  (bD (bD (PQ (aconsP (PR.ok (.int 3)) (PR.ok []))) fun ds => nD (A__law_take ds)) fun place_32 =>  (bD (b2 (PQ ((aconsP ((aconsP (PR.ok (.str "fence")) (PR.ok [])).bind tupF) (aconsP ((aconsP (PR.ok (.str "put")) (aconsP (PR.ok (.str "x")) (aconsP (PR.ok (.int 2)) (PR.ok [])))).bind tupF) (aconsP ((aconsP (PR.ok (.str "swap")) (aconsP (PR.ok (.str "zz")) (aconsP (PR.ok (.int 3)) (aconsP (PR.ok (.str "rd")) (PR.ok []))))).bind tupF) (aconsP ((aconsP (PR.ok (.str "get")) (aconsP (PR.ok (.str "x")) (aconsP (PR.ok (.str "rd")) (PR.ok [])))).bind tupF) (PR.ok []))))).bind lstF)) (bD (PQ (aconsP (PR.ok (.int 4)) (PR.ok []))) fun ds => nD (A__law_take ds)) fun a b => outS (oIx a b)) fun more_33 =>  (bD (b2 (b2 (PQ (slcP outR (o2 (PR.ok j) (PR.ok at_31) fun a b => outS (oIx a b)) (PR.ok none) ((PR.ok place_32).bind posF))) (b2 (PQ ((aconsP (PR.ok more_33) (PR.ok [])).bind lstF)) (bD (PQ (aconsP (PR.ok (.int 2)) (PR.ok []))) fun ds => nD (A__law_take ds)) fun a b => outR (oMulV a b)) fun a b => outR (oAdd a b)) (PQ (slcP outR (o2 (PR.ok j) (PR.ok at_31) fun a b => outS (oIx a b)) ((PR.ok place_32).bind posF) (PR.ok none))) fun a b => outR (oAdd a b)) fun y_35 => bD (PQ (PR.ok at_31)) fun z_36 => bD (PQ (stoF j z_36 y_35)) fun rows_34 =>  (PQ (PR.ok rows_34)))))) Q E := by
  refine r_bind (r_take rfl (by decide) fun ai a0 a1 => r_bind (r_take rfl (by decide) fun pi p0 p1 => ?_))
  obtain ⟨a, rfl⟩ := Int.eq_ofNat_of_zero_le a0
  obtain ⟨pl, rfl⟩ := Int.eq_ofNat_of_zero_le p0
  refine r_bind (r_b2L (a := .list (mores.map eC)) rfl (r_take rfl (by decide) fun mi m0 m1 => ?_))
  obtain ⟨m, rfl⟩ := Int.eq_ofNat_of_zero_le m0
  refine r_ok (more_at ⟨m, by omega⟩) ?_
  have tt : ∀ t ∈ (if w then rA else rB), t.length = 2 := by cases w <;> decide
  have hix : (o2 (PR.ok j) (PR.ok (.int (a : Nat))) fun a b => outS (oIx a b)) = .ok (eL ((if w then rA else rB).getD a [])) := by
    subst hj
    have : a = 0 ∨ a = 1 := by omega
    cases w <;> rcases this with rfl | rfl <;> rfl
  have hl : ((if w then rA else rB).getD a []).length ≤ 2 := by
    have : a = 0 ∨ a = 1 := by omega
    cases w <;> rcases this with rfl | rfl <;> decide
  rw [hix]
  refine r_bind (r_b2R (slD pl) (r_b2L (slT pl) (r_b2L (a := .list [eC (mores.getD m .fence)]) (by simp) (r_take rfl (by decide) fun ri r0 r1 => ?_))))
  obtain ⟨r, rfl⟩ := Int.eq_ofNat_of_zero_le r0
  refine r_ok (mul_m _ ⟨r, by omega⟩) (r_ok (add_L (by simp only [List.length_append, List.length_take, List.length_replicate, List.length_drop]; omega)) (r_ok (add_L (by simp only [List.length_append, List.length_take, List.length_replicate, List.length_drop]; omega)) (r_pure rfl ?_)))
  have hst : stoF j (.int (a : Nat)) (eL (List.take pl ((if w then rA else rB).getD a []) ++ List.replicate r (mores.getD m .fence) ++ List.drop pl ((if w then rA else rB).getD a []))) = .ok (.list (((if w then rA else rB).set a (newT ((if w then rA else rB).getD a []) pl (mores.getD m .fence) r)).map eL)) := by
    subst hj
    have : a = 0 ∨ a = 1 := by omega
    cases w <;> rcases this with rfl | rfl <;> rfl
  exact r_pure hst (r_ok rfl (h _ (chk_all w ⟨a, by omega⟩ ⟨pl, by omega⟩ ⟨m, by omega⟩ ⟨r, by omega⟩)))
theorem A_take (x : PyData) : A__law_take [x] = A__law_take [x] := id rfl
/-- what a row of the drawn kind is filled with -/
theorem r_row {t0 : List Cmd} {n : Nat} (hn : n ≤ 4) {f : PyData → Dm (PyData × PyData)} {Q : PyData × PyData → Prop} (h : ∀ t, okRow t → t.length = n → Ok (f (eL t)) Q E) :
    Ok (bD (foldD (fun d_42 (s_41 : PyData) =>  (bD (bD (PQ (aconsP (o1 (PR.ok s_41) fun a => outS (oLen a)) (PR.ok []))) fun ds => nD (A__law_command ds)) fun y_44 => bD (PQ (appF s_41 y_44)) fun row_43 =>  (PQ (PR.ok row_43)))) (I (ran n)) (.list [])) f) Q E := by
  refine r_fold (fun i s => ∃ t, s = eL t ∧ t.length = i ∧ okRow t) ⟨[], rfl, rfl, by simp [okRow]⟩ (fun i d s hd hi Q' hQ => ?_) fun s hs => ?_
  · obtain ⟨t, rfl, hl, ho⟩ := hi
    obtain ⟨_, hin⟩ := I_get hd
    refine r_bind (r_pure (a := [.int (t.length : Nat)]) (by simp [eL]) (r_nD ?_))
    rw [A_cmd]
    refine r_command (j := ⟨t.length, by omega⟩) fun c hc => ?_
    refine r_pure (a := eL (t ++ [c])) ?_ (r_ok rfl (hQ _ ⟨t ++ [c], rfl, by simp [hl], ho.snoc (by omega) hc⟩))
    unfold eL
    rw [appF_ok (by simp; omega), List.map_append]; rfl
  · obtain ⟨t, rfl, hl, ho⟩ := hs
    refine h t ho ?_
    rw [hl]
    simp [ran]
theorem r_big {j : PyData} (hj : j = .list []) (h : ∀ R, 1 ≤ R.length → R.length ≤ 3 → (∀ t ∈ R, okRow t) → tot R ≤ 8 → Q (.list (R.map eL))) :
    Ok (bD (PQ (PR.ok (.int 8))) fun left_37 =>  (bD (bD (b2 (PQ (PR.ok (.int 1))) (bD (PQ (aconsP (PR.ok (.int 3)) (PR.ok []))) fun ds => nD (A__law_take ds)) fun a b => outR (oAdd a b)) fun a => PQ (rng1F a)) fun l_50 => (bD (foldD (fun d_39 (s_38 : PyData × PyData) =>  (bD (PQ ((PR.ok []).bind lstF)) fun row_40 =>  (bD (bD (b2 (PQ (PR.ok s_38.1)) (bD (PQ (aconsP (PR.ok (.int 5)) (PR.ok []))) fun ds => nD (A__law_take ds)) fun a b => outS (oMin2 a b)) fun a => PQ (rng1F a)) fun l_48 => (bD (foldD (fun d_42 (s_41 : PyData) =>  (bD (bD (PQ (aconsP (o1 (PR.ok s_41) fun a => outS (oLen a)) (PR.ok []))) fun ds => nD (A__law_command ds)) fun y_44 => bD (PQ (appF s_41 y_44)) fun row_43 =>  (PQ (PR.ok row_43)))) l_48 row_40) fun (s_45 : PyData) => (PQ ((o2 (PR.ok s_38.1) (o1 (PR.ok s_45) fun a => outS (oLen a)) fun a b => outS (oSub a b)).bind fun left_46 =>  ((appF s_38.2 s_45).bind fun rows_47 =>  (PR.ok (left_46, rows_47))))))))) l_50 (left_37, j)) fun (s_49 : PyData × PyData) => (PQ (PR.ok s_49.2))))) Q E := by
  subst hj
  refine r_pure rfl (r_bind (r_bind (r_b2L rfl (r_take rfl (by decide) fun r r0 r1 => r_ok (a := .int (1 + r)) (by simp) ?_))))
  obtain ⟨n, rfl⟩ := Int.eq_ofNat_of_zero_le r0
  refine r_ok (a := I (ran (1 + n))) (by rw [show (1 + (n : Int)) = ((1 + n : Nat) : Int) by omega, rng1_n (by omega)]) ?_
  refine r_fold (fun i s => ∃ R, s = (.int ((8 - tot R : Nat) : Int), .list (R.map eL)) ∧ R.length = i ∧ (∀ t ∈ R, okRow t) ∧ tot R ≤ 8) ⟨[], rfl, rfl, by simp, by simp [tot]⟩ (fun i d s hd hi Q' hQ => ?_) fun s hs => ?_
  · obtain ⟨R, rfl, hl, ho, ht⟩ := hi
    obtain ⟨_, hin⟩ := I_get hd
    refine r_pure (a := .list []) (by rw [bind_ok, lstF_nil]) (r_bind (r_bind (r_b2L rfl (r_take rfl (by decide) fun r r0 r1 => ?_))))
    obtain ⟨b, rfl⟩ := Int.eq_ofNat_of_zero_le r0
    refine r_ok (a := .int ((min (8 - tot R) b : Nat) : Int)) (by
      rw [min_i, outS_d]
      congr 2
      split <;> omega) (r_ok (a := I (ran (min (8 - tot R) b))) (rng1_n (by omega)) (r_row (t0 := []) (by omega) fun t ot tl => ?_))
    refine r_ok (a := (.int ((8 - tot (R ++ [t]) : Nat) : Int), .list ((R ++ [t]).map eL))) ?_ (hQ _ ⟨R ++ [t], rfl, by simp [hl], fun x hx => ?_, by rw [tot_snoc]; omega⟩)
    · rw [tot_snoc]
      have e : ((8 - tot R : Nat) : Int) - (t.length : Int) = ((8 - (tot R + t.length) : Nat) : Int) := by omega
      simp only [eL, o1_ok, oLen_l, outS_d, o2_ok, oSub_i, bind_ok, List.length_map, e]
      rw [appF_ok (by simp; omega), bind_ok]
      simp [eL]
    · rcases List.mem_append.mp hx with hx | hx
      · exact ho x hx
      · rw [List.mem_singleton.mp hx]; exact ot
  · obtain ⟨R, rfl, hl, ho, ht⟩ := hs
    have : R.length = 1 + n := by rw [hl]; simp [ran]
    exact r_ok rfl (h R (by omega) (by omega) ho ht)
theorem r_program {Q : PyData → Prop} (h : ∀ R, Gd R → tot R ≤ 8 → Q (eP R)) : Ok (P__law_program (.int 8)) Q E := by
  unfold P__law_program
  refine r_bind (r_take rfl (by decide) fun how h0 h1 => r_pure (a := .list []) (by rw [bind_ok, lstF_nil]) ?_)
  have fin : ∀ R : List (List Cmd), chkR R = true → Ok (PQ (o1 (mcompP ((PR.ok (.list (R.map eL))).bind seqF) (fun x_52 => (st1 (o1 (PR.ok x_52) fun a => outS (oTuple a))))) fun a => outS (oTuple a))) Q E := fun R hR => by
    obtain ⟨g, t⟩ := chk_gd hR
    exact r_ok (tup_rows R g.l3) (h R g t)
  have cs : how = 0 ∨ how = 1 ∨ (2 : Int) ≤ how := by omega
  rcases cs with rfl | rfl | hw
  · refine r_pure (a := .list (rA.map eL)) (by simp [eL, eC, cellS, regS]) (r_pure (a := .list (rA.map eL)) (by simp) (r_bind (r_yes (by simp) ?_)))
    exact r_small (w := true) rfl fun R hR => fin R hR
  · refine r_pure (a := .list []) (by simp) (r_pure (a := .list (rB.map eL)) (by simp [eL, eC, cellS, regS]) (r_bind (r_yes (by simp) ?_)))
    exact r_small (w := false) rfl fun R hR => fin R hR
  · refine r_pure (a := .list []) (by rw [o2_ok, oEq_i, beq_false_of_ne (by omega)]; rfl) (r_pure (a := .list []) (by rw [o2_ok, oEq_i, beq_false_of_ne (by omega)]; rfl) (r_bind (r_no (by rw [o2_ok, oLt_i, decide_eq_false (by omega)]; rfl) ?_)))
    exact r_big rfl fun R l1 l3 ho ht => r_ok (tup_rows R l3) (h R ⟨l1, l3, fun t m => (ho t m).1, fun t m => (ho t m).nd⟩ ht)
end
end Q43

namespace Q43
open PySem ZD ZP
/-! _law_alike: a tree is like itself -/
inductive Fine : Nat → PyData → Prop
  | none {n : Nat} : Fine n .none
  | bool {n : Nat} (b : Bool) : Fine n (.bool b)
  | int {n : Nat} (i : Int) : Fine n (.int i)
  | str {n : Nat} (x : Str) : PyData.strOk x = true → Fine n (.str x)
  | lst {n : Nat} {ds : List PyData} : (∀ d ∈ ds, Fine n d) → ds.length ≤ 1000000 → Fine (n + 1) (.list ds)
  | tup {n : Nat} {ds : List PyData} : (∀ d ∈ ds, Fine n d) → ds.length ≤ 1000000 → Fine (n + 1) (.tuple ds)
theorem alike_row {rA : List PyData → PR PyData} {d : PyData} {ds : List PyData} (hd : d = .list ds ∨ d = .tuple ds) (hl : ds.length ≤ 1000000) (ih : ∀ x ∈ ds, rA [x, x] = .ok (.bool true)) :
    mcompP ((o1 (PR.ok d) fun a => outS (oLen a)).bind rng1F) (fun x_3 => (stP (notP (tstP ((aconsP (o2 (PR.ok d) (PR.ok x_3) fun a b => outS (oIx a b)) (aconsP (o2 (PR.ok d) (PR.ok x_3) fun a b => outS (oIx a b)) (PR.ok []))).bind fun ds => (rA ds).noe))) (PR.ok x_3))) = .ok (.list []) := by
  have e1 : (o1 (PR.ok d) fun a => outS (oLen a)) = .ok (.int ds.length) := by rcases hd with rfl | rfl <;> simp only [o1_ok, oLen_l, oLen_t, outS_d]
  have e2 : ∀ j : Nat, j < ds.length → ∃ x ∈ ds, oIx d (.int j) = .d x := fun j hj => ⟨ds[j], List.getElem_mem hj, by
    rcases hd with rfl | rfl
    · exact oIx_l (by omega) (by rw [Int.toNat_natCast]; exact List.getElem?_eq_getElem hj)
    · exact oIx_t (by omega) (by rw [Int.toNat_natCast]; exact List.getElem?_eq_getElem hj)⟩
  rw [e1, bind_ok, rng1_n hl]
  refine mcomp_of (by simpa using hl) (compP_none fun y hy => ?_)
  obtain ⟨j, hj, rfl⟩ := List.mem_map.mp hy
  obtain ⟨h0, h1⟩ := mem_ran.mp hj
  obtain ⟨k, rfl⟩ := Int.eq_ofNat_of_zero_le h0
  obtain ⟨x, hx, e⟩ := e2 k (by omega)
  simp only [o2_ok, e, outS_d, acons_ok, bind_ok, ih x hx, noe_ok, tstP_ok, notP_ok, Bool.not_true, stP_f]
theorem alikeS {rA : List PyData → PR PyData} {d : PyData} (h : Fine 0 d) : B__law_alike rA d d = .ok (.bool true) := by
  unfold B__law_alike
  cases h with
  | none => simp [isiList, isiTup, isiBool, isiInt, isiStr]
  | bool b => cases b <;> simp [isiList, isiTup, isiBool, isiInt, isiStr]
  | int i => simp [isiList, isiTup, isiBool, isiInt, isiStr]
  | str x hx =>
    have e : oEq (.str x) (.str x) = .d (.bool true) := by
      rw [oEq_of (n := 0) (m := 0) (by rw [shN_s]; exact hx) (by rw [shN_s]; exact hx) (by decide) (by decide), PyData.eqv]; simp
    simp [isiList, isiTup, isiBool, isiInt, isiStr, e]
theorem alikeB {rA : List PyData → PR PyData} {n : Nat} (ih : ∀ d, Fine n d → rA [d, d] = .ok (.bool true)) {d : PyData} (h : Fine (n + 1) d) : B__law_alike rA d d = .ok (.bool true) := by
  unfold B__law_alike
  cases h with
  | none => simp [isiList, isiTup, isiBool, isiInt, isiStr]
  | bool b => cases b <;> simp [isiList, isiTup, isiBool, isiInt, isiStr]
  | int i => simp [isiList, isiTup, isiBool, isiInt, isiStr]
  | str x hx =>
    have e : oEq (.str x) (.str x) = .d (.bool true) := by
      rw [oEq_of (n := 0) (m := 0) (by rw [shN_s]; exact hx) (by rw [shN_s]; exact hx) (by decide) (by decide), PyData.eqv]; simp
    simp [isiList, isiTup, isiBool, isiInt, isiStr, e]
  | lst hds hl =>
    rw [alike_row (.inl rfl) hl fun x hx => ih x (hds x hx)]
    simp [isiList, isiTup, isiBool, isiInt, isiStr, oEq_nilL (ds := []) rfl]
  | tup hds hl =>
    rw [alike_row (.inr rfl) hl fun x hx => ih x (hds x hx)]
    simp [isiList, isiTup, isiBool, isiInt, isiStr, oEq_nilL (ds := []) rfl]
theorem Fine.up : ∀ {n m : Nat} {d : PyData}, Fine n d → n ≤ m → Fine m d
  | _, _, _, .none, _ => .none
  | _, _, _, .bool b, _ => .bool b
  | _, _, _, .int i, _ => .int i
  | _, _, _, .str x h, _ => .str x h
  | _ + 1, 0, _, .lst _ _, h => absurd h (by omega)
  | _ + 1, m + 1, _, .lst h1 h2, h => .lst (fun d hd => (h1 d hd).up (Nat.le_of_succ_le_succ h)) h2
  | _ + 1, 0, _, .tup _ _, h => absurd h (by omega)
  | _ + 1, m + 1, _, .tup h1 h2, h => .tup (fun d hd => (h1 d hd).up (Nat.le_of_succ_le_succ h)) h2
theorem alike_n : ∀ (n : Nat) (d : PyData), Fine n d → A__law_alike_n (n + 1) [d, d] = .ok (.bool true)
  | 0, d, h => by
    show B__law_alike _ d d = _
    exact alikeS h
  | n + 1, d, h => alikeB (fun d h => alike_n n d h) h
/-- what one waits for, in the law's way -/
theorem alike_eq {n : Nat} {d : PyData} (h : Fine n d) (hn : n ≤ 11) : A__law_alike [d, d] = .ok (.bool true) := alike_n 11 d (h.up hn)
end Q43

namespace Q43
open PySem ZD ZP
theorem mcompG_pq (f : PyData → PR (Option PyData)) (ds : List PyData) : mcompG (fun d => PQ (f d)) ds = PQ (mcompF f ds) := by
  unfold mcompG mcompF
  split
  · rw [pq_bind, pq_noe, pq_comp]
  · rfl
theorem r_mcompP {dit : Dm (List PyData)} {f : PyData → PR (Option PyData)} {Q : PyData → Prop} {E : String → Prop} (h : Ok dit (fun ds => Ok (PQ (mcompF f ds)) Q E) E) : Ok (mcompD dit fun d => PQ (f d)) Q E := by
  unfold mcompD
  refine r_bind ?_
  have e : (fun a => Ok (mcompG (fun d => PQ (f d)) a) Q E) = fun ds => Ok (PQ (mcompF f ds)) Q E := funext fun ds => by rw [mcompG_pq]
  rw [e]
  exact h
theorem r_orF {α : Type} {p : PR Bool} {ch : Dm Bool} {a b : Dm α} {Q : α → Prop} {E : String → Prop} (hp : p = .ok false) (hc : ∀ Q' : Bool → Prop, Q' false → Ok ch Q' E) (h : Ok b Q E) : Ok (ifD (orD (PQ p) ch) a b) Q E := by
  unfold ifD
  refine r_bind ?_
  unfold orD ifD
  refine r_pure hp ?_
  rw [if_neg Bool.false_ne_true]
  exact hc _ (by simpa using h)
/-! threads of other commands -/
def NM (x_3 : PyData) : PR (Option PyData) := (stP (tstP (o2 (o2 (PR.ok x_3) (PR.ok (.int 0)) fun a b => outS (oIx a b)) ((aconsP (PR.ok (.str "get")) (aconsP (PR.ok (.str "swap")) (PR.ok []))).bind tupF) fun a b => outS ((oIn false) a b))) (o2 (PR.ok x_3) (o1 (PR.ok (.int 1)) fun a => outS ((oI1 fun i => -i) a)) fun a b => outS (oIx a b)))
theorem thread_val {cs ys : List PyData} {ks : List L2.Key} (hl : cs.length ≤ 4) (hc : ∀ c ∈ cs, A_is_command [c] = .ok (.bool true)) (hn : compP NM cs = .ok ys) (hy : ys.length ≤ 4000) (hk : keysOf ys = some ks) : A_is_thread [.tuple cs] = .ok (.bool (((uniq ks).length : Int) == (ys.length : Int))) := by
  show P_is_thread (.tuple cs) = _
  unfold P_is_thread
  have a1 : mallP (.ok cs) (fun x_2 => (st1 ((aconsP (PR.ok x_2) (PR.ok [])).bind fun ds => (A_is_command ds).noe))) = .ok (.bool true) := by
    refine mall_of ((allP_b (g := fun _ => true) fun c h => ?_).trans (by simp))
    simp [hc c h]
  have s1 : mlsetP (PR.ok ys) (fun x_5 => (st1 (PR.ok x_5))) = .ok (.int (uniq ks).length) := by
    show mlsetF _ _ = _
    unfold mlsetF
    have q : compP (fun x_5 => st1 (PR.ok x_5)) ys = .ok (ys.filterMap fun d => some d) := compP_fm (fun d _ => rfl)
    rw [if_pos hy, q, noe_ok, bind_ok, List.filterMap_some]
    unfold lenSetF
    rw [hk]
  have n1 : mcompP (PR.ok cs) NM = .ok (.list ys) := mcomp_of (by omega) hn
  unfold NM at n1
  simp only [bind_ok, seqF_t, o1_ok, oTest_d, isiTup, outS_d, tstP_ok, notP_ok, Bool.not_true, orP_f, oLen_t, o2_ok, oGt_i, a1, decide_eq_false (show ¬ (4 : Int) < (cs.length : Int) by omega), ifP_ok, Bool.false_eq_true, if_false] at n1 ⊢
  rw [n1]
  simp only [bind_ok, seqF_l, s1, o1_ok, oLen_l, outS_d, o2_ok, oEq_i]
theorem prog_val {tss : List (List PyData)} (l1 : 1 ≤ tss.length) (l3 : tss.length ≤ 3) (ht : ∀ cs ∈ tss, A_is_thread [.tuple cs] = .ok (.bool true)) (hs : (tss.map fun t => (t.length : Int)).sum ≤ 8) : A_is_program [.tuple (tss.map .tuple)] = .ok (.bool true) := by
  show P_is_program _ = _
  unfold P_is_program
  have a1 : mallP (.ok (tss.map .tuple)) (fun x_2 => (st1 ((aconsP (PR.ok x_2) (PR.ok [])).bind fun ds => (A_is_thread ds).noe))) = .ok (.bool true) := by
    refine mall_of ((allP_m (g := fun _ => true) tss fun t h => ?_).trans (by simp))
    simp [ht t h]
  have c1 : compP (fun x_3 => (st1 (o1 (PR.ok x_3) fun a => outS (oLen a)))) (tss.map .tuple) = .ok ((tss.map fun t => (t.length : Int)).map .int) := compP_mp (e2 := fun i : Int => .int i) tss fun t _ => by simp
  simp only [bind_ok, seqF_t, o1_ok, oTest_d, isiTup, outS_d, tstP_ok, notP_ok, Bool.not_true, orP_f, oLen_t, chainP_ok, oLe_i, chB_b, List.length_map, decide_eq_true (show (1 : Int) ≤ (tss.length : Int) by omega), if_true, decide_eq_true (show (tss.length : Int) ≤ 3 by omega), a1, ifP_ok, Bool.false_eq_true, if_false]
  rw [mcomp_of (by simp; omega) (by simpa only [o1_ok] using c1)]
  rw [o1_ok, oSum_I, outS_d, o2_ok, oLe_i, outS_d, decide_eq_true hs]
theorem nm_y : A_is_name [.str "y"] = .ok (.bool true) := by rfl
theorem nm_rr : A_is_name [.str "rr"] = .ok (.bool true) := by rfl
theorem nm_a : A_is_name [.str "a"] = .ok (.bool true) := by rfl
theorem nm_a16 : A_is_name [.str (strRep "a" 16)] = .ok (.bool true) := by rfl
theorem t_xr : A_is_thread [.tuple [.tuple [.str "get", .str "x", .str "r"]]] = .ok (.bool true) :=
  (thread_val (ys := [.str "r"]) (ks := [.inr "r"]) (by simp) (fun c hc => by
    rw [List.mem_singleton.mp hc]
    simp [A_is_command, P_is_command, isiTup, isiStr, nm_x, nm_r]) (by simp [compP, NM]) (by simp) rfl).trans (by rfl)
theorem t_put : A_is_thread [.tuple [.tuple [.str "put", .str (strRep "a" 16), .int 9], .tuple [.str "put", .str "a", .int 0]]] = .ok (.bool true) :=
  (thread_val (ys := []) (ks := []) (by simp) (fun c hc => by
    simp only [List.mem_cons, List.not_mem_nil, or_false] at hc
    rcases hc with rfl | rfl <;> simp [A_is_command, P_is_command, isiTup, isiStr, nm_a, nm_a16, dig 9 (by decide) (by decide), dig 0 (by decide) (by decide)]) (by simp [compP, NM]) (by simp) rfl).trans (by rfl)
def twice : PyData := .tuple [.tuple [.str "get", .str "x", .str "rr"], .tuple [.str "swap", .str "y", .int 1, .str "rr"]]
theorem t_twice : A_is_thread [twice] = .ok (.bool false) :=
  (thread_val (ys := [.str "rr", .str "rr"]) (ks := [.inr "rr", .inr "rr"]) (by simp) (fun c hc => by
    simp only [List.mem_cons, List.not_mem_nil, or_false] at hc
    rcases hc with rfl | rfl <;> simp [A_is_command, P_is_command, isiTup, isiStr, nm_x, nm_y, nm_rr, dg_1]) (by simp [compP, NM]) (by simp) rfl).trans (congrArg (fun b => PR.ok (PyData.bool b)) (by decide +kernel))
/-! values that are none -/
theorem ixP {p : List (List Cmd)} {k : Nat} {t : List Cmd} (h : p[k]? = some t) : oIx (eP p) (.int (k : Nat)) = .d (eT t) := oIx_t (by omega) (by rw [Int.toNat_natCast, List.getElem?_map, h]; rfl)
theorem threads_ok {p : List (List Cmd)} (g : Gd p) {l : List PyData} (h : ∀ x ∈ l, x ∈ p.map eT) : ∀ x ∈ l, A_is_thread [x] = .ok (.bool true) := fun x hx => by
  obtain ⟨t, ht, rfl⟩ := List.mem_map.mp (h x hx)
  exact thread_ok (g.t4 t ht) (g.nd t ht)
theorem cmds_ok (t : List Cmd) {l : List PyData} (h : ∀ x ∈ l, x ∈ t.map eC) : ∀ x ∈ l, A_is_command [x] = .ok (.bool true) := fun x hx => by
  obtain ⟨c, _, rfl⟩ := List.mem_map.mp (h x hx)
  exact cmd_ok c
def f4 : PyData := .tuple (List.replicate 4 (.tuple [.str "fence"]))
def f5 : PyData := .tuple (List.replicate 5 (.tuple [.str "fence"]))
def wr1 (p : List (List Cmd)) (t : List Cmd) (a b : Nat) (one : PyData) : PyData := .tuple ((p.map eT).take a ++ .tuple ((t.map eC).take b ++ one :: (t.map eC).drop b) :: (p.map eT).drop (a + 1))
theorem wr1_no {p : List (List Cmd)} (g : Gd p) (t : List Cmd) (a b : Nat) {one : PyData} (h : A_is_command [one] = .ok (.bool false)) : A_is_program [wr1 p t a b one] = .ok (.bool false) :=
  prog_no (threads_ok g fun x hx => List.mem_of_mem_take hx) (thread_no (cmds_ok t fun x hx => List.mem_of_mem_take hx) h)
theorem cutTo (xs : List PyData) (n : Nat) : outR (.nt (cutD xs none (some (n : Int)))) = .ok (.tuple (xs.take n)) := by rw [cut_to (by omega), outR_nt, Int.toNat_natCast]
theorem cutFr (xs : List PyData) (n : Nat) : outR (.nt (cutD xs (some (n : Int)) none)) = .ok (.tuple (xs.drop n)) := by rw [cut_from (by omega), outR_nt, Int.toNat_natCast]
theorem addT {a b : List PyData} (h : a.length + b.length ≤ 1000) : outR (oAdd (.tuple a) (.tuple b)) = .ok (.tuple (a ++ b)) := by rw [oAdd_t (by omega), outR_nt]
theorem addLL {a b : List PyData} (h : a.length + b.length ≤ 1000) : outR (oAdd (.list a) (.list b)) = .ok (.list (a ++ b)) := by rw [oAdd_l (by omega), outR_nl]
theorem x17 : outR (oMulV (.str "x") (.int 17)) = .ok (.str (strRep "x" 17)) := by rfl
theorem u45 (n : Nat) (h : n = 4 ∨ n = 5) : outS (oMulU (.tuple [.tuple [.str "fence"]]) (.int (n : Nat))) = .ok (.tuple (List.replicate n (.tuple [.str "fence"]))) := by
  rcases h with rfl | rfl <;> rfl
theorem u4e : outS (oMulU (.tuple [.tuple []]) (.int 4)) = .ok (.tuple (List.replicate 4 (.tuple []))) := by rfl
theorem odd_ok {p : List (List Cmd)} (g : Gd p) {Q : PyData → Prop} {E : String → Prop} (h : ∀ L : List PyData, L.length ≤ 100 → (∀ d ∈ L, A_is_program [d] = .ok (.bool false)) → Q (.list L)) : Ok (P__law_odd (eP p)) Q E := by
  unfold P__law_odd
  have l1 := g.l1
  have l3 := g.l3
  refine r_bind (r_take (b := (p.length : Nat)) (by simp [eP]) (by omega) fun ai a0 a1 => ?_)
  obtain ⟨a, rfl⟩ := Int.eq_ofNat_of_zero_le a0
  have ha : a < p.length := by omega
  have hp := List.getElem?_eq_getElem ha
  generalize p[a] = t at hp
  have tm : t ∈ p := List.mem_of_getElem? hp
  have t4 := g.t4 t tm
  refine r_pure (a := eT t) (by rw [o2_ok, ixP hp, outS_d]) (r_bind (r_take (b := ((t.length + 1 : Nat) : Int)) (by simp [eT]) (by omega) fun bi b0 b1 => ?_))
  obtain ⟨b, rfl⟩ := Int.eq_ofNat_of_zero_le b0
  refine r_ok (a := .list (((odds ++ odds2).map (wr1 p t a b) ++ [.list (p.map eT), .none, .int 7, .tuple [], .tuple ((p.map eT).take a ++ .list (t.map eC) :: (p.map eT).drop (a + 1))]) ++ [.tuple [twice], .tuple [f5], .tuple [f4, f4, .tuple [.tuple [.str "fence"]]], .tuple (List.replicate 4 (.tuple [])), .tuple [.str "fence"]])) ?_ (h _ (by simp [odds, odds2]) fun d hd => ?_)
  · refine bind_eq (a := .list odds) (by simp only [acons_ok, bind_ok, tupF2, tupF3, tupF4, o1_ok, oI1_i, outS_d]; exact lstF_len (by simp)) ?_
    refine bind_eq (a := .list (odds ++ odds2)) (by
      simp only [acons_ok, bind_ok, tupF_nil, tupF1, tupF2, tupF3, tupF4, lstF1, o2_ok, x17]
      rw [lstF_len (by simp), o2_ok]
      exact addLL (by simp [odds])) ?_
    have e1 : (PyData.int ((a : Nat) : Int)) = .int a := rfl
    have add1 : (a : Int) + 1 = ((a + 1 : Nat) : Int) := by omega
    have lt : ((p.map eT).take a).length ≤ 3 := by rw [List.length_take, List.length_map]; omega
    have ld : ((p.map eT).drop (a + 1)).length ≤ 3 := by rw [List.length_drop, List.length_map]; omega
    have lt2 : ((t.map eC).take b).length ≤ 4 := by rw [List.length_take, List.length_map]; omega
    have ld2 : ((t.map eC).drop b).length ≤ 4 := by rw [List.length_drop, List.length_map]; omega
    have c1 : ∀ x, (o2 (o2 (slcP outR (PR.ok (eP p)) (PR.ok none) ((PR.ok (.int (a : Nat))).bind posF)) ((aconsP (o2 (o2 (slcP outR (PR.ok (eT t)) (PR.ok none) ((PR.ok (.int (b : Nat))).bind posF)) ((aconsP (PR.ok x) (PR.ok [])).bind tupF) fun a b => outR (oAdd a b)) (slcP outR (PR.ok (eT t)) ((PR.ok (.int (b : Nat))).bind posF) (PR.ok none)) fun a b => outR (oAdd a b)) (PR.ok [])).bind tupF) fun a b => outR (oAdd a b)) (slcP outR (PR.ok (eP p)) ((o2 (PR.ok (.int (a : Nat))) (PR.ok (.int 1)) fun a b => outR (oAdd a b)).bind posF) (PR.ok none)) fun a b => outR (oAdd a b)) = .ok (wr1 p t a b x) := fun x => by
      simp only [eP, eT, bind_ok, posF_i, slcP_ok, oSl_t, cutTo, cutFr, acons_ok, tupF1, o2_ok, oAdd_i, outR_d, add1]
      rw [addT (by simp only [List.length_singleton]; omega), o2_ok, addT (by simp only [List.length_append, List.length_singleton]; omega), acons_ok, bind_ok, tupF1, o2_ok, addT (by simp only [List.length_singleton]; omega), o2_ok, addT (by simp only [List.length_append, List.length_singleton]; omega)]
      simp [wr1]
    have c2 : (o2 (o2 (slcP outR (PR.ok (eP p)) (PR.ok none) ((PR.ok (.int (a : Nat))).bind posF)) ((aconsP (o1 (PR.ok (eT t)) fun a => outL (oList a)) (PR.ok [])).bind tupF) fun a b => outR (oAdd a b)) (slcP outR (PR.ok (eP p)) ((o2 (PR.ok (.int (a : Nat))) (PR.ok (.int 1)) fun a b => outR (oAdd a b)).bind posF) (PR.ok none)) fun a b => outR (oAdd a b)) = .ok (.tuple ((p.map eT).take a ++ .list (t.map eC) :: (p.map eT).drop (a + 1))) := by
      simp only [eP, eT, bind_ok, posF_i, slcP_ok, oSl_t, cutTo, cutFr, o1_ok, oList_t, outL_nl, acons_ok, tupF1, o2_ok, oAdd_i, outR_d, add1]
      rw [addT (by simp only [List.length_singleton]; omega), o2_ok, addT (by simp only [List.length_append, List.length_singleton]; omega)]
      simp
    rw [c2]
    have c3 : mcompP ((PR.ok (.list (odds ++ odds2))).bind seqF) (fun x_8 => (st1 (o2 (o2 (slcP outR (PR.ok (eP p)) (PR.ok none) ((PR.ok (.int (a : Nat))).bind posF)) ((aconsP (o2 (o2 (slcP outR (PR.ok (eT t)) (PR.ok none) ((PR.ok (.int (b : Nat))).bind posF)) ((aconsP (PR.ok x_8) (PR.ok [])).bind tupF) fun a b => outR (oAdd a b)) (slcP outR (PR.ok (eT t)) ((PR.ok (.int (b : Nat))).bind posF) (PR.ok none)) fun a b => outR (oAdd a b)) (PR.ok [])).bind tupF) fun a b => outR (oAdd a b)) (slcP outR (PR.ok (eP p)) ((o2 (PR.ok (.int (a : Nat))) (PR.ok (.int 1)) fun a b => outR (oAdd a b)).bind posF) (PR.ok none)) fun a b => outR (oAdd a b)))) = .ok (.list ((odds ++ odds2).map (wr1 p t a b))) := by
      rw [bind_ok, seqF_l]
      refine mcomp_of (by simp [odds, odds2]) ?_
      have q := compP_fm (f := fun x_8 => (st1 (o2 (o2 (slcP outR (PR.ok (eP p)) (PR.ok none) ((PR.ok (.int (a : Nat))).bind posF)) ((aconsP (o2 (o2 (slcP outR (PR.ok (eT t)) (PR.ok none) ((PR.ok (.int (b : Nat))).bind posF)) ((aconsP (PR.ok x_8) (PR.ok [])).bind tupF) fun a b => outR (oAdd a b)) (slcP outR (PR.ok (eT t)) ((PR.ok (.int (b : Nat))).bind posF) (PR.ok none)) fun a b => outR (oAdd a b)) (PR.ok [])).bind tupF) fun a b => outR (oAdd a b)) (slcP outR (PR.ok (eP p)) ((o2 (PR.ok (.int (a : Nat))) (PR.ok (.int 1)) fun a b => outR (oAdd a b)).bind posF) (PR.ok none)) fun a b => outR (oAdd a b)))) (g := fun x => some (wr1 p t a b x)) (ds := odds ++ odds2) fun d _ => by
        show st1 _ = _
        rw [c1, st1_ok]
      rw [q, List.filterMap_eq_map']
    rw [c3]
    refine bind_eq (a := .list ((odds ++ odds2).map (wr1 p t a b) ++ [.list (p.map eT), .none, .int 7, .tuple [], .tuple ((p.map eT).take a ++ .list (t.map eC) :: (p.map eT).drop (a + 1))])) (by
      have e5 : (o1 (PR.ok (eP p)) fun a => outL (oList a)) = .ok (.list (p.map eT)) := by simp [eP]
      rw [e5]
      simp only [acons_ok, bind_ok, tupF_nil]
      rw [lstF_len (by simp), o2_ok]
      exact addLL (by simp [odds, odds2])) ?_
    refine bind_eq (a := twice) (by simp [twice]) ?_
    have z4 := u45 4 (.inl rfl)
    have z5 := u45 5 (.inr rfl)
    simp only [acons_ok, bind_ok, tupF_nil, tupF1, tupF3, o2_ok]
    rw [show (PyData.int 4) = .int ((4 : Nat) : Int) from rfl, show (PyData.int 5) = .int ((5 : Nat) : Int) from rfl, z4, z5]
    rw [show (PyData.int ((4 : Nat) : Int)) = .int 4 from rfl, u4e]
    simp only [acons_ok, bind_ok, tupF1, tupF3]
    rw [lstF_len (by simp), o2_ok]
    exact addLL (by simp [odds, odds2])
  · rcases List.mem_append.mp hd with hd | hd
    · rcases List.mem_append.mp hd with hd | hd
      · obtain ⟨one, ho, rfl⟩ := List.mem_map.mp hd
        exact wr1_no g t a b ((List.mem_append.mp ho).elim (odds_no one) (odds2_no one))
      · simp only [List.mem_cons, List.not_mem_nil, or_false] at hd
        rcases hd with rfl | rfl | rfl | rfl | rfl
        · exact prog_nt rfl
        · exact prog_nt rfl
        · exact prog_nt rfl
        · exact prog_len (.inl rfl)
        · exact prog_no (threads_ok g fun x hx => List.mem_of_mem_take hx) (thread_nt rfl)
    · simp only [List.mem_cons, List.not_mem_nil, or_false] at hd
      rcases hd with rfl | rfl | rfl | rfl | rfl
      · exact prog_no (xs := []) (ys := []) (fun _ h => nomatch h) t_twice
      · exact prog_no (xs := []) (ys := []) (fun _ h => nomatch h) (thread_5 (by simp))
      · have : PyData.tuple [f4, f4, .tuple [.tuple [.str "fence"]]] = eP [[.fence, .fence, .fence, .fence], [.fence, .fence, .fence, .fence], [.fence]] := rfl
        rw [this, prog_is ⟨by decide, by decide, by decide, by decide⟩]
        rfl
      · exact prog_len (.inr (by simp))
      · exact prog_no (xs := []) (ys := []) (fun _ h => nomatch h) (thread_nt rfl)
/-! values that are right -/
def goods (p : List (List Cmd)) : List PyData := [eP p, .tuple [.tuple []], .tuple [.tuple [], .tuple [], .tuple []], .tuple [f4, f4], .tuple [.tuple [.tuple [.str "get", .str "x", .str "r"]], .tuple [.tuple [.str "get", .str "x", .str "r"]]], .tuple [.tuple [.tuple [.str "put", .str (strRep "a" 16), .int 9], .tuple [.str "put", .str "a", .int 0]]]]
theorem goods_ok {p : List (List Cmd)} (g : Gd p) (ht : tot p ≤ 8) : ∀ d ∈ goods p, A_is_program [d] = .ok (.bool true) := by
  intro d hd
  simp only [goods, List.mem_cons, List.not_mem_nil, or_false] at hd
  rcases hd with rfl | rfl | rfl | rfl | rfl | rfl
  · rw [prog_is g, decide_eq_true ht]
  · exact (prog_is (p := [[]]) ⟨by decide, by decide, by decide, by decide⟩).trans rfl
  · exact (prog_is (p := [[], [], []]) ⟨by decide, by decide, by decide, by decide⟩).trans rfl
  · exact (prog_is (p := [[.fence, .fence, .fence, .fence], [.fence, .fence, .fence, .fence]]) ⟨by decide, by decide, by decide, by decide⟩).trans rfl
  · exact prog_val (tss := [[.tuple [.str "get", .str "x", .str "r"]], [.tuple [.str "get", .str "x", .str "r"]]]) (by simp) (by simp) (fun cs h => by
      simp only [List.mem_cons, List.not_mem_nil, or_false] at h
      rcases h with rfl | rfl <;> exact t_xr) (by simp)
  · exact prog_val (tss := [[.tuple [.str "put", .str (strRep "a" 16), .int 9], .tuple [.str "put", .str "a", .int 0]]]) (by simp) (by simp) (fun cs h => by
      rw [List.mem_singleton.mp h]; exact t_put) (by simp)
end Q43

namespace Q43
open PySem ZD ZP
theorem sk_reg : ∀ r : Fin 4, PyData.strOk (regZ r) = true := by decide +kernel
theorem alk (k k' : Nat) (r r' : Fin 4) : PySem.W.alike (eN k r) (eN k' r') = true := by simp [eN, regS_z, PySem.W.alike, PySem.W.alikeAll]
theorem eqvN (k : Nat) (r : Fin 4) : PyData.eqv (eN k r) (eN k r) = true := by simp [eN, regS_z, PyData.eqv, PyData.eqvAll]
theorem eqvAll_refl : ∀ {ds : List PyData}, (∀ d ∈ ds, PyData.eqv d d = true) → PyData.eqvAll ds ds = true
  | [], _ => by simp [PyData.eqvAll]
  | d :: ds, h => by
    rw [PyData.eqvAll, h d (by simp), eqvAll_refl fun x hx => h x (by simp [hx])]; rfl
theorem mem_NN {p : List (List Cmd)} {d : PyData} (h : d ∈ NN p) : ∃ k r, d = eN k r := by
  obtain ⟨q, _, h2⟩ := List.mem_flatMap.mp h
  obtain ⟨r, _, rfl⟩ := List.mem_map.mp h2
  exact ⟨_, _, rfl⟩
theorem mem_GG {p : List (List Cmd)} {d : PyData} (h : d ∈ GG p) : ∃ k j, d = eG k j := by
  obtain ⟨q, _, h2⟩ := List.mem_flatMap.mp h
  obtain ⟨r, _, rfl⟩ := List.mem_map.mp h2
  exact ⟨_, _, rfl⟩
theorem fm_le {f : Nat × List Cmd → List PyData} (B : Nat) : ∀ l : List (Nat × List Cmd), (∀ q ∈ l, (f q).length ≤ B) → (l.flatMap f).length ≤ B * l.length
  | [], _ => by simp
  | a :: l, h => by
    rw [List.flatMap_cons, List.length_append, List.length_cons, Nat.mul_succ]
    have := h a (by simp)
    have := fm_le B l fun q hq => h q (by simp [hq])
    omega
theorem NN_le {p : List (List Cmd)} (g : Sm p) : (NN p).length ≤ 24 := by
  have := fm_le (f := rowN) 8 (zp p) fun q hq => Nat.le_trans (rowN_le q) (g.t8 _ (zp_mem hq))
  rw [zp_len] at this
  have := g.l3
  unfold NN
  omega
theorem GG_le {p : List (List Cmd)} (g : Sm p) : (GG p).length ≤ 24 := by
  have := fm_le (f := rowG) 8 (zp p) fun q hq => Nat.le_trans (rowG_le q) (g.t8 _ (zp_mem hq))
  rw [zp_len] at this
  have := g.l3
  unfold GG
  omega
def SN (p : List (List Cmd)) : List PyData := sortD (NN p)
theorem SN_perm (p : List (List Cmd)) : (SN p).Perm (NN p) := List.mergeSort_perm _ _
theorem mem_SN {p : List (List Cmd)} {d : PyData} (h : d ∈ SN p) : ∃ k r, d = eN k r := mem_NN ((SN_perm p).mem_iff.mp h)
theorem SN_le {p : List (List Cmd)} (g : Sm p) : (SN p).length ≤ 24 := by rw [(SN_perm p).length_eq]; exact NN_le g
theorem sorted_eq {p : List (List Cmd)} (g : Sm p) : oSorted (.list (NN p)) = .nl (SN p) := by
  have l := NN_le g
  refine if_pos ?_
  unfold sortOk
  simp only [Bool.and_eq_true, Bool.or_eq_true, List.all_eq_true, decide_eq_true_eq]
  refine ⟨⟨⟨fun d hd e he => ?_, .inl fun d hd => ?_⟩, fun d hd => ?_⟩, by omega⟩
  · obtain ⟨k, r, rfl⟩ := mem_NN hd
    obtain ⟨k', r', rfl⟩ := mem_NN he
    exact alk k k' r r'
  · obtain ⟨k, r, rfl⟩ := mem_NN hd
    rfl
  · obtain ⟨k, r, rfl⟩ := mem_NN hd
    simp [eN, regS_z, PyData.depth, PyData.depthAll]
theorem regs_eq {p : List (List Cmd)} (g : Sm p) : A_registers [eP p] = .ok (.list (SN p)) := by rw [regs_fold g, sorted_eq g, outL_nl]
theorem fine_N (k : Nat) (r : Fin 4) : Fine 1 (eN k r) := .tup (fun d hd => by
  simp only [List.mem_cons, List.not_mem_nil, or_false] at hd
  rcases hd with rfl | rfl
  · exact .int _
  · rw [regS_z]; exact .str _ (sk_reg r)) (by simp)
theorem fine_G (k j : Nat) : Fine 1 (eG k j) := .tup (fun d hd => by
  simp only [List.mem_cons, List.not_mem_nil, or_false] at hd
  rcases hd with rfl | rfl <;> exact .int _) (by simp)
theorem fine_cell (c : Fin 3) : Fine 0 (cellS c) := by
  match c with
  | 0 => exact .str _ (by decide +kernel)
  | 1 => exact .str _ (by decide +kernel)
  | 2 => exact .str _ (by decide +kernel)
theorem fine_reg (r : Fin 4) : Fine 0 (regS r) := by rw [regS_z]; exact .str _ (sk_reg r)
theorem fine_C (c : Cmd) : Fine 1 (eC c) := by
  cases c with
  | put c v =>
    refine .tup (fun d hd => ?_) (by simp)
    simp only [List.mem_cons, List.not_mem_nil, or_false] at hd
    rcases hd with rfl | rfl | rfl
    · exact .str _ (by decide +kernel)
    · exact fine_cell c
    · exact .int _
  | get c r =>
    refine .tup (fun d hd => ?_) (by simp)
    simp only [List.mem_cons, List.not_mem_nil, or_false] at hd
    rcases hd with rfl | rfl | rfl
    · exact .str _ (by decide +kernel)
    · exact fine_cell c
    · exact fine_reg r
  | swap c v r =>
    refine .tup (fun d hd => ?_) (by simp)
    simp only [List.mem_cons, List.not_mem_nil, or_false] at hd
    rcases hd with rfl | rfl | rfl | rfl
    · exact .str _ (by decide +kernel)
    · exact fine_cell c
    · exact .int _
    · exact fine_reg r
  | fence =>
    refine .tup (fun d hd => ?_) (by simp)
    rw [List.mem_singleton.mp hd]
    exact .str _ (by decide +kernel)
theorem fine_P {p : List (List Cmd)} (g : Sm p) : Fine 3 (eP p) := .tup (fun d hd => by
  obtain ⟨t, ht, rfl⟩ := List.mem_map.mp hd
  have := g.t8 t ht
  exact .tup (fun d hd => by
    obtain ⟨c, _, rfl⟩ := List.mem_map.mp hd
    exact fine_C c) (by simp; omega)) (by have := g.l3; simp; omega)
theorem fine_both {p : List (List Cmd)} (g : Sm p) : Fine 3 (.list [.list (SN p), .list (GG p)]) := .lst (fun d hd => by
  have l1 := SN_le g
  have l2 := GG_le g
  simp only [List.mem_cons, List.not_mem_nil, or_false] at hd
  rcases hd with rfl | rfl
  · exact .lst (fun d hd => by obtain ⟨k, r, rfl⟩ := mem_SN hd; exact fine_N k r) (by omega)
  · exact .lst (fun d hd => by obtain ⟨k, r, rfl⟩ := mem_GG hd; exact fine_G k r) (by omega)) (by simp)
theorem ne_SN {p : List (List Cmd)} : oNe (.list (SN p)) (.list (SN p)) = .d (.bool false) := by
  have sh : shN 5 (.list (SN p)) = true := by
    rw [shN_l, List.all_eq_true]
    intro d hd
    obtain ⟨k, r, rfl⟩ := mem_SN hd
    simp [eN, regS_z, shN_s, sk_reg]
  rw [oNe_of sh sh (by decide) (by decide), PyData.eqv, eqvAll_refl fun d hd => by obtain ⟨k, r, rfl⟩ := mem_SN hd; exact eqvN k r]
  rfl
/-! fences -/
theorem fen_fm (b : Nat → Bool) : ∀ (l : List (Nat × Cmd)), (l.flatMap fun q => (if b q.1 = true then [Cmd.fence] else []) ++ [q.2]).filterMap rg = (l.map (·.2)).filterMap rg
  | [] => rfl
  | (i, c) :: l => by
    have e : ((if b i = true then [Cmd.fence] else []) ++ [c]).filterMap rg = [c].filterMap rg := by cases b i <;> rfl
    rw [List.flatMap_cons, List.filterMap_append, fen_fm b l, e, List.map_cons, ← List.filterMap_append]
    rfl
theorem zp_snd {α : Type} (p : List α) : (zp p).map (·.2) = p := by
  apply List.ext_getElem
  · simp [zp]
  · intro i h1 h2; simp [zp]
theorem fen_rg (b : Nat → Bool) (t : List Cmd) : (fenT b t).filterMap rg = t.filterMap rg := by unfold fenT; rw [fen_fm, zp_snd]
theorem fen_len (b : Nat → Bool) : ∀ (l : List (Nat × Cmd)), (l.flatMap fun q => (if b q.1 = true then [Cmd.fence] else []) ++ [q.2]).length ≤ 2 * l.length
  | [] => by simp
  | q :: l => by
    have := fen_len b l
    rw [List.flatMap_cons, List.length_append, List.length_cons]
    have : ((if b q.1 = true then [Cmd.fence] else []) ++ [q.2]).length ≤ 2 := by split <;> simp
    omega
theorem fen_sm (b : Nat → Nat → Bool) {p : List (List Cmd)} (g : Gd p) : Sm (fenP b p) := by
  refine ⟨by unfold fenP; rw [List.length_map, zp_len]; exact g.l3, fun t ht => ?_⟩
  obtain ⟨q, hq, rfl⟩ := List.mem_map.mp ht
  have := fen_len (b q.1) (zp q.2)
  have := g.t4 _ (zp_mem hq)
  rw [zp_len] at *
  unfold fenT
  omega
theorem zp_map {α β : Type} (f : Nat × α → β) (p : List α) : zp ((zp p).map f) = (zp p).map fun q => (q.1, f q) := by
  apply List.ext_getElem
  · simp [zp]
  · intro i h1 h2; simp [zp]
theorem fen_NN (b : Nat → Nat → Bool) (p : List (List Cmd)) : NN (fenP b p) = NN p := by
  unfold NN fenP
  rw [zp_map, List.flatMap_map]
  congr 1
  funext q
  unfold rowN
  simp only [fen_rg]
theorem fen_SN (b : Nat → Nat → Bool) (p : List (List Cmd)) : SN (fenP b p) = SN p := by unfold SN; rw [fen_NN]
theorem fen_no (p : List (List Cmd)) : fenP (mem2 []) p = p := by
  have : ∀ t : List Cmd, fenT (fun _ => false) t = t := fun t => by
    unfold fenT
    simp only [Bool.false_eq_true, if_false, List.nil_append]
    rw [← List.map_eq_flatMap, zp_snd]
  unfold fenP
  have e : (fun q : Nat × List Cmd => fenT (mem2 [] q.1) q.2) = fun q => q.2 := funext fun q => this q.2
  rw [e, zp_snd]
end Q43

namespace Q43
open PySem ZD ZP
theorem fold_tup {α : Type} {k : PyData → PyData → PR PyData} {e : α → PyData} {g : α → List PyData} (B : Nat) : ∀ (l : List α) (L : List PyData), (∀ a ∈ l, (g a).length ≤ B) → L.length + B * l.length ≤ 100 → (∀ a ∈ l, ∀ L : List PyData, L.length ≤ 100 → k (e a) (.tuple L) = .ok (.tuple (L ++ g a))) → foldP k (l.map e) (.tuple L) = .ok (.tuple (L ++ l.flatMap g))
  | [], L, _, _, _ => by rw [List.flatMap_nil, List.append_nil]; rfl
  | a :: l, L, h1, h2, h3 => by
    have z := h1 a (by simp)
    rw [List.length_cons, Nat.mul_succ] at h2
    rw [List.map_cons, foldP_cons (h3 a (by simp) L (by omega)), fold_tup B l _ (fun b hb => h1 b (by simp [hb])) (by rw [List.length_append]; omega) (fun b hb => h3 b (by simp [hb])), List.flatMap_cons, List.append_assoc]
theorem fold_two {α : Type} {k : PyData → PyData × PyData → PR (PyData × PyData)} {e : α → PyData} {g g2 : α → List PyData} (B : Nat) : ∀ (l : List α) (L M : List PyData), (∀ a ∈ l, (g a).length ≤ B ∧ (g2 a).length ≤ B) → L.length + B * l.length ≤ 100 → M.length + B * l.length ≤ 100 → (∀ a ∈ l, ∀ L M : List PyData, L.length ≤ 100 → M.length ≤ 100 → k (e a) (.list L, .list M) = .ok (.list (L ++ g a), .list (M ++ g2 a))) → foldP k (l.map e) (.list L, .list M) = .ok (.list (L ++ l.flatMap g), .list (M ++ l.flatMap g2))
  | [], L, M, _, _, _, _ => by rw [List.flatMap_nil, List.append_nil, List.flatMap_nil, List.append_nil]; rfl
  | a :: l, L, M, h1, h2, h2', h3 => by
    have z := h1 a (by simp)
    rw [List.length_cons, Nat.mul_succ] at h2 h2'
    rw [List.map_cons, foldP_cons (h3 a (by simp) L M (by omega) (by omega)), fold_two B l _ _ (fun b hb => h1 b (by simp [hb])) (by rw [List.length_append]; omega) (by rw [List.length_append]; omega) (fun b hb => h3 b (by simp [hb])), List.flatMap_cons, List.append_assoc, List.flatMap_cons, List.append_assoc]
theorem ixT {t : List Cmd} {k : Nat} {c : Cmd} (h : t[k]? = some c) : oIx (eT t) (.int (k : Nat)) = .d (eC c) := oIx_t (by omega) (by rw [Int.toNat_natCast, List.getElem?_map, h]; rfl)
theorem fence1 : outS (oMulU (.tuple [.tuple [.str "fence"]]) (.int 1)) = .ok (.tuple [.tuple [.str "fence"]]) := by rfl
theorem fence0 : outS (oMulU (.tuple [.tuple [.str "fence"]]) (.int 0)) = .ok (.tuple []) := by rfl
theorem A_fen {p : List (List Cmd)} (g : Gd p) {S : List PyData} (h : PyData.canLayAll0 S = true) : A_fenced [eP p, .tuple S] = .ok (eP (fenP (mem2 S) p)) := fenced_eq g h
/-- one turn of the law's loop -/
theorem turn_eq {p : List (List Cmd)} (g : Gd p) {S : List PyData} (hS : PyData.canLayAll0 S = true) :
    (((PR.ok []).bind lstF).bind fun rows_88 =>  (PR.bind ((o1 (PR.ok (eP p)) fun a => outS (oLen a)).bind rng1F) fun l_103 => (PR.bind (foldP (fun d_90 (s_89 : PyData) =>  (((PR.ok []).bind tupF).bind fun row_91 =>  (PR.bind ((o1 (o2 (PR.ok (eP p)) (PR.ok d_90) fun a b => outS (oIx a b)) fun a => outS (oLen a)).bind rng1F) fun l_101 => (PR.bind (foldP (fun d_96 (s_95 : PyData) =>  ((o2 (o2 (PR.ok s_95) (o2 ((aconsP ((aconsP (PR.ok (.str "fence")) (PR.ok [])).bind tupF) (PR.ok [])).bind tupF) (o1 (o2 ((aconsP (PR.ok d_90) (aconsP (PR.ok d_96) (PR.ok []))).bind tupF) (PR.ok (.tuple S)) fun a b => outS ((oInS false) a b)) fun a => outS (oIntB a)) fun a b => outS (oMulU a b)) fun a b => outR (oAdd a b)) ((aconsP (o2 (o2 (PR.ok (eP p)) (PR.ok d_90) fun a b => outS (oIx a b)) (PR.ok d_96) fun a b => outS (oIx a b)) (PR.ok [])).bind tupF) fun a b => outR (oAdd a b)).bind fun row_97 =>  (PR.ok row_97))) l_101 row_91) fun (s_98 : PyData) => ((PR.ok s_98).bind fun y_100 => (appF s_89 y_100).bind fun rows_99 =>  (PR.ok rows_99)))))) l_103 rows_88) fun (s_102 : PyData) => (ifP (orP (notP (tstP ((aconsP ((aconsP (PR.ok (eP p)) (aconsP (PR.ok (.tuple S)) (PR.ok []))).bind fun ds => (A_fenced ds).noe) (aconsP (o1 (PR.ok s_102) fun a => outS (oTuple a)) (PR.ok []))).bind fun ds => (A__law_alike ds).noe))) (tstP (o2 ((aconsP ((aconsP (PR.ok (eP p)) (aconsP (PR.ok (.tuple S)) (PR.ok []))).bind fun ds => (A_fenced ds).noe) (PR.ok [])).bind fun ds => (A_registers ds).noe) (o1 (PR.ok (.list (NN p))) fun a => outL (oSorted a)) fun a b => outS (oNe a b))))  ((PR.ok (.bool false)).bind fun r => PR.ok (LR.rt r))  (PR.ok (LR.nx ())))))) = (.ok (LR.nx ()) : PR (LR Unit PyData)) := by
  have l3 := g.l3
  have e1 : (o1 (PR.ok (eP p)) fun a => outS (oLen a)) = .ok (.int (p.length : Nat)) := by simp [eP]
  rw [bind_ok, lstF_nil, bind_ok, e1, bind_ok, rng1_n (by omega), bind_ok, ran_zp]
  refine bind_eq (fold_ext (g := fun q => [eT (fenT (mem2 S q.1) q.2)]) 1 (zp p) [] (fun q h => by simp) (by rw [zp_len]; simp; omega) fun q hq L hL => ?_) ?_
  · have t4 := g.t4 _ (zp_mem hq)
    have hp := mem_zp.mp hq
    have e2 : (o2 (PR.ok (eP p)) (PR.ok (.int (q.1 : Nat))) fun a b => outS (oIx a b)) = .ok (eT q.2) := by rw [o2_ok, ixP hp, outS_d]
    have e3 : (o1 (PR.ok (eT q.2)) fun a => outS (oLen a)) = .ok (.int (q.2.length : Nat)) := by simp [eT]
    rw [e2, e3]
    rw [bind_ok, tupF_nil, bind_ok, bind_ok, rng1_n (by omega), bind_ok, ran_zp]
    refine bind_eq (fold_tup (g := fun r => ((if mem2 S q.1 r.1 = true then [Cmd.fence] else []) ++ [r.2]).map eC) 2 (zp q.2) [] (fun r hr => by split <;> simp) (by rw [zp_len]; simp; omega) fun r hr M hM => ?_) ?_
    · simp only [acons_ok, bind_ok, tupF2, tupF1, o2_ok, in_S hS, outS_d, ixT (mem_zp.mp hr)]
      cases mem2 S q.1 r.1 with
      | true =>
        have : (o1 (PR.ok (.bool true)) fun a => outS (oIntB a)) = .ok (.int 1) := rfl
        rw [this, o2_ok, fence1, o2_ok, addT (by simp; omega), o2_ok, addT (by simp; omega), bind_ok]
        simp [eC]
      | false =>
        have : (o1 (PR.ok (.bool false)) fun a => outS (oIntB a)) = .ok (.int 0) := rfl
        rw [this, o2_ok, fence0, o2_ok, addT (by simp; omega), o2_ok, addT (by simp; omega), bind_ok]
        simp
    · rw [bind_ok, appF_ok (by omega), bind_ok, List.nil_append]
      unfold fenT eT
      rw [List.map_flatMap]
  · have e4 : ((zp p).flatMap fun q => [eT (fenT (mem2 S q.1) q.2)]) = (fenP (mem2 S) p).map eT := by
      unfold fenP
      rw [List.map_map]
      induction zp p with
      | nil => rfl
      | cons a l ih => rw [List.flatMap_cons, ih]; rfl
    have sm := fen_sm (mem2 S) g
    have e5 : A__law_alike [eP (fenP (mem2 S) p), .tuple ((fenP (mem2 S) p).map eT)] = .ok (.bool true) := alike_eq (fine_P sm) (by decide)
    rw [List.nil_append, e4]
    simp only [acons_ok, bind_ok, A_fen g hS, noe_ok, o1_ok, oTuple_l, outS_nt, e5, tstP_ok, notP_ok, Bool.not_true, orP_f, regs_eq sm, fen_SN, sorted_eq g.sm, outL_nl, o2_ok, ne_SN, outS_d, ifP_ok, Bool.false_eq_true, if_false]
end Q43

namespace Q43
open PySem ZD ZP
theorem A_prog (x : PyData) : A__law_program [x] = P__law_program x := id rfl
theorem A_odd (x : PyData) : A__law_odd [x] = P__law_odd x := id rfl
theorem says_t : A__law_says [.bool true, .bool true] = .ok (.bool true) := by simp [A__law_says, P__law_says, isiBool]
theorem z4 : outS (oMulU (.tuple [.tuple [.str "fence"]]) (.int 4)) = .ok f4 := by rfl
theorem a16 : outR (oMulV (.str "a") (.int 16)) = .ok (.str (strRep "a" 16)) := by rfl
theorem shG (p : List (List Cmd)) : ∀ d ∈ GG p, d.canLay0 = true := fun d hd => by
  obtain ⟨k, j, rfl⟩ := mem_GG hd
  simp [eG, PyData.canLay0, PyData.canLayAll0]
theorem says_no {x : PyData} (h : A_is_program [x] = .ok (.bool true)) : (stP (notP (tstP ((aconsP ((aconsP (PR.ok x) (PR.ok [])).bind fun ds => (A_is_program ds).noe) (aconsP (PR.ok (.bool true)) (PR.ok []))).bind fun ds => (A__law_says ds).noe))) (PR.ok x)) = .ok none := by
  simp only [acons_ok, bind_ok, h, noe_ok, says_t, tstP_ok, notP_ok, Bool.not_true, stP_f]
theorem odd_no {x : PyData} (h : A_is_program [x] = .ok (.bool false)) : (stP (tstP (o2 ((aconsP (PR.ok x) (PR.ok [])).bind fun ds => (A_is_program ds).noe) (PR.ok (.bool false)) fun a b => outS ((oIs true) a b))) (PR.ok x)) = .ok none := by
  simp [acons_ok, bind_ok, h, noe_ok]
theorem law_ok {d : PyData} (hd : GoodScr d) : Ok (P_law d) (fun b => b = .bool true) fun _ => False := by
  unfold P_law
  refine r_draws hd (r_bind (r_bind (r_ok rfl (r_nD ?_))))
  rw [A_prog]
  refine r_program fun p g ht => ?_
  have l1 := g.l1
  have l3 := g.l3
  have e1 : (o1 (PR.ok (eP p)) fun a => outS (oLen a)) = .ok (.int (p.length : Nat)) := by simp [eP]
  rw [e1, bind_ok, rng1_n (by omega)]
  refine r_pure (a := eP p) ?_ ?_
  · rw [mcomp_of (ys := []) (by simp [ran]; omega) (compP_none fun y hy => by
      rw [ran_zp] at hy
      obtain ⟨q, hq, rfl⟩ := List.mem_map.mp hy
      have t4 := g.t4 _ (zp_mem hq)
      simp only [o2_ok, ixP (mem_zp.mp hq), outS_d, o1_ok, eT, oLen_t, List.length_map, oGt_i, decide_eq_false (show ¬ (4 : Int) < (q.2.length : Int) by omega), tstP_ok, stP_f]), bind_ok, lstF_nil, o2_ok, oNe_nilL (ds := []) rfl]
    rfl
  refine r_pure (a := .list (goods p)) (by
    simp only [acons_ok, bind_ok, tupF_nil, tupF1, tupF2, tupF3, tupF4, lstF1, o2_ok, z4, a16]
    exact lstF_len (by simp)) ?_
  refine r_orF ?_ (fun Q' hQ => ?_) ?_
  · rw [bind_ok, seqF_l, mcomp_of (ys := []) (by simp [goods]) (compP_none fun x hx => says_no (goods_ok g ht x hx)), bind_ok, lstF_nil, o2_ok, oNe_nilL (ds := []) rfl]
    rfl
  · unfold tstD
    refine r_bind (r_b2R (b := .list []) (by rw [bind_ok, lstF_nil]) (r_mcompP (r_bind (r_bind (r_ok rfl (r_nD ?_))))))
    rw [A_odd]
    refine odd_ok g fun L hl hL => r_ok rfl ?_
    refine r_ok (a := .list []) (mcomp_of (by omega) (compP_none fun x hx => odd_no (hL x hx))) (r_ok (a := .bool false) (by rw [oNe_nilL (ds := []) rfl]; rfl) (r_ok rfl hQ))
  refine r_pure (a := .list []) (by rw [bind_ok, lstF_nil]) (r_pure (a := .list []) (by rw [bind_ok, lstF_nil]) (r_pure (a := I (ran p.length)) (by rw [e1, bind_ok, rng1_n (by omega)]) ?_))
  rw [ran_zp, ← pq_fold]
  refine r_pure (fold_two (g := rowN) (g2 := rowG) 8 (zp p) [] [] (fun q hq => ⟨Nat.le_trans (rowN_le q) (g.sm.t8 _ (zp_mem hq)), Nat.le_trans (rowG_le q) (g.sm.t8 _ (zp_mem hq))⟩) (by rw [zp_len]; simp; omega) (by rw [zp_len]; simp; omega) fun q hq L M hL hM => ?_) ?_
  · have t8 := g.sm.t8 _ (zp_mem hq)
    have e2 : (o2 (PR.ok (eP p)) (PR.ok (.int (q.1 : Nat))) fun a b => outS (oIx a b)) = .ok (eT q.2) := by rw [o2_ok, ixP (mem_zp.mp hq), outS_d]
    have e3 : (o1 (PR.ok (eT q.2)) fun a => outS (oLen a)) = .ok (.int (q.2.length : Nat)) := by simp [eT]
    have r1 := rowN_le q
    have r2 := rowG_le q
    rw [e2, e3, comp_G q.1 q.2 t8]
    have e4 := comp_N q.1 q.2 t8
    rw [show (PR.ok (eT q.2)).bind seqF = .ok (q.2.map eC) from rfl, e4, o2_ok, oAdd_l (by have : (rowN (q.1, q.2)).length = (rowN q).length := rfl; omega), outR_nl, bind_ok, o2_ok, oAdd_l (by have : (rowG (q.1, q.2)).length = (rowG q).length := rfl; omega), outR_nl, bind_ok]
  rw [List.nil_append, List.nil_append]
  show Ok (ifD (PQ (notP (tstP ((aconsP ((aconsP ((aconsP (PR.ok (eP p)) (PR.ok [])).bind fun ds => (A_registers ds).noe) (aconsP ((aconsP (PR.ok (eP p)) (PR.ok [])).bind fun ds => (A_gaps ds).noe) (PR.ok []))).bind lstF) (aconsP ((aconsP (o1 (PR.ok (.list (NN p))) fun a => outL (oSorted a)) (aconsP (PR.ok (.list (GG p))) (PR.ok []))).bind lstF) (PR.ok []))).bind fun ds => (A__law_alike ds).noe)))) _ _) _ _
  refine r_no ?_ ?_
  · have e5 : A__law_alike [.list [.list (SN p), .list (GG p)], .list [.list (SN p), .list (GG p)]] = .ok (.bool true) := alike_eq (fine_both g.sm) (by decide)
    simp only [acons_ok, bind_ok, regs_eq g.sm, gaps_fold g.sm, noe_ok, lstF2, o1_ok, sorted_eq g.sm, outL_nl, e5, tstP_ok, notP_ok, Bool.not_true]
  refine r_pure (a := I (ran 3)) (by rw [bind_ok]; exact rng1_n (n := 3) (by decide)) ?_
  refine r_loopA (fun _ _ => True) trivial (fun i d s hd _ Q' hQ => ?_) fun s _ => ?_
  · refine r_bind (r_b1 (r_mcomp (fun d o => o = none ∨ o = some d) (ds := GG p) rfl (by have := GG_le g.sm; omega) (fun x _ Q2 h => r_st (fun Q3 a b => r_chance (by decide) (fun r => ⟨_, oEq_i r 0⟩) a b) (h _ (.inr rfl)) (h _ (.inl rfl))) fun os hos => ?_))
    have hsub := sub_of (fun _ _ h => h) hos
    refine r_ok (a := .tuple (os.flatMap Option.toList)) (by rw [oTuple_l, outS_nt]) ?_
    have hS : PyData.canLayAll0 (os.flatMap Option.toList) = true := by
      rw [canAll_eq, List.all_eq_true]
      exact fun x hx => shG p x (hsub.subset hx)
    exact r_ok (turn_eq g hS) (hQ () trivial)
  · refine r_ok (a := .bool true) ?_ rfl
    have e6 : A__law_alike [eP p, eP p] = .ok (.bool true) := alike_eq (fine_P g.sm) (by decide)
    have e7 := A_fen g (S := []) rfl
    rw [fen_no] at e7
    simp only [acons_ok, bind_ok, tupF_nil, e7, noe_ok, e6]
/-- the law -/
theorem law_holds : PySem.Challenge.rw_happenedfirst_k43_programs_and_gaps.Holds := the_end fun ns h1 h2 => law_end q_law (fun _ => rfl) (fun d hd => ok_of (law_ok hd)) ns h1 h2
end Q43

open Q43
theorem PySem.Challenge.cw_happenedfirst_k43_programs_and_gaps_holds : PySem.Challenge.rw_happenedfirst_k43_programs_and_gaps.Holds := by
  exact Q43.law_holds
