import PyProof.Rows.All
import Wide.All
import OpenK.AllK
import Wide.FinOn
import HandS.ForMost
import HandS.AnyAll
import HandS.GenOver
import PyProof.TupleOfSeq
import HandS.GenList
import PyProof.SumWalkG
import HandS.Conv
import HandS.Deep
import HandS.IsInst
import HandS.NoneIn
import HandS.TupAny
import HandS.Zip
import HandS.Rev
import HandS.Style
import HandS.Flow
import HandS.Wide
import KE.KDictKeyed
import HandS.Iter
import KE.LtData
import HandS.TupMul
import HandS.TupLen
import KE.SortData
import HandS.HeadWalk
import HandS.HeadHook4
import HandS.Head2
import HandS.Defaults
import HandS.Small
import HandS.RevRange
import PyProof.ListRange
import KE.GoesEnum
import PyProof.FactsAll.range_iterator_1
import HandS.WideBits
import HandS.Call
import KE.KTupSum
import PyProof.StrOps2
import HandS.SetBool
import HandS.SetKeys
import HandS.ExcIs
import HandS.ExcCtx
import HandS.HotCalls
import PyProof.ExcBaseAll.ValueError
import HandS.Star
import HandS.Text
import HandS.Sort
import KE.DataCmp
import KE.KItemsList
import HandS.ListItems
import HandS.Keys
import KE.KDictPairs
import KE.DataMinMax
import KE.DataFind
import KE.KDictList
import KE.KDictWalk
import KE.KDictDisplayH
import KE.KDictZip
import KE.KSortTupAny
import PySem.Challenge.RW_happenedfirst_k57_vectors
set_option Elab.async false
set_option linter.all false
set_option maxRecDepth 100000
set_option maxHeartbeats 0
namespace ZG
open PySem PySem.Spec PyProof.Rows L2 GxR

/-- the same state but for the table of generators, tokens and draws -/
theorem inv_like {X : Cx} {pins : List (Addr × Obj)} {sg : L2.St} {H : Hp} {s t : Shared} (I : Inv X pins sg H s)
    (eh : t.heap = s.heap) (eo : t.os = s.os) (eb : AllBare t.gens) : Inv X pins sg H t := by
  obtain ⟨a1, a2, a3, a4, a5, a6, a7, a8, a9, b1, b2⟩ := I
  refine ⟨a1, eo.trans a2, eb, ?_, ?_, ?_, a7, a8, ?_, ?_, b2⟩
  · rw [eh]; exact a4
  · rw [eh]; exact a5
  · rw [eh]; exact a6
  · rw [eh]; exact a9
  · rw [eh]; exact b1

/-- the context in which a generator expression's frame runs -/
abbrev gcx (X : Cx) (A : Around) (s : Shared) (H : Hp) (scope : Scope) (env : Env) (fp : List Addr) : Cx :=
  { X with A := A, s_0 := s, H_0 := H, env := env, outer := X.stack, stack := env :: X.stack, ex := fp, fn := fun x => scope.names.lookup x == some .cell, pn := [], xe := fun _ _ => False }

/-- what its consumer wants of each thing that is handed out: the thing, the heap, what must hold to go on -/
abbrev CW := V → Hp → (Hp → Prop) → Prop

section
variable {Y : Cx} {A : Around} {ps : List (Addr × Obj)} {sw : L2.St} {S : Hp → Prop} {C : CW}
variable {elt tg iter : Expr} {ifs : List Expr} {scope : Scope} {pos : Pos} {it : Addr} {fp : List Addr} {tn : Nat → Heap → Prop} {J : It}
variable {g : TG} {tt : TT} {te : TE} {vs : List Nat}

def gProto (Y : Cx) (ps : List (Addr × Obj)) (C : CW) : Protocol := fun _ _ v s kap =>
  ∃ (y : V) (sg : L2.St) (H : Hp) (Nx : Hp → Prop), RelV y v ∧ Inv Y ps sg H s ∧ C y H Nx ∧
    (Nx H → ∀ t : Shared, t.heap = s.heap → t.os = s.os → AllBare t.gens → kap (.send .none) t)
def gOver (Y : Cx) (ps : List (Addr × Obj)) (S : Hp → Prop) : Nat → Shared → Shared → Prop := fun _ _ s => ∃ sg H, Inv Y ps sg H s ∧ S H

theorem loop_seg (hA : A.over (.compLoop (.GeneratorExp elt [⟨tg, iter, ifs, 0⟩] scope pos) 0 (.ref it) .none Y.env) [] = Y.A)
    (hx : Y.xe = fun _ _ => False) (hc : Y.calm = true) (T : Turn Y.prog Y.w Y.K tg J fp it tn)
    (hg : PG Y tg g) (ht : PTs Y ifs tt) (he : PE Y elt te)
    (hco : Y.env.scope.isCoroutine = false)
    (hfp : ∀ b ∈ fp, ∀ (sg : L2.St) (H : Hp) (s : Shared), Inv Y ps sg H s → H b = none → FpOk Y ps H b)
    (W : Nat → Nat → Hp → Prop)
    (turn : ∀ i m H, W i m H → (J.stop i H ∧ S H) ∨ (J.go i H ∧ ∃ Nx : Hp → Prop, (∀ H', Nx H' → ∃ m', m' < m ∧ W (i + 1) m' H') ∧
      ∀ x H', J.yld i H x H' → g x sw H' fun σ2 H2 => (wipe σ2 vs = sw) ∧ tt σ2 H2 fun b H3 => if b = true then te σ2 H3 fun y H4 => C y H4 Nx else Nx H3)) :
    ∀ (m n i : Nat) (z s : Shared) (H : Hp), m < n → W i m H → Inv Y ps sw H s → tn i s.heap → (∀ b ∈ fp, H b = none) →
      Seg (model Y.prog Y.w) A (fun n z r s => r = .ok .next ∧ gOver Y ps S n z s) (gProto Y ps C) n z
        (.compLoop (.GeneratorExp elt [⟨tg, iter, ifs, 0⟩] scope pos) 0 (.ref it) .none Y.env)
        ((model Y.prog Y.w).den (.compLoop (.GeneratorExp elt [⟨tg, iter, ifs, 0⟩] scope pos) 0 (.ref it) .none Y.env)) [] s := by
  intro m
  induction m using Nat.strongRecOn with
  | ind m ih =>
    intro n i z s H hmn w I st nf
    have stat : ∀ {sg : L2.St} {H : Hp} {s : Shared}, Inv Y ps sg H s → (∀ b ∈ fp, H b = none) → ∀ b ∈ fp, FpOk Y ps H b := fun {sg H s} I' hn b hb => hfp b hb sg H s I' (hn b hb)
    have nxe : ∀ (x : Value) (q : Shared), ¬ Y.xe x q := fun x q h => by rw [hx] at h; exact h
    show Seg _ A _ _ _ z _ ((compTurn (.GeneratorExp elt [⟨tg, iter, ifs, 0⟩] scope pos) 0 (.ref it) .none Y.env).onRaise (leaving Y.env)) [] s
    rw [compTurn_gen, Sem.onRaise_eq_wrap]
    refine seg_bind_wrap (wpAny_standAt ?_)
    rcases turn i m H w with ⟨stop, fin⟩ | ⟨go, Nx, hNx, step⟩
    · refine seg_bind_wrap ?_
      rw [hA]
      refine wpAny_mono (T.done Y rfl rfl rfl hc i ps s sw H (fun _ _ => False) I (stat I nf) st stop) (fun r s1 hr => ?_) fun _ _ q => q.elim
      obtain ⟨rfl, I1⟩ := hr
      exact seg_end (.ok .next) ⟨rfl, sw, H, I1, fin⟩
    · refine seg_bind_wrap ?_
      rw [hA]
      refine wpAny_mono (T.item Y rfl rfl rfl hc i ps s sw H (fun _ _ => False) I (stat I nf) st go) (fun r s1 hr => ?_) fun _ _ q => q.elim
      obtain ⟨u, rfl, h1⟩ := hr
      refine seg_bind_wrap ?_
      rw [hA]
      refine wpAny_mono h1 (fun _ s2 h2 => ?_) fun _ _ q => q.elim
      obtain ⟨x, H2, I2, r2, y2, st2, n2⟩ := h2
      have I2' := I2.pinned (stat I2 n2) (T.obj _ _ st2)
      refine seg_bind_wrap ?_
      rw [hA]
      refine wpAny_mono (hg.run _ s2 sw H2 x u _ I2' r2 (step x H2 y2)) (fun _ s3 h3 => ?_) fun _ _ q => (nxe _ _ q).elim
      obtain ⟨σ3, H3, I3, hw3, q3⟩ := h3
      refine seg_bind_wrap ?_
      rw [hA]
      refine wpAny_mono (ht.run _ s3 σ3 H3 _ I3 q3) (fun b s4 h4 => ?_) fun _ _ q => (nxe _ _ q).elim
      obtain ⟨H4, I4, q4⟩ := h4
      -- what holds at the turn's end
      have back : ∀ {n' : Nat} {z' s' : Shared} {H' : Hp}, m ≤ n' → Inv Y (ps ++ pinsAt fp s2.heap) σ3 H' s' → Nx H' →
          Seg (model Y.prog Y.w) A (fun n z r s => r = .ok .next ∧ gOver Y ps S n z s) (gProto Y ps C) n' z'
            (.compLoop (.GeneratorExp elt [⟨tg, iter, ifs, 0⟩] scope pos) 0 (.ref it) .none Y.env)
            ((model Y.prog Y.w).den (.compLoop (.GeneratorExp elt [⟨tg, iter, ifs, 0⟩] scope pos) 0 (.ref it) .none Y.env)) [] s' := by
        intro n' z' s' H' hn' I' nx
        obtain ⟨m', hm, w'⟩ := hNx H' nx
        have pin' : ∀ b ∈ fp, ∀ o, s2.heap.get? b = some o → s'.heap.get? b = some o ∧ H' b = none := fun b hb o e =>
          let q := I'.pin (b, o) (List.mem_append_right _ (List.mem_append_right _ (mem_pinsAt hb e)))
          ⟨q.1, q.2.1⟩
        have I5 : Inv Y ps sw H' s' := by
          have J := I'.unpinned.weak (σ' := wipe σ3 vs) (wipe_length _ _) fun i v e => (wipe_some e).1
          rw [hw3] at J
          exact J
        refine ih m' hm n' (i + 1) z' s' H' (by omega) w' I5 (T.keep _ _ _ st2 fun b hb o e => (pin' b hb o e).1) fun b hb => ?_
        obtain ⟨o, e, _⟩ := T.obj _ _ st2 b hb
        exact (pin' b hb o e).2
      cases b with
      | false =>
        simp only [Bool.false_eq_true, if_false]
        exact seg_again rfl (back (by omega) I4 q4)
      | true =>
        have hy : ∀ v, yieldOut Y.env v = yieldValue v := fun v => by simp only [yieldOut, hco, Bool.false_eq_true, if_false]
        simp only [if_true, hy]
        rw [Sem.bind_eq_wrap', Sem.bind_eq_wrap', Sem.wrap_wrap, Sem.wrap_wrap]
        refine seg_wrap ?_
        rw [hA]
        refine wpAny_mono (he.run _ s4 σ3 H4 _ I4 q4) (fun v s5 h5 => ?_) fun _ _ q => (nxe _ _ q).elim
        obtain ⟨y, H5, I5, r5, q5⟩ := h5
        obtain ⟨k, rfl⟩ : ∃ k, n = k + 1 := ⟨n - 1, by omega⟩
        refine seg_at (seg_yield rfl rfl rfl ⟨y, σ3, H5, Nx, r5, I5.unpinned, q5, fun nx t eh eo eb => ?_⟩)
        exact seg_again rfl (back (by omega) (inv_like I5 eh eo eb) nx)
end
end ZG


namespace ZG
open PySem PySem.Spec PyProof.Rows L2 GxR

section
variable {X : Cx} {pins : List (Addr × Obj)} {sg : L2.St} {H : Hp} {s t : Shared} {A : Around} {scope : Scope} {own : List (Str × Nat)} {fp : List Addr} {env : Env}

/-- the facts of the new frame's record -/
structure GEnv (X : Cx) (s : Shared) (scope : Scope) (env : Env) : Prop where
  sc : env.scope = scope
  loc : env.locals = s.heap.objs.size
  cl : env.cells = cellsFrom (s.heap.objs.size + 1) scope.names (cloFrom X.env.cells scope.names [])
  gl : env.globals = X.env.globals
  bl : env.builtins = builtinsNs
  fr : env.frame = some s.heap.objs.size

theorem gen_inv {m0 : Str → Option Value} (I : Inv X pins sg H s) (ok : BlkOk X.N X.env.scope scope own) (hN : X.N.Nodup) (hfp : ∀ b ∈ fp, FpOk X pins H b ∧ b < s.heap.objs.size)
    (E : GEnv X s scope env) (hA : A.handled = none) (hF : A.frames = some (env :: X.stack)) (eo : t.os = s.os) (eb : AllBare t.gens)
    (kp : ∀ b o, s.heap.get? b = some o → t.heap.get? b = some o) (ns : t.heap.Ns s.heap.objs.size m0)
    (hcell : ∀ y c, (y, NameKind.cell) ∈ scope.names → s.heap.objs.size + 1 ≤ c → env.cells.lookup y = some c → ∃ v, t.heap.IsCell c v) :
    Inv (gcx X A s H scope env fp) [] (wipe sg (own.map (·.2))) H t := by
  obtain ⟨e1, e2, e3, e4, e5, e6⟩ := E
  have hfree : ∀ y ∈ scope.names, y.2 = .free → ∃ c, X.env.cells.lookup y.1 = some c := fun y hy e => by
    rcases ok.free y hy e with k | k
    · exact I.ok.has _ (.inl k)
    · exact I.ok.has _ (.inr k)
  have e3' : env.cells = cellsFrom (s.heap.push { cls := .type "frame", data := .dict #[] }).objs.size scope.names (cloFrom X.env.cells scope.names []) := by
    rw [Heap.size_push]; exact e3
  have cm : ∀ {y c}, (y, c) ∈ cloFrom X.env.cells scope.names [] → X.env.cells.lookup y = some c ∧ c < s.heap.objs.size := fun {y c} hm => by
    rcases cloFrom_mem hm with hm | ⟨h1, h2⟩
    · cases hm
    · obtain ⟨c', hc⟩ := hfree _ h1 rfl
      have e : c = c' := by rw [h2, hc]; rfl
      obtain ⟨w, z⟩ := I.cell _ _ hc
      rw [e]
      exact ⟨hc, z.lt⟩
  have mem : ∀ {y c}, env.cells.lookup y = some c → (X.env.cells.lookup y = some c ∧ c < s.heap.objs.size) ∨ ((y, NameKind.cell) ∈ scope.names ∧ s.heap.objs.size + 1 ≤ c) := fun {y c} e => by
    rw [e3'] at e
    rcases cells_mem (PySem.mem_of_lookup e) with hm | ⟨h1, h2, _⟩
    · exact .inl (cm hm)
    · rw [Heap.size_push] at h2; exact .inr ⟨h1, h2⟩
  have look : ∀ {y}, scope.names.lookup y = some .free → ∃ c, env.cells.lookup y = some c ∧ X.env.cells.lookup y = some c := fun {y} hl => by
    have hy : (y, NameKind.free) ∈ scope.names := PySem.mem_of_lookup hl
    obtain ⟨c', e'⟩ := mem_lookup (cells_acc (names := scope.names) (n := (s.heap.push { cls := .type "frame", data := .dict #[] }).objs.size) (cloFrom_has (cells := X.env.cells) (acc := []) hy))
    rw [← e3'] at e'
    refine ⟨c', e', ?_⟩
    rcases mem e' with h | ⟨h1, _⟩
    · exact h.1
    · have q := ok.uniq _ h1
      rw [hl] at q; cases q
  have eN : ∀ b ∈ fp, b ≠ s.heap.objs.size := fun b hb => Nat.ne_of_lt (hfp b hb).2
  have okB : (gcx X A s H scope env fp).Ok := by
    refine ⟨I.ok.mod, by show env.scope.kind = _; rw [e1]; exact ok.kind, by show env.globals = _; rw [e4]; exact I.ok.glob, e5, by show s.heap.objs.size ≤ env.locals; rw [e2]; exact Nat.le_refl _,
      ?inj, ?has, ?cab, fun _ => hA, hF, .inr ⟨rfl, by show env.frame = some env.locals; rw [e6, e2]⟩, ?exf, I.bs, Nat.le_trans I.ok.bsz I.sz, ?noex, ?exfs, I.stack, I.stkFree⟩
    case inj =>
      intro y z c h1 h2
      have h1 : env.cells.lookup y = some c := h1
      have h2 : env.cells.lookup z = some c := h2
      rw [e3'] at h1 h2
      refine cells_inj (fun p hp => ?_) (fun y z c a b => I.ok.inj y z c (cm a).1 (cm b).1) (PySem.mem_of_lookup h1) (PySem.mem_of_lookup h2)
      rw [Heap.size_push]
      exact Nat.lt_succ_of_lt (cm (y := p.1) (c := p.2) hp).2
    case has =>
      intro y hy
      show ∃ c, env.cells.lookup y = some c
      have hy : scope.names.lookup y = some .cell ∨ scope.names.lookup y = some .free := by
        have q : env.kindOf y = some .cell ∨ env.kindOf y = some .free := hy
        unfold Env.kindOf at q
        rw [e1] at q
        exact q
      rcases hy with h | h
      · obtain ⟨c, hm⟩ := cells_has (n := (s.heap.push { cls := .type "frame", data := .dict #[] }).objs.size) (acc := cloFrom X.env.cells scope.names []) (PySem.mem_of_lookup h)
        obtain ⟨c', e'⟩ := mem_lookup hm
        exact ⟨c', by rw [e3']; exact e'⟩
      · obtain ⟨c, h1, _⟩ := look h
        exact ⟨c, h1⟩
    case cab =>
      intro y c z e
      have z : scope.names.lookup y = some .cell := by
        have q : (scope.names.lookup y == some NameKind.cell) = true := z
        simpa using q
      have e : env.cells.lookup y = some c := e
      rw [e3'] at e
      rcases cells_mem (PySem.mem_of_lookup e) with hm | ⟨_, h2, _⟩
      · rcases cloFrom_mem hm with hm | ⟨h1, _⟩
        · cases hm
        · have q := ok.uniq _ h1
          rw [z] at q; cases q
      · rw [Heap.size_push] at h2
        exact Nat.le_of_succ_le h2
    case exf =>
      intro b hb
      refine ⟨by show b ≠ env.locals; rw [e2]; exact eN b hb, fun y c e z => ?_⟩
      have e : env.cells.lookup y = some c := e
      rcases mem e with ⟨h1, _⟩ | ⟨_, h1⟩
      · exact (hfp b hb).1.2.2.2.2.1 y c h1 z
      · have h2 : s.heap.objs.size + 1 ≤ b := by rw [← z]; exact h1
        exact absurd (Nat.lt_of_lt_of_le (hfp b hb).2 (Nat.le_of_succ_le h2)) (Nat.lt_irrefl _)
    case noex =>
      intro b o e hb
      have e : X.base.get? b = some o := e
      rcases (hfp b hb).1.2.2.2.1 with z | z
      · exact I.ok.noex b o e z
      · exact absurd (Nat.lt_of_lt_of_le (Heap.lt_size e) (Nat.le_trans I.ok.bsz z)) (Nat.lt_irrefl _)
    case exfs =>
      intro b hb z
      rcases List.mem_cons.mp (I.stkSub b z) with z | z
      · exact (hfp b hb).1.2.1 z
      · exact (hfp b hb).1.2.2.1 z
  refine ⟨okB, eo, eb, Un.kept kp, ⟨m0, by show t.heap.Ns env.locals m0; rw [e2]; exact ns, ?loc⟩, ?cell, ?free, ?freeC, fun p hp => absurd (show p ∈ ([] : List (Addr × Obj)) ++ [] from hp) (by simp), I.hok.kept kp, by rw [wipe_length]; exact I.len⟩
  case loc =>
    intro i y av h1 h2 h3
    obtain ⟨h2, hne⟩ := wipe_some h2
    have hfr : scope.names.lookup y = some .free := by
      have h3 : scope.names.lookup y = some .local ∨ scope.names.lookup y = some .cell ∨ scope.names.lookup y = some .free := by
        have q : Vis env.scope y := h3
        rw [e1] at q
        exact q
      have no : ∀ k', scope.names.lookup y = some k' → ¬ (k' = .local ∨ k' = .cell) := fun k' e hh => by
        rcases ok.own _ (PySem.mem_of_lookup e) hh with e' | e'
        · obtain ⟨p, hp, hpy⟩ := List.mem_map.mp e'
          have q := ok.ix p hp
          have hpy : p.1 = y := hpy
          rw [hpy] at q
          exact hne (List.mem_map.mpr ⟨p, hp, nodup_ix hN q h1⟩)
        · exact e' (List.mem_of_getElem? h1)
      rcases h3 with h | h | h
      · exact absurd (.inl rfl) (no _ h)
      · exact absurd (.inr rfl) (no _ h)
      · exact h
    obtain ⟨m, hn, hl⟩ := I.loc
    have hvis : Vis X.env.scope y := (ok.free _ (PySem.mem_of_lookup hfr) rfl).elim (fun k => .inr (.inl k)) (fun k => .inr (.inr k))
    obtain ⟨w, r, q⟩ := hl i y av h1 h2 hvis
    have hk : env.kindOf y = some .free := by unfold Env.kindOf; rw [e1]; exact hfr
    refine ⟨w, r, .inr ⟨.inr hk, ?_⟩⟩
    obtain ⟨c, z1, z2⟩ := look hfr
    rcases q with ⟨k, _⟩ | ⟨_, c', e', z⟩
    · have k : X.env.scope.names.lookup y = some .local := k
      rcases ok.free _ (PySem.mem_of_lookup hfr) rfl with k' | k'
      · rw [show X.env.scope.names.lookup y = _ from k'] at k; cases k
      · rw [show X.env.scope.names.lookup y = _ from k'] at k; cases k
    · rw [z2] at e'; cases e'
      exact ⟨c, z1, z.keeps kp⟩
  case cell =>
    intro y c e
    have e : env.cells.lookup y = some c := e
    rcases mem e with ⟨h1, _⟩ | ⟨h1, h2⟩
    · obtain ⟨w, z⟩ := I.cell y c h1
      exact ⟨w, z.keeps kp⟩
    · exact hcell y c h1 h2 e
  case free =>
    show H env.locals = none
    rw [e2]; exact I.hok.fresh (Nat.le_refl _)
  case freeC =>
    intro y c e
    have e : env.cells.lookup y = some c := e
    rcases mem e with ⟨h1, _⟩ | ⟨_, h1⟩
    · exact I.freeC y c h1
    · exact I.hok.fresh (Nat.le_of_succ_le h1)
end

section
variable {Y : Cx} {A : Around} {ps : List (Addr × Obj)} {S : Hp → Prop} {C : CW}
variable {elt tg iter : Expr} {ifs : List Expr} {scope : Scope} {pos : Pos} {it : Addr} {tn : Nat → Heap → Prop} {J : It} {fp : List Addr}
theorem start_seg {R : GenEnd} {Pr : Protocol} {n : Nat} {z s : Shared} (T : Turn Y.prog Y.w Y.K tg J fp it tn) (st : tn 0 s.heap)
    (loop : Seg (model Y.prog Y.w) A R Pr n z (.compLoop (.GeneratorExp elt [⟨tg, iter, ifs, 0⟩] scope pos) 0 (.ref it) .none Y.env)
        ((model Y.prog Y.w).den (.compLoop (.GeneratorExp elt [⟨tg, iter, ifs, 0⟩] scope pos) 0 (.ref it) .none Y.env)) [] s) :
    Seg (model Y.prog Y.w) A R Pr n z (.compStart (.GeneratorExp elt [⟨tg, iter, ifs, 0⟩] scope pos) 0 (.ref it) .none Y.env)
        ((model Y.prog Y.w).den (.compStart (.GeneratorExp elt [⟨tg, iter, ifs, 0⟩] scope pos) 0 (.ref it) .none Y.env)) [] s := by
  show Seg _ A _ _ _ z _ ((compStart (.GeneratorExp elt [⟨tg, iter, ifs, 0⟩] scope pos) 0 (.ref it) .none Y.env).onRaise (leaving Y.env)) [] s
  unfold compStart
  rw [Sem.onRaise_eq_wrap]
  show Seg _ A _ _ _ z _ ((ask >>= _).wrap _ _ _ _) [] s
  refine seg_bind_wrap (wpAny_askSetting ?_)
  split
  · exact seg_again rfl loop
  · refine seg_bind_wrap (wpAny_rule ?_)
    first
      | exact seg_bind_wrap (wpAny_standAt (seg_bind_wrap (T.self _ 0 s _ _ st (seg_again rfl loop))))
      | (show Seg _ A _ _ _ z _ ((standAt iter.pos >>= _).wrap _ _ _ _) [] s
         exact seg_bind_wrap (wpAny_standAt (seg_bind_wrap (T.self _ 0 s _ _ st (seg_again rfl loop)))))

/-- a generator of ours that sleeps, as its consumer sees it -/
def GAt (Y : Cx) (A : Around) (ps : List (Addr × Obj)) (S : Hp → Prop) (C : CW) (a : Addr) (g n : Nat) (s : Shared) : Prop :=
  ∃ gs, s.gens[g]? = some gs ∧ s.heap.IsGen a g ∧ s.heap.NoLimit ∧
    gs.Goes (model Y.prog Y.w) A.in1 (fun n z r s => r = .ok .next ∧ gOver Y ps S n z s) (gProto Y ps C) n (.send .none) (s.setGen g .running)

theorem bare_set {s : Shared} {g : Nat} {x : GenState} (h : AllBare s.gens) (hx : x.bare = true) : AllBare (s.setGen g x).gens := by
  intro y hy
  simp only [Shared.setGen] at hy
  rcases Array.mem_or_eq_of_mem_setIfInBounds hy with q | q
  · exact h y q
  · rw [q]; exact hx

theorem next_gen {a : Addr} {g n : Nat} {s : Shared} {Q : Option Value → Shared → Prop} {E : Value → Shared → Prop} {go : Obj} (hh : A.handled = none) (hroom : A.depth < recursionLimit)
    (G : GAt Y A ps S C a g n s) (hps : (a, go) ∈ ps) (hgo : ∀ h : Heap, h.get? a = some go → h.IsGen a g)
    (hend : ∀ sg H t, Inv Y ps sg H t → S H → Q none t)
    (hyld : ∀ v y sg H Nx t, RelV y v → Inv Y ps sg H t → C y H Nx → (Nx H → ∃ m, m < n ∧ GAt Y A ps S C a g m t) → Q (some v) t) :
    wpAny (model Y.prog Y.w) A (pyNext (.ref a)) Q E s := by
  obtain ⟨gs, h1, h2, h3, h4⟩ := G
  have hlt : g + 1 ≤ s.gens.size := by
    rcases Nat.lt_or_ge g s.gens.size with h' | h'
    · exact h'
    · rw [Array.getElem?_eq_none h'] at h1; cases h1
  refine GenW.wpAny_gsz hlt (wpAny_pyNext_genexpQ (P := gOver Y ps S) hh h3 hroom h2 h1 h4 ?_ ?_)
  · intro v s1 gs' hb hy hsz
    obtain ⟨y, sg, H, Nx, r, I, hC, hk⟩ := hy
    have hsz1 : g < s1.gens.size := by
      have e : (s1.setGen g gs').gens.size = s1.gens.size := by simp [Shared.setGen]
      rw [e] at hsz; exact hsz
    refine hyld v y sg H Nx _ r (inv_like I rfl rfl (bare_set I.bare hb)) hC fun nx => ?_
    have hget : (s1.setGen g gs').gens[g]? = some gs' := by simp [Shared.setGen, hsz1]
    have hpin := I.pin (a, go) (List.mem_append_right _ hps)
    have hk' := hk nx ((s1.setGen g gs').setGen g .running) rfl rfl (bare_set (bare_set I.bare hb) rfl)
    cases n with
    | zero => exact hk'.elim
    | succ m => exact ⟨m, Nat.lt_succ_self _, gs', hget, hgo _ hpin.1, I.nolimit, hk'⟩
  · intro s1 hp h' hk _
    obtain ⟨sg, H, I, hS⟩ := hp
    have I2 := inv_like (t := s1.setGen g .finished) I rfl rfl (bare_set I.bare rfl)
    exact hend sg H _ (I2.kept (h' := h') (t' := s1.toks) hk) hS
end
end ZG


namespace ZG
open PySem PySem.Spec PyProof.Rows L2 GxR

/-- the record of the frame of a generator expression -/
def gxEnv (X : Cx) (scope : Scope) (L : Addr) (code : Value) : Env :=
  newEnv scope L X.env.globals (cellsFrom (L + 1) scope.names (cloFrom X.env.cells scope.names [])) (X.env.qual ++ "<genexpr>.") none code none builtinsNs

theorem over_gx {A : Around} {elt tg iter : Expr} {ifs : List Expr} {scope : Scope} {pos : Pos} {it : Value} {env : Env} {k : Nat} (hr : Room (k + 1) A) {st : List Env} (hf : A.frames = some st) :
    Room k (A.over (.compLoop (.GeneratorExp elt [⟨tg, iter, ifs, 0⟩] scope pos) 0 it .none env) []) ∧
      (A.over (.compLoop (.GeneratorExp elt [⟨tg, iter, ifs, 0⟩] scope pos) 0 it .none env) []).frames = some (env :: st) := by
  refine ⟨⟨hr.hd, ?_, ?_⟩, ?_⟩
  · have := hr.dp
    show A.depth + 0 + 1 + 3 * k + 5 < _
    omega
  · have := hr.un
    show A.units + 0 + 3 + 16 * k + 200 < _
    omega
  · show (A.over _ []).frames = _
    unfold Around.over
    dsimp only
    rw [hf]
    rfl
/-- a builtin's code (or more) around -/
structure Near (A B : Around) : Prop where
  hd : B.handled = A.handled
  fr : B.frames = A.frames
  dp : B.depth ≤ A.depth
  un : B.units ≤ A.units + 8
theorem Near.room {A B : Around} {k : Nat} (n : Near A B) (r : Room (k + 1) A) : Room k B :=
  ⟨n.hd.trans r.hd, by have := r.dp; have := n.dp; omega, by have := r.un; have := n.un; omega⟩
theorem near1 {A : Around} : Near A A.in1 := ⟨rfl, rfl, Nat.le_refl _, by show A.units + 1 ≤ _; omega⟩
section
variable {X : Cx} {pins : List (Addr × Obj)} {sg : L2.St} {H : Hp} {s : Shared}
variable {elt tg iter : Expr} {ifs : List Expr} {scope : Scope} {pos : Pos} {own : List (Str × Nat)}
variable {wi : TI} {g : TG} {tt : TT} {te : TE} {k : Nat} {c P : Addr}

def cdx (o : Obj) : HO := .frz o (.ext fun _ => True)
def CodeOb (o : Obj) (c P : Addr) : Prop :=
  ∃ vs file tf flags tg inF text tt, o.cls = .type "code" ∧ o.data = .fields vs ∧ vs[11]? = some (.ref P) ∧ vs.getD 11 .none = .ref P ∧ vs.getD 18 .none = .str file tf ∧
    vs.getD 7 .none = .int flags tg ∧ vs.getD 9 .none = .bool inF ∧ vs.getD 10 .none = .int text tt ∧ c ≠ P
def Cdx (H : Hp) (c P : Addr) : Prop := ∃ o, H c = some (cdx o) ∧ CodeOb o c P
theorem codeHd_ob {h : Heap} {c P : Addr} (x : PySem.W.CodeHd h c P) : ∃ o, h.get? c = some o ∧ CodeOb o c P := let ⟨o, vs, file, tf, flags, tg, inF, text, tt, e, r⟩ := x; ⟨o, e, vs, file, tf, flags, tg, inF, text, tt, r⟩
theorem ob_codeHd {h : Heap} {c P : Addr} {o : Obj} (e : h.get? c = some o) (x : CodeOb o c P) : PySem.W.CodeHd h c P := let ⟨vs, file, tf, flags, tg, inF, text, tt, r⟩ := x; ⟨o, vs, file, tf, flags, tg, inF, text, tt, e, r⟩
/-- the running def's code at c, its table at P -/
def CodeAt (X : Cx) (c P : Addr) (H : Hp) : Prop := PySem.W.CodeHd X.base c P ∨ Cdx H c P
def TabW (X : Cx) (pos : Pos) (c P : Addr) (G : Addr → Prop) (H : Hp) : Prop :=
  CodeAt X c P H ∧ ∃ pt : Array Value, H P = some (.tbl pt) ∧ TriplesOk pt.toList ∧ ∀ v, codeAmong pos pt.toList = some v → ∃ c1 P1, v = .ref c1 ∧ Cdx H c1 P1 ∧ G P1
/-- behind the making of a code at pos: its code, that one's table, the heap -/
inductive TabN (pos : Pos) (P : Addr) (G : Addr → Prop) (H : Hp) : Addr → Addr → Hp → Prop
  | hit {c1 P1 : Addr} : Cdx H c1 P1 → G P1 → TabN pos P G H c1 P1 H
  | new {pt : Array Value} {c1 P1 : Addr} {o : Obj} : CodeOb o c1 P1 → H P = some (.tbl pt) → TriplesOk pt.toList → codeAmong pos pt.toList = none → H c1 = none → H P1 = none → c1 ≠ P1 →
      TabN pos P G H c1 P1 (upd (upd (upd H P (.tbl (pt ++ #[rawInt pos.line, rawInt pos.col, .ref c1]))) c1 (cdx o)) P1 (.tbl #[]))
theorem inv_tabX {P c1 P1 : Addr} {oc : Obj} {ps more : Array Value} {h' : Heap} {t' : Nat} (I : Inv X pins sg H s) (hP : H P = some (.tbl ps)) (k : ∀ b o, b ≠ P → s.heap.get? b = some o → h'.get? b = some o)
    (hm : h'.get? P = some { cls := .none, data := .fields (ps ++ more) }) (fc : s.heap.objs.size ≤ c1) (fP : s.heap.objs.size ≤ P1) (ne : c1 ≠ P1) (hc : h'.get? c1 = some oc) (hp1 : h'.get? P1 = some { cls := .none, data := .fields #[] }) :
    Inv X pins sg (upd (upd (upd H P (.tbl (ps ++ more))) c1 (cdx oc)) P1 (.tbl #[])) { s with heap := h', toks := t' } := by
  have hN1 : H c1 = none := I.hok.fresh fc
  have hN2 : H P1 = none := I.hok.fresh fP
  have n1 : ∀ b o, s.heap.get? b = some o → b ≠ c1 := fun b o e z => absurd (Nat.lt_of_lt_of_le (Heap.lt_size e) (z ▸ fc)) (Nat.lt_irrefl _)
  have n2 : ∀ b o, s.heap.get? b = some o → b ≠ P1 := fun b o e z => absurd (Nat.lt_of_lt_of_le (Heap.lt_size e) (z ▸ fP)) (Nat.lt_irrefl _)
  have m1 : ∀ b u, H b = some u → b ≠ c1 := fun b u e z => by rw [z, hN1] at e; cases e
  have m2 : ∀ b u, H b = some u → b ≠ P1 := fun b u e z => by rw [z, hN2] at e; cases e
  generalize hH' : upd (upd (upd H P (.tbl (ps ++ more))) c1 (cdx oc)) P1 (.tbl #[]) = H'
  have at_ : ∀ b, b ≠ P → b ≠ c1 → b ≠ P1 → H' b = H b := fun b h1 h2 h3 => by rw [← hH', upd_ne h3, upd_ne h2, upd_ne h1]
  have atP : H' P = some (.tbl (ps ++ more)) := by rw [← hH', upd_ne (m2 _ _ hP), upd_ne (m1 _ _ hP), upd_same]
  have at1 : H' c1 = some (cdx oc) := by rw [← hH', upd_ne ne, upd_same]
  have at2 : H' P1 = some (.tbl #[]) := by rw [← hH', upd_same]
  have nP : ∀ b u, H b = some u → (∀ q, u ≠ .tbl q) → b ≠ P := fun b u e q z => by
    rw [z, hP] at e
    exact q ps (Option.some.inj e).symm
  have nN : ∀ b, H b = none → b ≠ P := fun b e z => by
    rw [z, hP] at e
    cases e
  refine I.step (g' := s.gens) (d' := s.drawn) (ch := []) (fun b hb => absurd hb (by simp)) (fun b o _ _ _ e n => k b o (nN b n) e) (fun b o _ _ _ e n => ⟨o.slots, k b o (nN b n) e⟩)
    (fun b o _ e n => by rw [at_ b (nN b n) (n1 b o e) (n2 b o e)]; exact n) (fun b o _ e => ?_) (fun b xs e => by rw [at_ b (nP b _ e (fun q z => by cases z)) (m1 b _ e) (m2 b _ e)]; exact e) (fun b o u e => by rw [at_ b (nP b _ e (fun q z => by cases z)) (m1 b _ e) (m2 b _ e)]; exact e) (fun b qs e => ?_) (fun m hn => ?_) (fun b u e => ?_) I.bare
  · by_cases hb : b = P
    · rw [hb]
      exact ⟨_, hm⟩
    · exact ⟨o, k b o hb e⟩
  · by_cases hb : b = P
    · rw [hb, hP] at e
      cases e
      rw [hb, atP]
      exact ⟨more, rfl⟩
    · rw [at_ b hb (m1 b _ e) (m2 b _ e), e]
      exact ⟨#[], by simp⟩
  · obtain ⟨ob, es, ep, ho, r⟩ := hn
    exact ⟨ob, es, ep, k _ ob (nN _ I.free) ho, r⟩
  · by_cases hb2 : b = P
    · rw [hb2, atP] at e
      cases e
      rw [hb2]
      exact hm
    · by_cases hb3 : b = c1
      · subst hb3
        rw [at1] at e
        cases e
        exact ⟨hc, trivial, ⟨_, hc⟩, fun _ _ _ _ => trivial⟩
      · by_cases hb4 : b = P1
        · subst hb4
          rw [at2] at e
          cases e
          exact hp1
        · rw [at_ b hb2 hb3 hb4] at e
          refine (I.hok b u e).stay (fun d v hd q => k d v ?_ q) (fun d q => by rw [at_ d (nP d _ q (fun q z => by cases z)) (m1 d _ q) (m2 d _ q)]; exact q) fun d xs q => by rw [at_ d (nP d _ q (fun q z => by cases z)) (m1 d _ q) (m2 d _ q)]; exact q
          rcases hd with z | z
          · rw [z]
            exact hb2
          · exact nP d _ z (fun q z => by cases z)

/-- what the making of a generator expression hands on to its consumer -/
structure Made (X : Cx) (pins : List (Addr × Obj)) (sg : L2.St) (elt tg iter : Expr) (ifs : List Expr) (scope : Scope) (pos : Pos) (vs : List Nat) (g : TG) (tt : TT) (te : TE) (k : Nat) (J : It) (H2 : Hp) (a : Addr) (s5 : Shared) : Prop where
  inv : Inv X pins sg H2 s5
  run : ∀ (A : Around) (S : Hp → Prop) (C : CW) (W : Nat → Nat → Hp → Prop) (m : Nat), Near X.A A → W 0 m H2 →
    (∀ i m H, W i m H → (J.stop i H ∧ S H) ∨ (J.go i H ∧ ∃ Nx : Hp → Prop, (∀ H', Nx H' → ∃ m', m' < m ∧ W (i + 1) m' H') ∧
      ∀ x H', J.yld i H x H' → g x (wipe sg vs) H' fun σ2 H2 => (wipe σ2 vs = wipe sg vs) ∧ tt σ2 H2 fun b H3 => if b = true then te σ2 H3 fun y H4 => C y H4 Nx else Nx H3)) →
    ∃ (Y : Cx) (gn : Nat) (go : Obj) (ps : List (Addr × Obj)), Y.prog = X.prog ∧ Y.w = X.w ∧ GAt Y A ps S C a gn (m + 1) s5 ∧ (a, go) ∈ ps ∧ (∀ h : Heap, h.get? a = some go → h.IsGen a gn) ∧ s5.heap.IsGen a gn ∧
      ∀ sg' H' t, Inv Y ps sg' H' t → Inv X pins sg H' t

theorem wp_dot0 {M : Model} {A : Around} {E : Value → Shared → Prop} {s : Shared} {scope : Scope} {globals : Addr} {cl : List (Str × Addr)} {it : Value} {qual : Str} {code : Value} {bi : Addr} {Q : Env → Shared → Prop}
    (hk : scope.kind = .function) (h0 : scope.names.lookup (".0" : Str) = some NameKind.local)
    (h : ∀ h' m, h'.Ns s.heap.objs.size m → Heap.SameBut s.heap.objs.size (pushCells (s.heap.push { cls := .type "frame", data := .dict #[] }) scope.names) h' →
      Q (newEnv scope s.heap.objs.size globals (cellsFrom (s.heap.objs.size + 1) scope.names cl) qual none code none bi) { s with heap := h', toks := s.toks + 1 }) :
    wpAny M A (newFunctionEnv scope globals cl [(".0", it)] qual none code none bi) Q E s := by
  simp only [newFunctionEnv, Option.isSome_none, Bool.false_eq_true, if_false]
  refine wpAny_bind (wpAny_alloc ?_)
  refine wpAny_bind (wpAny_layCells _ (fun n k c => by cases e : k == NameKind.cell <;> simp [e]) scope.names cl _ _ ?_)
  rw [show ({ s with heap := s.heap.push { cls := .type "frame", data := .dict #[] } } : Shared).heap.objs.size = s.heap.objs.size + 1 from Heap.size_push ..]
  simp only [List.forIn_cons, List.forIn_nil]
  have ns0 : (pushCells (s.heap.push { cls := .type "frame", data := .dict #[] }) scope.names).Ns s.heap.objs.size (fun _ => none) := (Heap.Ns.new s.heap (.type "frame")).keeps (pushCells_keeps _ _)
  refine wpAny_bind (wpAny_bind (wpAny_bind (wpAny_storeName_local (m := fun _ => none) ?_ ns0 (fun h' hn hs => ?_) ?_)))
  · exact h0
  · exact wpAny_pure (wpAny_pure (wpAny_pure (h h' _ hn hs)))
  · show (scope.kind == .class || (scope.kind == .module && _)) = false
    rw [hk]; rfl

theorem gen_make {g : Addr → Addr → TG} {tt : Addr → Addr → TT} {te : Addr → Addr → TE} {Q' : Value → Shared → Prop} {R : (Addr → Prop) → It → Hp → Prop} (hr : Room (k + 2) X.A) (hN : X.N.Nodup) (hc : X.calm = true) (TB : ∃ P0, X.base.BuiltinsAt X.mg P0) (hcode : X.env.code = .ref c)
    (hco : scope.isCoroutine = false) (h0 : scope.names.lookup (".0" : Str) = some NameKind.local) (ok : BlkOk X.N X.env.scope scope own) (hi : PI X tg iter wi)
    (hg : ∀ (A : Around) (s : Shared) (H : Hp) (L c1 P1 : Addr) (fp : List Addr), Room k A → PG (gcx X A s H scope (gxEnv X scope L (.ref c1)) fp) tg (g c1 P1))
    (ht : ∀ (A : Around) (s : Shared) (H : Hp) (L c1 P1 : Addr) (fp : List Addr), Room k A → PTs (gcx X A s H scope (gxEnv X scope L (.ref c1)) fp) ifs (tt c1 P1))
    (he : ∀ (A : Around) (s : Shared) (H : Hp) (L c1 P1 : Addr) (fp : List Addr), Room k A → PE (gcx X A s H scope (gxEnv X scope L (.ref c1)) fp) elt (te c1 P1))
    (hs : ∀ v, genFold iter X.env v = pure v) (I : Inv X pins sg H s) (h : wi sg H fun J H1 => ∃ G, TabW X pos c P G H1 ∧ R G J H1)
    (hQ : ∀ G J H1 c1 P1 H2 a s5, R G J H1 → TabN pos P G H1 c1 P1 H2 → Made X pins sg elt tg iter ifs scope pos (own.map (·.2)) (g c1 P1) (tt c1 P1) (te c1 P1) k J H2 a s5 → Q' (.ref a) s5) :
    wpAny (model X.prog X.w) X.A (eval (.GeneratorExp elt [⟨tg, iter, ifs, 0⟩] scope pos) X.env) Q' X.xe s := by
  have hfree : ∀ y ∈ scope.names, y.2 = .free → ∃ c, X.env.cells.lookup y.1 = some c := fun y hy e => by
    rcases ok.free y hy e with q | q
    · exact I.ok.has _ (.inl q)
    · exact I.ok.has _ (.inr q)
  rw [eval_GeneratorExp1 _ _ _ _ _ _ _ hco, closure_ok hfree]
  refine wpAny_bind (thn (hi.run pins s sg H _ I h) fun xv s1 h1 => ?_)
  refine wpAny_bind (wpAny_standAt ?_)
  refine wpAny_bind (wpAny_of_eq (hs xv) ?_)
  refine wpAny_bind (wpAny_holding (thn h1 fun itv s2 h2 => ?_))
  obtain ⟨it, fp, tn, J, H2, rfl, I2, T, st2, f2, G, ⟨hcd, pt, hP, htr, hcodes⟩, hR⟩ := h2
  refine wpAny_bind (wpAny_enterFrame I2.nolimit hr.depth ?_)
  refine wpAny_bind (wpAny_pure ?_)
  have hPs : s2.heap.get? P = some { cls := .none, data := .fields pt } := I2.hok P _ hP
  have cd : PySem.W.CodeHd s2.heap c P := hcd.elim (fun z => z.keeps fun b u e => I2.bk b u e) fun ⟨o, z, zo⟩ => ob_codeHd (I2.hok c _ z).1 zo
  -- from the code on
  have nP : ∀ b, H2 b = none → b ≠ P := fun b e z => by rw [z, hP] at e; cases e
  have cont : ∀ (c1 P1 : Addr) (h3 : Heap) (tk : Nat) (H3 : Hp), Heap.ExtBut P s2.heap h3 → Inv X pins sg H3 { s2 with heap := h3, toks := tk } → TabN pos P G H2 c1 P1 H3 → (∀ b ∈ fp, H3 b = none) →
      wpAny (model X.prog X.w) X.A (do
        let bi ← builtinsFor X.env.globals X.env.builtins
        let cenv ← newFunctionEnv scope X.env.globals (cloFrom X.env.cells scope.names []) [(".0", .ref it)] (X.env.qual ++ "<genexpr>.") none (.ref c1) none bi
        newGenerator (.compStart (.GeneratorExp elt [⟨tg, iter, ifs, 0⟩] scope pos) 0 (.ref it) .none cenv) "<genexpr>" (X.env.qual ++ "<genexpr>")) Q' X.xe { s2 with heap := h3, toks := tk } := by
    intro c1 P1 h3 tk H3 hx I3 tb3 nf3
    obtain ⟨_, bm, ob, e1, e2, e3, e4, e5, e6, e7, e8⟩ := TB
    refine wpAny_bind (wpAny_builtinsFor (m := X.mg) (by rw [I3.ok.glob]; exact I3.mod.glob.keeps I3.bk) e1 e2 (I3.bk _ _ e5) e6 e7 e8 ?_)
    generalize hs3 : ({ s2 with heap := h3, toks := tk } : Shared) = s3 at I3
    have eh3 : s3.heap = h3 := by rw [← hs3]
    have st3 : tn 0 s3.heap := T.keep _ _ _ st2 fun b hb o e => by
      rw [eh3]; exact hx b o (nP b (f2 b hb).1) e
    have f3 : ∀ b ∈ fp, FpOk X pins H3 b ∧ b < s3.heap.objs.size := fun b hb => by
      obtain ⟨o, e, _⟩ := T.obj _ _ st3 b hb
      exact ⟨⟨nf3 b hb, (f2 b hb).2⟩, Heap.lt_size e⟩
    refine wpAny_bind (wp_dot0 ok.kind h0 fun h4 m4 ns4 sb4 => ?_)
    simp only [newGenerator, newFields]
    refine wpAny_bind (wpAny_newGen (wpAny_bind (wpAny_mkText (wpAny_bind (wpAny_mkText (wpAny_newObj_type ?_ (by size_fits)))))))
    refine hQ G J H2 c1 P1 H3 _ _ hR tb3 ?_
    -- the state behind it
    have kp4 : ∀ b o, s3.heap.get? b = some o → h4.get? b = some o := fun b o e => sb4.extBut b o (Nat.ne_of_lt (Heap.lt_size e)) (pushCells_keeps _ _ _ _ (Heap.get?_push_of_some _ e))
    generalize hgo : ({ cls := .type "generator", data := .fields _ } : Obj) = go
    generalize hs5 : ({ os := s3.os, gens := _, drawn := s3.drawn, toks := _, heap := h4.push go } : Shared) = s5
    have eh5 : s5.heap = h4.push go := by rw [← hs5]
    have eg5 : s5.gens = s3.gens.push (.fresh (.compStart (.GeneratorExp elt [⟨tg, iter, ifs, 0⟩] scope pos) 0 (.ref it) .none (gxEnv X scope s3.heap.objs.size (.ref c1)))) := by rw [← hs5]; rfl
    have eo5 : s5.os = s3.os := by rw [← hs5]
    have kp5 : ∀ b o, s3.heap.get? b = some o → s5.heap.get? b = some o := fun b o e => by rw [eh5]; exact Heap.get?_push_of_some _ (kp4 b o e)
    have eb5 : AllBare s5.gens := by rw [eg5]; exact I3.bare.push rfl
    have sz4 : s3.heap.objs.size + 1 ≤ h4.objs.size := by
      have e := sb4.1
      have e2 := pushCells_size scope.names (s3.heap.push { cls := .type "frame", data := .dict #[] })
      rw [Heap.size_push] at e2
      omega
    have ha5 : s5.heap.get? h4.objs.size = some go := by rw [eh5]; exact Heap.get?_push_size _ (by rw [← hgo]; rfl)
    have hgen : ∀ h : Heap, h.get? h4.objs.size = some go → h.IsGen h4.objs.size s3.gens.size := fun h e => ⟨go, _, _, e, by rw [← hgo], by rw [← hgo]; rfl, by rw [← hgo]⟩
    have inv5 : Inv X pins sg H3 s5 := by
      have J5 := I3.kept (h' := s5.heap) (t' := s3.toks) kp5
      exact inv_like J5 rfl eo5 eb5
    refine ⟨inv5, fun A S C W m nA w0 turn => ?_⟩
    generalize henv : gxEnv X scope s3.heap.objs.size (.ref c1) = env at eg5
    have rA : Room (k + 1) A := nA.room hr
    have ov := over_gx (elt := elt) (tg := tg) (iter := iter) (ifs := ifs) (scope := scope) (pos := pos) (it := .ref it) (env := env) (A := A.in1) (k := k) ?_ (st := X.stack) (by show A.frames = _; rw [nA.fr]; exact I3.ok.frames)
    · generalize hAY : A.in1.over (.compLoop (.GeneratorExp elt [⟨tg, iter, ifs, 0⟩] scope pos) 0 (.ref it) .none env) [] = AY at ov
      have ge : GEnv X s3 scope env := by
        subst henv
        exact ⟨rfl, rfl, rfl, rfl, rfl, rfl⟩
      have I5 : Inv (gcx X AY s3 H3 scope env fp) [] (wipe sg (own.map (·.2))) H3 s5 := by
        refine gen_inv (m0 := m4) I3 ok hN f3 ge ov.1.hd ov.2 eo5 eb5 kp5 (by rw [eh5]; exact ns4.push _) fun y cc hy hl e => ?_
        have e' : (cellsFrom (s3.heap.push { cls := .type "frame", data := .dict #[] }).objs.size scope.names (cloFrom X.env.cells scope.names [])).lookup y = some cc := by
          rw [Heap.size_push, ← ge.cl]; exact e
        rcases cells_mem (PySem.mem_of_lookup e') with hm | ⟨_, _, z⟩
        · rcases cloFrom_mem hm with hm | ⟨h1, _⟩
          · cases hm
          · have q1 := ok.uniq _ h1
            have q2 := ok.uniq _ hy
            have q3 : scope.names.lookup y = some .free := q1
            have q4 : scope.names.lookup y = some .cell := q2
            rw [q3] at q4; cases q4
        · refine ⟨none, ?_⟩
          rw [eh5]
          obtain ⟨oc, hoc, hd⟩ := z
          refine ⟨oc, Heap.get?_push_of_some _ (sb4.extBut _ _ (fun q => ?_) hoc), hd⟩
          rw [q] at hl
          exact absurd hl (Nat.not_succ_le_self _)
      -- the generator's own object is pinned
      have nloc : h4.objs.size ≠ env.locals := by rw [ge.loc]; exact Nat.ne_of_gt sz4
      have young : s3.heap.objs.size ≤ h4.objs.size := Nat.le_of_succ_le sz4
      have I5p : Inv (gcx X AY s3 H3 scope env fp) [(h4.objs.size, go)] (wipe sg (own.map (·.2))) H3 s5 := by
        refine I5.pins_of fun p hp => ?_
        rw [List.mem_singleton.mp hp]
        refine ⟨ha5, I3.hok.fresh young, nloc, ?_, fun v q => ?_⟩
        · intro hb
          obtain ⟨_, o, ho, _⟩ := I3.stack.mem hb
          exact absurd (Nat.lt_of_lt_of_le (Heap.lt_size ho) young) (Nat.lt_irrefl _)
        · rw [← hgo] at q
          have q' : Data.fields _ = Data.cell v := q
          cases q'
      have st5 : tn 0 s5.heap := T.keep _ _ _ st3 fun b _ o e => kp5 b o e
      have ffp : ∀ b ∈ fp, ∀ (sg' : L2.St) (H' : Hp) (t : Shared), Inv (gcx X AY s3 H3 scope env fp) [(h4.objs.size, go)] sg' H' t → H' b = none → FpOk (gcx X AY s3 H3 scope env fp) [(h4.objs.size, go)] H' b := fun b hb sg' H' t I' hn => by
        refine ⟨hn, (I'.ok.exf b hb).1, I'.ok.exfs b hb, .inl hb, fun x cc e => (I'.ok.exf b hb).2 x cc e, fun p hp => ?_⟩
        have e : p = (h4.objs.size, go) := List.mem_singleton.mp (by simpa using hp)
        rw [e]
        exact Nat.ne_of_gt (Nat.lt_of_lt_of_le (f3 b hb).2 young)
      refine ⟨gcx X AY s3 H3 scope env fp, s3.gens.size, go, [(h4.objs.size, go)], rfl, rfl, ⟨.fresh (.compStart (.GeneratorExp elt [⟨tg, iter, ifs, 0⟩] scope pos) 0 (.ref it) .none env), ?_, hgen _ ha5, inv5.nolimit, ?_⟩, List.mem_singleton.mpr rfl, hgen, hgen _ ha5, fun sg' H' t I' => ?_⟩
      · rw [eg5]; exact Array.getElem?_push_size ..
      · refine ⟨rfl, ?_⟩
        have hgY := hg AY s3 H3 s3.heap.objs.size c1 P1 fp ov.1
        have htY := ht AY s3 H3 s3.heap.objs.size c1 P1 fp ov.1
        have heY := he AY s3 H3 s3.heap.objs.size c1 P1 fp ov.1
        rw [henv] at hgY htY heY
        have I6 := inv_like (t := s5.setGen s3.gens.size .running) I5p rfl rfl (bare_set eb5 rfl)
        refine start_seg (Y := gcx X AY s3 H3 scope env fp) T st5 ?_
        refine loop_seg (Y := gcx X AY s3 H3 scope env fp) (fp := fp) (vs := own.map (·.2)) hAY rfl hc T hgY htY heY ?_ ffp W turn m (m + 1) 0 _ _ H3 (Nat.lt_succ_self _) w0 I6 st5 nf3
        show env.scope.isCoroutine = false
        rw [ge.sc]; exact hco
      · have B := I'.base
        refine I3.call' (ch := fp) I'.os B I'.hok I'.bare fun b hb => ?_
        exact ⟨(f3 b hb).1.2.2.2.1, (f3 b hb).1.2.1, (f3 b hb).1.2.2.2.2.1, (f3 b hb).1.2.2.2.2.2⟩
    · exact ⟨rA.hd, rA.dp, by have := hr.un; have := nA.un; show A.units + 1 + 16 * (k + 1) + 200 < _; omega⟩
  cases hf : codeAmong pos pt.toList with
  | none =>
    refine wpAny_bind (wpAny_genexprCodeX hcode (cd.code hPs htr) (cd.tab hPs) hf fun c' h' tk hx hge hlt hco' _ htab' hnw => ?_)
    obtain ⟨P1, fP1, ic, it1⟩ := hnw
    have cd1 : PySem.W.CodeHd h' c' P1 := .of ic it1
    have ne1 : c' ≠ P1 := by
      obtain ⟨_, _, _, _, _, _, _, _, _, _, _, _, _, _, _, _, _, _, _, _, z⟩ := ic
      exact z
    have fr1 : H2 c' = none := I2.hok.fresh hge
    have fr2 : H2 P1 = none := I2.hok.fresh fP1
    obtain ⟨oc1, goc, cob⟩ := codeHd_ob cd1
    refine cont c' P1 h' tk _ hx (inv_tabX I2 hP (fun b o hb e => hx b o hb e) htab'.2 hge fP1 ne1 goc it1.2) (.new cob hP htr hf fr1 fr2 ne1) fun b hb => ?_
    obtain ⟨o, e, _⟩ := T.obj _ _ st2 b hb
    have nb1 : b ≠ P1 := Nat.ne_of_lt (Nat.lt_of_lt_of_le (Heap.lt_size e) fP1)
    have nb2 : b ≠ c' := Nat.ne_of_lt (Nat.lt_of_lt_of_le (Heap.lt_size e) hge)
    rw [upd_ne nb1, upd_ne nb2, upd_ne (nP b (f2 b hb).1)]
    exact (f2 b hb).1
  | some cv =>
    obtain ⟨c1, P1, rfl, hc1, hG⟩ := hcodes cv hf
    refine wpAny_bind (wpAny_genexprCode_hit hcode (cd.code hPs htr) hf ?_)
    exact cont c1 P1 s2.heap s2.toks H2 (Heap.ExtBut.refl _ _) I2 (.hit hc1 hG) fun b hb => (f2 b hb).1
end
end ZG


namespace ZG
open PySem PySem.Spec PyProof.Rows L2 GxR

section
variable {Y : Cx} {A : Around} {ps : List (Addr × Obj)} {S F : Hp → Prop} {a : Addr} {gn : Nat} {go : Obj} {R : Result → Shared → Prop}
/-- all, any: what is wanted of a truth value that is handed out -/
def cAll (F : Hp → Prop) : CW := fun y H Nx => ∃ b : Bool, y = .bl b ∧ if b = true then Nx H else F H
theorem all_turns (hh : A.handled = none) (hroom : A.depth < recursionLimit) (hps : (a, go) ∈ ps) (hgo : ∀ h : Heap, h.get? a = some go → h.IsGen a gn)
    (hS : ∀ sg H t, Inv Y ps sg H t → S H → R (.ok (.ret (.bool true))) t) (hF : ∀ sg H t, Inv Y ps sg H t → F H → R (.ok (.ret (.bool false))) t) :
    ∀ (n : Nat) (s : Shared), GAt Y A.in1 ps S (cAll F) a gn n s → codeAny (model Y.prog Y.w) A (.builtin "all.loop" ⟨[.ref a], []⟩) R s := by
  intro n
  induction n using Nat.strongRecOn with
  | ind n ih =>
    intro s G
    refine codeAny_builtin PySem.F.entry_all_loop ?_
    rw [Around.under_plainId PySem.F.plain_all_loop _]
    refine wpAny_bind (m := pyNext (.ref a)) (next_gen hh hroom G hps hgo (fun sg H t I h => ?_) fun v y sg H Nx t r I hC hk => ?_)
    · exact wpAny_bind (wpAny_rule (wpAny_pure (hS sg H t I h)))
    · obtain ⟨b, rfl, hb⟩ := hC
      cases r
      refine wpAny_bind (wpAny_holding (wpAny_truthy_bool ?_))
      refine wpAny_bind (wpAny_letGo ?_)
      cases b with
      | true =>
        obtain ⟨m, hm, G'⟩ := hk hb
        exact wpAny_pure ⟨plainId_quiet PySem.F.plain_all_loop _, ih m hm t G'⟩
      | false => exact wpAny_bind (wpAny_rule (wpAny_pure (hF sg H t I hb)))

end

section
variable {X : Cx} {elt tg iter : Expr} {ifs : List Expr} {scope : Scope} {own : List (Str × Nat)}
variable {wi : TI} {g : Addr → Addr → TG} {tt : Addr → Addr → TT} {te : Addr → Addr → TE} {k : Nat} {c P : Addr} {p pos gpos : Pos}

/-- the turns of a generator expression; the end, what is wanted of each thing -/
def tGen (X : Cx) (gpos : Pos) (c P : Addr) (wi : TI) (g : Addr → Addr → TG) (tt : Addr → Addr → TT) (te : Addr → Addr → TE) (vs : List Nat) (C : CW) (S : Hp → Prop) : L2.St → Hp → Prop := fun σ H => wi σ H fun J H1 => ∃ G, TabW X gpos c P G H1 ∧ ∀ c1 P1 H2, TabN gpos P G H1 c1 P1 H2 →
  ∃ W : Nat → Nat → Hp → Prop, (∃ m, W 0 m H2) ∧ ∀ i m H, W i m H → (J.stop i H ∧ S H) ∨ (J.go i H ∧ ∃ Nx : Hp → Prop, (∀ H', Nx H' → ∃ m', m' < m ∧ W (i + 1) m' H') ∧
    ∀ x H', J.yld i H x H' → g c1 P1 x (wipe σ vs) H' fun σ2 H2 => (wipe σ2 vs = wipe σ vs) ∧ tt c1 P1 σ2 H2 fun b H3 => if b = true then te c1 P1 σ2 H3 fun y H4 => C y H4 Nx else Nx H3)
def tAllG (X : Cx) (gpos : Pos) (c P : Addr) (wi : TI) (g : Addr → Addr → TG) (tt : Addr → Addr → TT) (te : Addr → Addr → TE) (vs : List Nat) : TE := fun σ H Q => tGen X gpos c P wi g tt te vs (cAll fun H => Q (.bl false) H) (fun H => Q (.bl true) H) σ H
theorem pe_allG (hr : Room (k + 2) X.A) (hN : X.N.Nodup) (hc : X.calm = true) (hgl : Gl X "all") (hm : X.mg "all" = none) (TB : ∃ P0, X.base.BuiltinsAt X.mg P0) (hcode : X.env.code = .ref c)
    (hco : scope.isCoroutine = false) (h0 : scope.names.lookup (".0" : Str) = some NameKind.local) (ok : BlkOk X.N X.env.scope scope own) (hi : PI X tg iter wi)
    (hg : ∀ (A : Around) (s : Shared) (H : Hp) (L c1 P1 : Addr) (fp : List Addr), Room k A → PG (gcx X A s H scope (gxEnv X scope L (.ref c1)) fp) tg (g c1 P1))
    (ht : ∀ (A : Around) (s : Shared) (H : Hp) (L c1 P1 : Addr) (fp : List Addr), Room k A → PTs (gcx X A s H scope (gxEnv X scope L (.ref c1)) fp) ifs (tt c1 P1))
    (he : ∀ (A : Around) (s : Shared) (H : Hp) (L c1 P1 : Addr) (fp : List Addr), Room k A → PE (gcx X A s H scope (gxEnv X scope L (.ref c1)) fp) elt (te c1 P1))
    (hs : ∀ v, genFold iter X.env v = pure v := by intro _; rfl) (hb : bootBuiltins "all" = some (.builtin "all") := by decide +kernel)
    (hse : starEach [.GeneratorExp elt [⟨tg, iter, ifs, 0⟩] scope gpos] X.env = (false, eval (.GeneratorExp elt [⟨tg, iter, ifs, 0⟩] scope gpos) X.env) :: starEach [] X.env := by rfl) :
    PE X (.Call (.Name "all" p) [.GeneratorExp elt [⟨tg, iter, ifs, 0⟩] scope gpos] [] pos) (tAllG X gpos c P wi g tt te (own.map (·.2))) := by
  refine ⟨fun pins s sg H Q I h => ?_⟩
  refine wpAny_Call_Name_kw (ld_blt I hgl hm hb ?_)
  refine PyProof.Rows.callWith_builtin1 ?_ hse (by rfl)
  rw [hse]
  show wpAny _ _ (spliced ((false, eval (.GeneratorExp elt [⟨tg, iter, ifs, 0⟩] scope gpos) X.env) :: backTo pos (starEach [] X.env))) _ _ s
  refine Calls.spliced_cons (gen_make (own := own) hr hN hc TB hcode hco h0 ok hi hg ht he hs I h fun G J H1 c1 P1 H2 a s5 hR tb M => ?_)
  refine Calls.spliced_nil ?_
  obtain ⟨W, ⟨m, w0⟩, turn⟩ := hR c1 P1 H2 tb
  obtain ⟨Y, gn, go, ps, e1, e2, G, hps, hgo, hig, hX⟩ := M.run X.A.in1 (fun H => Q (.bl true) H) (cAll fun H => Q (.bl false) H) W m near1 w0 turn
  refine call_function_tree PySem.F.kind_all PySem.F.plain_all PySem.F.entry_all (PySem.F.args_all1 _) ?_
  unfold Builtin.«all»
  refine wpAny_bind (m := oneArg "all" _) (wpAny_pure ?_)
  refine wpAny_bind (wpAny_pyIter_gen hig ?_)
  rw [← e1, ← e2]
  exact wpAny_pure ⟨plainId_quiet PySem.F.plain_all_loop _, all_turns hr.hd hr.depth hps hgo (fun sg' H' t I' q => ⟨.bl true, H', hX sg' H' t I', rfl, q⟩) (fun sg' H' t I' q => ⟨.bl false, H', hX sg' H' t I', rfl, q⟩) _ _ G⟩

end
end ZG


namespace ZG
open PySem PySem.Spec PyProof.Rows L2 GxR

section
variable {Y : Cx} {A : Around} {ps : List (Addr × Obj)} {sw : L2.St} {S : Hp → Prop} {C : CW}
variable {elt tg iter : Expr} {ifs : List Expr} {scope : Scope} {pos : Pos} {it : Addr} {fp : List Addr} {tn : Nat → Heap → Prop} {J : It}
variable {g : TG} {tt : TT} {te : TE} {vs : List Nat} {D : Addr}

/-- what stood at D in the state z -/
def Link (Y : Cx) (ps : List (Addr × Obj)) (D : Addr) (z : Shared) (H : Hp) : Prop := ∃ (sgz : L2.St) (Hz : Hp) (psz : List (Addr × Obj)), Inv Y (ps ++ psz) sgz Hz z ∧ Hz D = H D
def gProtoB (Y : Cx) (ps : List (Addr × Obj)) (D : Addr) (C : CW) : Protocol := fun _ z v s kap =>
  ∃ (y : V) (sg : L2.St) (H : Hp) (Nx : Hp → Prop) (ps2 : List (Addr × Obj)), RelV y v ∧ Inv Y (ps ++ ps2) sg H s ∧ Link Y ps D z H ∧ C y H Nx ∧
    (∀ (H' : Hp) (t : Shared), Nx H' → Inv Y (ps ++ ps2) sg H' t → kap (.send .none) t)
def gOverB (Y : Cx) (ps : List (Addr × Obj)) (D : Addr) (S : Hp → Prop) : Nat → Shared → Shared → Prop := fun _ z s => ∃ sg H, Inv Y ps sg H s ∧ Link Y ps D z H ∧ S H
end
section
variable {Y : Cx} {A : Around} {ps : List (Addr × Obj)} {S : Hp → Prop} {C : CW}
/-- a generator of ours that sleeps, as its consumer sees it -/
def GAtB (Y : Cx) (A : Around) (ps : List (Addr × Obj)) (D : Addr) (S : Hp → Prop) (C : CW) (a : Addr) (g n : Nat) (s : Shared) : Prop :=
  ∃ gs, s.gens[g]? = some gs ∧ s.heap.IsGen a g ∧ s.heap.NoLimit ∧
    gs.Goes (model Y.prog Y.w) A.in1 (fun n z r s => r = .ok .next ∧ gOverB Y ps D S n z s) (gProtoB Y ps D C) n (.send .none) (s.setGen g .running)

end
section
variable {X : Cx} {pins : List (Addr × Obj)} {sg : L2.St} {H : Hp} {s : Shared}
variable {elt tg iter : Expr} {ifs : List Expr} {scope : Scope} {pos : Pos} {own : List (Str × Nat)}
variable {wi : TI} {g : TG} {tt : TT} {te : TE} {k : Nat} {c P : Addr}

/-- what the making of a generator expression hands on to its consumer -/
structure MadeB (X : Cx) (pins : List (Addr × Obj)) (sg : L2.St) (elt tg iter : Expr) (ifs : List Expr) (scope : Scope) (pos : Pos) (vs : List Nat) (g : TG) (tt : TT) (te : TE) (k : Nat) (J : It) (H2 : Hp) (a : Addr) (s5 : Shared) : Prop where
  inv : Inv X pins sg H2 s5
  run : ∀ (A : Around) (D : Addr) (S : Hp → Prop) (C : CW) (W : Nat → Nat → Hp → Prop) (m : Nat), Near X.A A →
    (∀ i m H, W i m H → (J.stop i H ∧ S H) ∨ (J.go i H ∧ ∃ Nx : Hp → Prop, (∀ H', Nx H' → ∃ m', m' < m ∧ W (i + 1) m' H') ∧
      ∀ x H', J.yld i H x H' → g x (wipe sg vs) H' fun σ2 H2 => (wipe σ2 vs = wipe sg vs) ∧ tt σ2 H2 fun b H3 => if b = true then te σ2 H3 fun y H4 => H4 D = H D ∧ C y H4 Nx else H3 D = H D ∧ Nx H3)) →
    ∃ (Y : Cx) (gn : Nat) (go : Obj) (ps : List (Addr × Obj)), Y.prog = X.prog ∧ Y.w = X.w ∧ Inv Y ps (wipe sg vs) H2 s5 ∧ (a, go) ∈ ps ∧ (∀ h : Heap, h.get? a = some go → h.IsGen a gn) ∧ s5.heap.IsGen a gn ∧
      (∀ sg' H' t, Inv Y ps sg' H' t → Inv X pins sg H' t) ∧
      ∀ (H6 : Hp) (s6 : Shared), W 0 m H6 → Inv Y ps (wipe sg vs) H6 s6 → s6.gens = s5.gens → (∀ b o, s5.heap.get? b = some o → s6.heap.get? b = some o) → (∀ b, b < s5.heap.objs.size → H6 b = H2 b) → GAtB Y A ps D S C a gn (m + 1) s6

end
end ZG


namespace ZG
open PySem PySem.Spec PyProof.Rows L2 GxR

section
variable {Y : Cx} {A : Around} {ps : List (Addr × Obj)} {S : Hp → Prop} {a p : Addr} {gn : Nat} {go : Obj} {R : Result → Shared → Prop} {res : Value}
end

section
variable {X : Cx} {pins : List (Addr × Obj)} {sg : L2.St} {elt tg iter : Expr} {ifs : List Expr} {scope : Scope} {pos : Pos} {vs : List Nat} {g : TG} {tt : TT} {te : TE} {k : Nat} {J : It} {H2 : Hp} {a : Addr} {s5 : Shared} {A : Around} {E : Value → Shared → Prop}
end
end ZG


namespace ZG
open PySem PySem.Spec PyProof.Rows L2 GxR

section
variable {X : Cx} {elt tg iter : Expr} {ifs : List Expr} {scope : Scope} {own : List (Str × Nat)}
variable {wi : TI} {g : Addr → Addr → TG} {tt : Addr → Addr → TT} {te : Addr → Addr → TE} {k : Nat} {c P : Addr} {p pos gpos : Pos}
end
end ZG


namespace ZG
open PySem PySem.Spec PyProof.Rows L2 GxR

section
variable {Y : Cx} {A : Around} {ps : List (Addr × Obj)} {S : Hp → Prop} {a p : Addr} {gn : Nat} {go : Obj} {R : Result → Shared → Prop}
end

section
variable {X : Cx} {elt tg iter : Expr} {ifs : List Expr} {scope : Scope} {own : List (Str × Nat)}
variable {wi : TI} {g : Addr → Addr → TG} {tt : Addr → Addr → TT} {te : Addr → Addr → TE} {k : Nat} {c P : Addr} {p pos gpos : Pos}
end
end ZG


namespace ZD
open PySem PySem.Spec PyProof.Rows L2 GxR ZG

/-- what a name holds: nothing, a tree that stays, a list or dict of one's own, the same of a caller's that is changed here -/
inductive Sl where
  | no | sh (d : PyData) | ow (d : PyData) | io (d : PyData) | fz (d : PyData)
def Sl.isFz : Sl → Bool
  | .fz _ => true
  | _ => false
abbrev En := List Sl
/-- a value: a tree that stays, or a new list or dict that nobody else has -/
inductive Vl where
  | sh (d : PyData) | ow (d : PyData)
def Vl.d : Vl → PyData
  | .sh d => d
  | .ow d => d

inductive Res (α : Type) where
  | ok (a : α) (en : En) | err (c : String) (en : En) | bad
abbrev M (α : Type) := En → Res α

/-- the tables of codes: of a def (no code told), of a generator expression that runs (its code) -/
abbrev TL := List (Option Addr × Addr)
/-- the module's part, the program, the world -/
structure Fg where
  K : PySem.W.Frag
  P : Program
  w : World
instance : CoeOut Fg PySem.W.Frag := ⟨Fg.K⟩
@[reducible] def _root_.L2.Cx.G (X : Cx) : Fg := ⟨X.K, X.prog, X.w⟩
structure Kx where
  K : Fg
  T : TL
def Tabs (T : TL) (H Z : Hp) : Prop := ∃ S : Addr → Prop, (∀ q ∈ T, S q.2 ∧ ∀ c, q.1 = some c → Cdx H c q.2) ∧
  ∀ a, S a → ∃ ps : Array Value, H a = some (.tbl ps) ∧ Z a = none ∧ TriplesOk ps.toList ∧ ∀ pos v, codeAmong pos ps.toList = some v → ∃ c1 P1, v = .ref c1 ∧ Cdx H c1 P1 ∧ S P1
theorem Tabs.mono {T : TL} {H H' Z Z' : Hp} (t : Tabs T H Z) (hp : ∀ a o, H a = some o → ((∃ ps, o = .tbl ps) ∨ ∃ u x, o = .frz u x) → H' a = some o) (hz : ∀ a ps, H a = some (.tbl ps) → Z a = none → Z' a = none) : Tabs T H' Z' := by
  obtain ⟨S, h1, h2⟩ := t
  have up : ∀ c P, Cdx H c P → Cdx H' c P := fun c P ⟨o, e, r⟩ => ⟨o, hp _ _ e (.inr ⟨_, _, rfl⟩), r⟩
  refine ⟨S, fun q hq => ⟨(h1 q hq).1, fun c e => up _ _ ((h1 q hq).2 c e)⟩, fun a ha => ?_⟩
  obtain ⟨ps, g1, g2, g3, g4⟩ := h2 a ha
  refine ⟨ps, hp _ _ g1 (.inl ⟨_, rfl⟩), hz a ps g1 g2, g3, fun pos v e => ?_⟩
  obtain ⟨c1, P1, e1, e2, e3⟩ := g4 pos v e
  exact ⟨c1, P1, e1, up _ _ e2, e3⟩
theorem Tabs.tail {T : TL} {q : Option Addr × Addr} {H Z : Hp} (t : Tabs (q :: T) H Z) : Tabs T H Z :=
  let ⟨S, h1, h2⟩ := t; ⟨S, fun q hq => h1 q (.tail _ hq), h2⟩
/-- no table -/
def NT (o : HO) : Prop := ∀ ps, o ≠ .tbl ps
/-- it is kept; a table stays one -/
def Kp (H' : Hp) (a : Addr) (o : HO) : Prop := H' a = some o ∨ ∃ ps qs, o = .tbl ps ∧ H' a = some (.tbl qs)
theorem Kp.nt {H' : Hp} {a : Addr} {o : HO} (h : Kp H' a o) (n : NT o) : H' a = some o := h.resolve_right fun ⟨ps, _, e, _⟩ => n ps e
theorem Kp.there {H' : Hp} {a : Addr} {o : HO} (h : Kp H' a o) : ∃ u, H' a = some u := h.elim (fun e => ⟨_, e⟩) fun ⟨_, _, _, e⟩ => ⟨_, e⟩
theorem Kp.trans {H1 H2 : Hp} {a : Addr} {o : HO} (h : Kp H1 a o) (g : ∀ u, H1 a = some u → Kp H2 a u) : Kp H2 a o := by
  rcases h with e | ⟨ps, qs, e1, e2⟩
  · exact g o e
  · rcases g _ e2 with e3 | ⟨ps', qs', e4, e5⟩
    · exact .inr ⟨ps, qs, e1, e3⟩
    · exact .inr ⟨ps, qs', e1, e5⟩
theorem Kp.none {H' : Hp} {a : Addr} {o : HO} (h : Kp H' a o) (n : H' a = none) : False := by
  obtain ⟨u, e⟩ := h.there
  rw [n] at e; cases e

/-- a key of a dict as a tree -/
def keyD : Key → PyData
  | .inl i => .int i
  | .inr x => .str x

/-- a dict whose keys are tuples (of anything that can be a key) -/
def KN (xs : List (NestedKey × Addr × V)) (ys : List (NestedKey × Addr × Value)) : Prop := Paired (fun (p : NestedKey × Addr × V) (q : NestedKey × Addr × Value) => p.1 = q.1 ∧ p.2.1 = q.2.1 ∧ RelV p.2.2 q.2.2) xs ys
def DNo (K : Fg) (a : Addr) (xs : List (NestedKey × Addr × V)) : HO := .ext fun h => xs.length ≤ sizeLine ∧ (a == sysModules) = false ∧ ∃ ys : List (NestedKey × Addr × Value), KN xs ys ∧ ∃ (o : Obj) (es : Array DictEntry) (ep : Nat),
  h.get? a = some o ∧ o.ExactDict ∧ o.data = .dict es ep ∧ es.toList = ys.map (entryOfKey (nestedKind K.P K.w)) ∧ (ys.map (·.1)).Nodup
mutual
/-- a tree as a key -/
def keyN : PyData → Option NestedKey
  | .none => some .none
  | .bool b => some (.num (if b = true then 1 else 0))
  | .int i => some (.num i)
  | .str x => some (.text x)
  | .tuple ds => (keyNs ds).map .tup
  | _ => none
def keyNs : List PyData → Option (List NestedKey)
  | [] => some []
  | d :: ds => match keyN d, keyNs ds with
    | some k, some ks => some (k :: ks)
    | _, _ => none
end
/-- .. of a dict of tuples -/
def keyT : PyData → Option NestedKey
  | .tuple ds => match keyNs ds with
    | some ks => if (NestedKey.tup ks).depth ≤ 8 then some (.tup ks) else none
    | none => none
  | _ => none
/-- a tuple whose object is known -/
def TupX (K : PySem.W.Frag) (H : Hp) (a : Addr) (xs : List V) : Prop :=
  (∃ o : Obj, H a = some (.frz o (.tup xs)) ∧ o.cls = .type "tuple" ∧ o.dict = none) ∨
    ∃ (o : Obj) (its : Array Value) (n : Nat), K.lookup a = some o ∧ o.cls = .type "tuple" ∧ o.dict = none ∧ o.data = .seq its n ∧ its.size ≤ sizeLine ∧ Vals xs its.toList
theorem TupX.sqt {K : PySem.W.Frag} {H : Hp} {a : Addr} {xs : List V} (h : TupX K H a xs) : SqT K H a xs := by
  rcases h with ⟨o, h, _⟩ | ⟨o, its, n, h1, h2, _, h3, h4, h5⟩
  · exact .inl (.inr ⟨o, h⟩)
  · exact .inr ⟨o, its, n, h1, h2, h3, h4, h5⟩
theorem TupX.mono {K : PySem.W.Frag} {H H' : Hp} {a : Addr} {xs : List V} (k : ∀ b o, H b = some o → H' b = some o) (h : TupX K H a xs) : TupX K H' a xs := by
  rcases h with ⟨o, h, h2⟩ | h
  · exact .inl ⟨o, k _ _ h, h2⟩
  · exact .inr h

mutual
/-- a tree that stands in Z and stays as it is -/
inductive Dp (K : Fg) (Z : Hp) : V → PyData → Prop
  | non : Dp K Z .non .none
  | bl (b : Bool) : Dp K Z (.bl b) (.bool b)
  | int (i : Int) : Dp K Z (.int i) (.int i)
  | str (x : Str) : Dp K Z (.str x) (.str x)
  | lst {a : Addr} {xs : List V} {ds : List PyData} : SqL K Z a xs → DpAll K Z xs ds → Dp K Z (.ref a) (.list ds)
  | tup {a : Addr} {xs : List V} {ds : List PyData} : TupX K Z a xs → DpAll K Z xs ds → Dp K Z (.ref a) (.tuple ds)
  | dct {a : Addr} {od : Obj} {kvs : List (Key × V)} {ds : List (PyData × PyData)} : Z a = some (.frz od (.dK kvs)) → ds.map (·.1) = kvs.map (fun p => keyD p.1) → DpAll K Z (kvs.map (·.2)) (ds.map (·.2)) → Dp K Z (.ref a) (.dict ds)
  | dcn {a : Addr} {od : Obj} {xs : List (NestedKey × Addr × V)} {ds : List (PyData × PyData)} : ds ≠ [] → Z a = some (.frz od (DNo K a xs)) → DpAll K Z (xs.map fun x => V.ref x.2.1) (ds.map (·.1)) → ds.map (fun q => keyT q.1) = xs.map (fun x => some x.1) → DpAll K Z (xs.map (·.2.2)) (ds.map (·.2)) → Dp K Z (.ref a) (.dict ds)
inductive DpAll (K : Fg) (Z : Hp) : List V → List PyData → Prop
  | nil : DpAll K Z [] []
  | cons {v : V} {vs : List V} {d : PyData} {ds : List PyData} : Dp K Z v d → DpAll K Z vs ds → DpAll K Z (v :: vs) (d :: ds)
end
/-- a list or dict that stands at a, its things in Z -/
inductive Own (K : Fg) (H Z : Hp) (a : Addr) : PyData → Prop
  | lst {vs : List V} {ds : List PyData} : H a = some (.lst vs) → DpAll K Z vs ds → Own K H Z a (.list ds)
  | dct {kvs : List (Key × V)} {ds : List (PyData × PyData)} : H a = some (.dK kvs) → ds.map (·.1) = kvs.map (fun p => keyD p.1) → DpAll K Z (kvs.map (·.2)) (ds.map (·.2)) → Own K H Z a (.dict ds)
  | dcn {xs : List (NestedKey × Addr × V)} {ds : List (PyData × PyData)} : ds ≠ [] → H a = some (DNo K a xs) → DpAll K Z (xs.map fun x => V.ref x.2.1) (ds.map (·.1)) → ds.map (fun q => keyT q.1) = xs.map (fun x => some x.1) → DpAll K Z (xs.map (·.2.2)) (ds.map (·.2)) → Own K H Z a (.dict ds)

def isOwn : Sl → Bool
  | .ow _ => true
  | .io _ => true
  | .fz _ => true
  | _ => false
/-- lists of one's own, as the things of a list -/
inductive NsAll (K : Fg) (H Z : Hp) : List V → List PyData → Prop
  | nil : NsAll K H Z [] []
  | cons {b : Addr} {ws : List V} {es : List PyData} {vs : List V} {ds : List PyData} : Z b = none → H b = some (.lst ws) → DpAll K Z ws es → NsAll K H Z vs ds → NsAll K H Z (.ref b :: vs) (.list es :: ds)
/-- a list of lists of one's own -/
def Nst (K : Fg) (H Z : Hp) (a : Addr) (d : PyData) : Prop := ∃ vs ds, d = .list ds ∧ H a = some (.lst vs) ∧ NsAll K H Z vs ds ∧ vs.Nodup ∧ V.ref a ∉ vs
/-- a is a place of slot i -/
def Pl (H : Hp) (sg : L2.St) (i : Nat) (s : Sl) (a : Addr) : Prop := sg[i]? = some (some (V.ref a)) ∨ ∃ d r vs, s = .fz d ∧ sg[i]? = some (some (V.ref r)) ∧ H r = some (.lst vs) ∧ V.ref a ∈ vs
/-- a is the place of an own thing -/
def Mine (H : Hp) (sg : L2.St) (en : En) (a : Addr) : Prop := ∃ (i : Nat) (s : Sl), en[i]? = some s ∧ isOwn s = true ∧ Pl H sg i s a
theorem pl_1 {H : Hp} {sg : L2.St} {i : Nat} {s : Sl} {a : Addr} (h : Pl H sg i s a) (n : ∀ d, s ≠ .fz d) : sg[i]? = some (some (V.ref a)) := by
  rcases h with h | ⟨d, r, vs, e, _⟩
  · exact h
  · exact absurd e (n d)
theorem pl_ow {H : Hp} {sg : L2.St} {i : Nat} {d : PyData} {a : Addr} (h : Pl H sg i (.ow d) a) : sg[i]? = some (some (V.ref a)) := pl_1 h fun _ e => nomatch e
theorem pl_io {H : Hp} {sg : L2.St} {i : Nat} {d : PyData} {a : Addr} (h : Pl H sg i (.io d) a) : sg[i]? = some (some (V.ref a)) := pl_1 h fun _ e => nomatch e
theorem pl_sg {H : Hp} {sg sg' : L2.St} {i : Nat} {s : Sl} {a : Addr} (e : sg'[i]? = sg[i]?) (h : Pl H sg' i s a) : Pl H sg i s a := by
  rcases h with h | ⟨d, r, vs, rfl, h1, h2, h3⟩
  · exact .inl (e ▸ h)
  · exact .inr ⟨d, r, vs, rfl, e ▸ h1, h2, h3⟩
theorem pl_at {H H' : Hp} {sg : L2.St} {i : Nat} {s : Sl} {a : Addr} (hh : ∀ r vs, s.isFz = true → sg[i]? = some (some (V.ref r)) → H' r = some (.lst vs) → H r = some (.lst vs)) (h : Pl H' sg i s a) : Pl H sg i s a := by
  rcases h with h | ⟨d, r, vs, rfl, h1, h2, h3⟩
  · exact .inl h
  · exact .inr ⟨d, r, vs, rfl, h1, hh r vs rfl h1 h2, h3⟩

def SlOk (K : Fg) (H Z : Hp) (v : Option V) : Sl → Prop
  | .no => True
  | .sh d => ∃ x, v = some x ∧ Dp K Z x d
  | .ow d => ∃ a, v = some (.ref a) ∧ Z a = none ∧ Own K H Z a d
  | .io d => ∃ a, v = some (.ref a) ∧ Z a = none ∧ Own K H Z a d
  | .fz d => ∃ a, v = some (.ref a) ∧ Z a = none ∧ Nst K H Z a d

structure Rel (k : Kx) (sg : L2.St) (H Z : Hp) (en : En) : Prop where
  sub : ∀ a o, Z a = some o → H a = some o
  sl : ∀ (i : Nat) (s : Sl), en[i]? = some s → ∃ v, sg[i]? = some v ∧ SlOk k.K H Z v s
  dis : ∀ (i j : Nat) (s t : Sl) (a : Addr), en[i]? = some s → en[j]? = some t → isOwn s = true → isOwn t = true → Pl H sg i s a → Pl H sg j t a → i = j
  tab : Tabs k.T H Z

/-- what a step may do -/
structure Aft (k : Kx) (sg : L2.St) (H Z : Hp) (en : En) (sg' : L2.St) (H' Z' : Hp) (en' : En) : Prop where
  rel : Rel k sg' H' Z' en'
  zz : ∀ a o, Z a = some o → Z' a = some o
  new : ∀ a o, Z' a = some o → Z a = some o ∨ H a = none ∨ Mine H sg en a
  kp : ∀ a o, H a = some o → ¬ Mine H sg en a → Kp H' a o
  own : ∀ a, Mine H' sg' en' a → Mine H sg en a ∨ H a = none
  io : ∀ (i : Nat) (d : PyData), en[i]? = some (.io d) → (∃ d', en'[i]? = some (.io d')) ∧ sg'[i]? = sg[i]?
  tb : ∀ T, Tabs T H Z → Tabs T H' Z'

section
mutual
theorem dp_mono {K : Fg} {Z Z' : Hp} (h : ∀ a o, Z a = some o → Z' a = some o) : ∀ {v : V} {d : PyData}, Dp K Z v d → Dp K Z' v d
  | _, _, .non => .non
  | _, _, .bl b => .bl b
  | _, _, .int i => .int i
  | _, _, .str x => .str x
  | _, _, .lst hs ha => .lst (Same.seq h hs) (dpAll_mono h ha)
  | _, _, .tup hs ha => .tup (hs.mono h) (dpAll_mono h ha)
  | _, _, .dct h1 h2 h3 => .dct (h _ _ h1) h2 (dpAll_mono h h3)
  | _, _, .dcn h0 h1 h2 h3 h4 => .dcn h0 (h _ _ h1) (dpAll_mono h h2) h3 (dpAll_mono h h4)
theorem dpAll_mono {K : Fg} {Z Z' : Hp} (h : ∀ a o, Z a = some o → Z' a = some o) : ∀ {vs : List V} {ds : List PyData}, DpAll K Z vs ds → DpAll K Z' vs ds
  | _, _, .nil => .nil
  | _, _, .cons q r => .cons (dp_mono h q) (dpAll_mono h r)
end
theorem dpa_length {K : Fg} {Z : Hp} : ∀ {vs : List V} {ds : List PyData}, DpAll K Z vs ds → vs.length = ds.length
  | _, _, .nil => rfl
  | _, _, .cons _ r => by rw [List.length_cons, List.length_cons, dpa_length r]
theorem dpa_append {K : Fg} {Z : Hp} : ∀ {vs ws : List V} {ds es : List PyData}, DpAll K Z vs ds → DpAll K Z ws es → DpAll K Z (vs ++ ws) (ds ++ es)
  | _, _, _, _, .nil, s => s
  | _, _, _, _, .cons q r, s => .cons q (dpa_append r s)
theorem dpa_get {K : Fg} {Z : Hp} : ∀ {vs : List V} {ds : List PyData} {i : Nat} {d : PyData}, DpAll K Z vs ds → ds[i]? = some d → ∃ v, vs[i]? = some v ∧ Dp K Z v d
  | _, _, _, _, .nil, e => by simp at e
  | _, _, 0, _, .cons q _, e => by simp at e; subst e; exact ⟨_, rfl, q⟩
  | _, _, i + 1, _, .cons _ r, e => by
    obtain ⟨v, h1, h2⟩ := dpa_get (i := i) r (by simpa using e)
    exact ⟨v, by simpa using h1, h2⟩
theorem dpa_set {K : Fg} {Z : Hp} {v : V} {d : PyData} (h : Dp K Z v d) : ∀ {vs : List V} {ds : List PyData} (i : Nat), DpAll K Z vs ds → DpAll K Z (vs.set i v) (ds.set i d)
  | _, _, _, .nil => .nil
  | _, _, 0, .cons _ r => .cons h r
  | _, _, i + 1, .cons q r => .cons q (dpa_set h i r)
theorem dpa_take {K : Fg} {Z : Hp} : ∀ {vs : List V} {ds : List PyData} (n : Nat), DpAll K Z vs ds → DpAll K Z (vs.take n) (ds.take n)
  | _, _, 0, _ => .nil
  | _, _, _ + 1, .nil => .nil
  | _, _, n + 1, .cons q r => .cons q (dpa_take n r)
theorem dpa_drop {K : Fg} {Z : Hp} : ∀ {vs : List V} {ds : List PyData} (n : Nat), DpAll K Z vs ds → DpAll K Z (vs.drop n) (ds.drop n)
  | _, _, 0, r => r
  | _, _, _ + 1, .nil => .nil
  | _, _, n + 1, .cons _ r => dpa_drop n r
end

section
variable {k : Kx} {sg sg' sg2 : L2.St} {H H' H2 Z Z' Z2 : Hp} {en en' en2 : En}
theorem NsAll.mono {K : Fg} {vs : List V} {ds : List PyData} (h : NsAll K H Z vs ds) (hh : ∀ b o, V.ref b ∈ vs → H b = some o → H' b = some o) (hn : ∀ b, V.ref b ∈ vs → Z b = none → Z' b = none) (hz : ∀ a o, Z a = some o → Z' a = some o) : NsAll K H' Z' vs ds := by
  induction h with
  | nil => exact .nil
  | cons h1 h2 h3 _ ih => exact .cons (hn _ List.mem_cons_self h1) (hh _ _ List.mem_cons_self h2) (dpAll_mono hz h3) (ih (fun b o hb => hh b o (List.mem_cons_of_mem _ hb)) fun b hb => hn b (List.mem_cons_of_mem _ hb))
theorem NsAll.at {K : Fg} {vs : List V} {ds : List PyData} (h : NsAll K H Z vs ds) {b : Addr} (hb : V.ref b ∈ vs) : Z b = none ∧ ∃ ws es, H b = some (.lst ws) ∧ DpAll K Z ws es := by
  induction h with
  | nil => cases hb
  | cons h1 h2 h3 _ ih =>
    rcases List.mem_cons.mp hb with e | hb
    · cases e; exact ⟨h1, _, _, h2, h3⟩
    · exact ih hb
theorem Nst.mono {K : Fg} {a : Addr} {d : PyData} (h : Nst K H Z a d) (hh : ∀ b o, (b = a ∨ ∃ vs, H a = some (.lst vs) ∧ V.ref b ∈ vs) → H b = some o → H' b = some o) (hn : ∀ b, (∃ vs, H a = some (.lst vs) ∧ V.ref b ∈ vs) → Z b = none → Z' b = none) (hz : ∀ a o, Z a = some o → Z' a = some o) : Nst K H' Z' a d := by
  obtain ⟨vs, ds, h1, h2, h3, h4, h5⟩ := h
  exact ⟨vs, ds, h1, hh a _ (.inl rfl) h2, h3.mono (fun b o hb => hh b o (.inr ⟨vs, h2, hb⟩)) (fun b hb => hn b ⟨vs, h2, hb⟩) hz, h4, h5⟩
theorem Own.mono {K : Fg} {a : Addr} {d : PyData} (h : Own K H Z a d) (hh : ∀ o, H a = some o → H' a = some o) (hz : ∀ a o, Z a = some o → Z' a = some o) : Own K H' Z' a d := by
  cases h with
  | lst h1 h2 => exact .lst (hh _ h1) (dpAll_mono hz h2)
  | dct h1 h2 h3 => exact .dct (hh _ h1) h2 (dpAll_mono hz h3)
  | dcn h0 h1 h2 h3 h4 => exact .dcn h0 (hh _ h1) (dpAll_mono hz h2) h3 (dpAll_mono hz h4)
theorem Own.here {K : Fg} {a : Addr} {d : PyData} (h : Own K H Z a d) : ∃ o, H a = some o ∧ (∀ ps, o ≠ .tbl ps) ∧ Mut (some o) := by
  cases h with
  | lst h1 h2 => exact ⟨_, h1, (fun _ e => by cases e), trivial⟩
  | dct h1 h2 h3 => exact ⟨_, h1, (fun _ e => by cases e), trivial⟩
  | dcn h0 h1 h2 h3 h4 => exact ⟨_, h1, (fun _ e => by cases e), trivial⟩

theorem Own.nx {K : Fg} {a : Addr} {d : PyData} (h : Own K H Z a d) {u : Obj} {x : HO} (e : H a = some (.frz u x)) : False := by
  cases h with
  | lst h1 h2 => rw [h1] at e; cases e
  | dct h1 h2 h3 => rw [h1] at e; cases e
  | dcn h0 h1 h2 h3 h4 => rw [h1] at e; cases e
theorem Rel.mine (r : Rel k sg H Z en) {a : Addr} (m : Mine H sg en a) : Z a = none ∧ ∃ o, H a = some o ∧ (∀ ps, o ≠ .tbl ps) ∧ Mut (some o) ∧ ∀ u x, o ≠ .frz u x := by
  obtain ⟨i, s, h1, h2, h3⟩ := m
  obtain ⟨v, hv, q⟩ := r.sl i s h1
  cases s with
  | no => cases h2
  | sh d => cases h2
  | ow d =>
    rw [pl_ow h3] at hv; cases hv
    obtain ⟨b, e, h4, h5⟩ := q; cases e
    obtain ⟨o, g1, g2, g3⟩ := h5.here
    exact ⟨h4, o, g1, g2, g3, fun u x e => h5.nx (by rw [g1, e])⟩
  | io d =>
    rw [pl_io h3] at hv; cases hv
    obtain ⟨b, e, h4, h5⟩ := q; cases e
    obtain ⟨o, g1, g2, g3⟩ := h5.here
    exact ⟨h4, o, g1, g2, g3, fun u x e => h5.nx (by rw [g1, e])⟩
  | fz d =>
    obtain ⟨b, e, h4, vs, ds, e1, e2, e3, e4, e5⟩ := q
    subst e
    rcases h3 with h3 | ⟨_, r', vs', _, g1, g2, g3⟩
    · rw [h3] at hv; cases hv
      exact ⟨h4, _, e2, (fun _ e => by cases e), trivial, fun _ _ e => by cases e⟩
    · rw [g1] at hv; cases hv
      rw [e2] at g2; cases g2
      obtain ⟨z1, ws, es, z2, z3⟩ := e3.at g3
      exact ⟨z1, _, z2, (fun _ e => by cases e), trivial, fun _ _ e => by cases e⟩
/-- the places of a slot are things -/
theorem Rel.here (r : Rel k sg H Z en) {i : Nat} {s : Sl} {a : Addr} (h1 : en[i]? = some s) (h2 : isOwn s = true) (h3 : Pl H sg i s a) : ∃ o, H a = some o := by
  obtain ⟨_, o, h, _⟩ := r.mine ⟨i, s, h1, h2, h3⟩
  exact ⟨o, h⟩
theorem Rel.free (r : Rel k sg H Z en) {a : Addr} (h : H a = none) : Z a = none := by
  cases e : Z a with
  | none => rfl
  | some o => rw [r.sub a o e] at h; cases h

theorem Aft.keep (a : Aft k sg H Z en sg' H' Z' en') {x : Addr} {o : HO} (h : H x = some o) (m : ¬ Mine H sg en x) (t : NT o) : H' x = some o := (a.kp x o h m).nt t
theorem Aft.refl (r : Rel k sg H Z en) : Aft k sg H Z en sg H Z en :=
  ⟨r, fun _ _ h => h, fun _ _ h => .inl h, fun _ _ h _ => .inl h, fun _ h => .inl h, fun i d h => ⟨⟨d, h⟩, rfl⟩, fun _ t => t⟩
theorem Aft.trans (a : Aft k sg H Z en sg' H' Z' en') (b : Aft k sg' H' Z' en' sg2 H2 Z2 en2) (r : Rel k sg H Z en) : Aft k sg H Z en sg2 H2 Z2 en2 where
  rel := b.rel
  zz := fun x o h => b.zz x o (a.zz x o h)
  new := fun x o h => by
    rcases b.new x o h with q | q | q
    · exact a.new x o q
    · cases e : H x with
      | none => exact .inr (.inl rfl)
      | some u =>
        by_cases m : Mine H sg en x
        · exact .inr (.inr m)
        · exact ((a.kp x u e m).none q).elim
    · rcases a.own x q with z | z
      · exact .inr (.inr z)
      · exact .inr (.inl z)
  kp := fun x o h m => by
    refine (a.kp x o h m).trans fun u hu => b.kp x u hu fun q => ?_
    rcases a.own x q with z | z
    · exact m z
    · rw [h] at z; cases z
  own := fun x h => by
    rcases b.own x h with q | q
    · exact a.own x q
    · cases e : H x with
      | none => exact .inr rfl
      | some u =>
        by_cases m : Mine H sg en x
        · exact .inl m
        · exact ((a.kp x u e m).none q).elim
  io := fun i d h => by
    obtain ⟨⟨d', h1⟩, h2⟩ := a.io i d h
    obtain ⟨h3, h4⟩ := b.io i d' h1
    exact ⟨h3, h4.trans h2⟩
  tb := fun T t => b.tb T (a.tb T t)
end

/-- a value behind a step that began at sg, H, en -/
def VlOk (k : Kx) (sg : L2.St) (H : Hp) (en : En) (sg' : L2.St) (H' Z' : Hp) (en' : En) (v : V) : Vl → Prop
  | .sh d => Dp k.K Z' v d
  | .ow d => ∃ a, v = .ref a ∧ Z' a = none ∧ Own k.K H' Z' a d ∧ ¬ Mine H' sg' en' a ∧ (H a = none ∨ Mine H sg en a)

/-- what is wanted where an error of the class leaves -/
abbrev Wish := String → L2.St → Hp → Prop
def W0 : Wish := fun _ _ _ => False

/-- what follows a reckoning -/
def Post {α : Type} (k : Kx) (E : Wish) (sg : L2.St) (H Z : Hp) (en : En) (r : Res α) (P : α → En → Hp → Hp → Prop) : Prop :=
  match r with
  | .ok a en' => ∀ H' Z', Aft k sg H Z en sg H' Z' en' → P a en' H' Z'
  | .err c en' => ∀ H' Z', Aft k sg H Z en sg H' Z' en' → E c sg H'
  | .bad => False

def bnd {α β : Type} (m : M α) (f : α → M β) : M β := fun en => match m en with
  | .ok a en' => f a en'
  | .err c en' => .err c en'
  | .bad => .bad
def ret {α : Type} (a : α) : M α := fun en => .ok a en
def fail {α : Type} : M α := fun _ => .bad

section
variable {k : Kx} {E : Wish} {sg : L2.St} {H H' Z Z' : Hp} {en en' : En} {α β : Type}
theorem post_bnd {m : M α} {f : α → M β} {P : β → En → Hp → Hp → Prop} (r : Rel k sg H Z en) (h : Post k E sg H Z en (bnd m f en) P) :
    Post k E sg H Z en (m en) fun a en1 H1 Z1 => Aft k sg H Z en sg H1 Z1 en1 ∧ Post k E sg H1 Z1 en1 (f a en1) P := by
  unfold bnd at h
  cases q : m en with
  | ok a en1 =>
    rw [q] at h
    intro H1 Z1 a1
    refine ⟨a1, ?_⟩
    have h : Post k E sg H Z en (f a en1) P := h
    cases q2 : f a en1 with
    | ok b en2 =>
      rw [q2] at h
      intro H2 Z2 a2
      exact h H2 Z2 (a1.trans a2 r)
    | err c en2 =>
      rw [q2] at h
      intro H2 Z2 a2
      exact h H2 Z2 (a1.trans a2 r)
    | bad => rw [q2] at h; exact h
  | err c en1 => rw [q] at h; exact h
  | bad => rw [q] at h; exact h
theorem post_mono {r : Res α} {P P' : α → En → Hp → Hp → Prop} (h : Post k E sg H Z en r P) (i : ∀ a en' H' Z', Aft k sg H Z en sg H' Z' en' → P a en' H' Z' → P' a en' H' Z') : Post k E sg H Z en r P' := by
  cases r with
  | ok a en1 => exact fun H1 Z1 a1 => i _ _ _ _ a1 (h H1 Z1 a1)
  | err c en1 => exact h
  | bad => exact h
theorem post_ret {a : α} {P : α → En → Hp → Hp → Prop} (r : Rel k sg H Z en) (h : Post k E sg H Z en (ret a en) P) : P a en H Z := h H Z (Aft.refl r)

theorem free_back (a : Aft k sg H Z en sg H' Z' en') {x : Addr} (h : H' x = none) : H x = none ∨ Mine H sg en x := by
  cases e : H x with
  | none => exact .inl rfl
  | some u =>
    by_cases m : Mine H sg en x
    · exact .inr m
    · exact ((a.kp x u e m).none h).elim
theorem vl_back {H2 Z2 : Hp} {en2 : En} {v : V} {x : Vl} (a : Aft k sg H Z en sg H' Z' en') (h : VlOk k sg H' en' sg H2 Z2 en2 v x) : VlOk k sg H en sg H2 Z2 en2 v x := by
  cases x with
  | sh d => exact h
  | ow d =>
    obtain ⟨p, e, h1, h2, h3, h4⟩ := h
    refine ⟨p, e, h1, h2, h3, ?_⟩
    rcases h4 with q | q
    · exact free_back a q
    · exact (a.own p q).symm
theorem mine_there (r : Rel k sg H Z en) {a : Addr} (m : Mine H sg en a) : ∃ o, H a = some o ∧ ∀ u, H a = some u → NT u := by
  obtain ⟨_, o, h1, h2, _⟩ := r.mine m
  exact ⟨o, h1, fun u e => by rw [h1] at e; cases e; exact h2⟩
/-- H' has what H has at one's own places: the places are the same -/
theorem pl_mono (r : Rel k sg H Z en) (hh : ∀ a, Mine H sg en a → ∀ o, H a = some o → H' a = some o) {i : Nat} {s : Sl} (h1 : en[i]? = some s) {a : Addr} : Pl H' sg i s a → Pl H sg i s a := by
  intro h
  rcases h with h | ⟨d, p, vs, rfl, h2, h3, h4⟩
  · exact .inl h
  · have hm : Mine H sg en p := ⟨i, _, h1, rfl, .inl h2⟩
    obtain ⟨_, o, g1, _⟩ := r.mine hm
    have := hh p hm o g1
    rw [h3] at this; cases this
    exact .inr ⟨d, p, vs, rfl, h2, g1, h4⟩
theorem mine_mono (r : Rel k sg H Z en) (hh : ∀ a, Mine H sg en a → ∀ o, H a = some o → H' a = some o) {a : Addr} : Mine H' sg en a → Mine H sg en a := fun ⟨i, s, h1, h2, h3⟩ => ⟨i, s, h1, h2, pl_mono r hh h1 h3⟩
theorem mine_new {p : Addr} {o : HO} (r : Rel k sg H Z en) (hp : H p = none) {a : Addr} : Mine (upd H p o) sg en a → Mine H sg en a := mine_mono r fun a _ u h => by
  rw [upd_ne (fun e => by rw [e, hp] at h; cases h)]; exact h
theorem mine_upd {p : Addr} {o : HO} (r : Rel k sg H Z en) (nm : ¬ Mine H sg en p) {a : Addr} : Mine (upd H p o) sg en a → Mine H sg en a := mine_mono r fun a m u h => by
  rw [upd_ne (fun e : a = p => nm (e ▸ m))]; exact h
theorem pl_upd {p : Addr} {o : HO} (r : Rel k sg H Z en) (nm : ¬ Mine H sg en p) {i : Nat} {s : Sl} (h1 : en[i]? = some s) {a : Addr} : Pl (upd H p o) sg i s a → Pl H sg i s a := pl_mono r (fun a m u h => by
  rw [upd_ne (fun e : a = p => nm (e ▸ m))]; exact h) h1
theorem slfz_pl {K : Fg} {i : Nat} {d : PyData} {v : Option V} (hv : sg[i]? = some v) (q : ∃ a, v = some (.ref a) ∧ Z a = none ∧ Nst K H Z a d) (hh : ∀ a, Pl H sg i (.fz d) a → ∀ o, H a = some o → H' a = some o) (hn : ∀ a, Pl H sg i (.fz d) a → Z a = none → Z' a = none) (hz : ∀ a o, Z a = some o → Z' a = some o) : ∃ a, v = some (.ref a) ∧ Z' a = none ∧ Nst K H' Z' a d := by
  obtain ⟨a, rfl, h1, h2⟩ := q
  have m0 : Pl H sg i (.fz d) a := .inl hv
  have mb : ∀ b, (∃ vs, H a = some (.lst vs) ∧ V.ref b ∈ vs) → Pl H sg i (.fz d) b := fun b ⟨vs, g1, g2⟩ => .inr ⟨d, a, vs, rfl, hv, g1, g2⟩
  exact ⟨a, rfl, hn a m0 h1, h2.mono (fun b o hb ho => hh b (by rcases hb with rfl | hb; exact m0; exact mb b hb) o ho) (fun b hb hz => hn b (mb b hb) hz) hz⟩
theorem slfz_mono (r : Rel k sg H Z en) {i : Nat} {d : PyData} {v : Option V} (he : en[i]? = some (.fz d)) (hv : sg[i]? = some v) (q : ∃ a, v = some (.ref a) ∧ Z a = none ∧ Nst k.K H Z a d) (hh : ∀ a, Mine H sg en a → ∀ o, H a = some o → H' a = some o) (hn : ∀ a, Mine H sg en a → Z a = none → Z' a = none) (hz : ∀ a o, Z a = some o → Z' a = some o) : ∃ a, v = some (.ref a) ∧ Z' a = none ∧ Nst k.K H' Z' a d :=
  slfz_pl hv q (fun a h => hh a ⟨i, _, he, rfl, h⟩) (fun a h => hn a ⟨i, _, he, rfl, h⟩) hz
theorem sl_mono {K : Fg} {i : Nat} {s : Sl} {v : Option V} (hv : sg[i]? = some v) (q : SlOk K H Z v s) (hh : ∀ a, isOwn s = true → Pl H sg i s a → ∀ o, H a = some o → H' a = some o) (hn : ∀ a, isOwn s = true → Pl H sg i s a → Z a = none → Z' a = none) (hz : ∀ a o, Z a = some o → Z' a = some o) : SlOk K H' Z' v s := by
  cases s with
  | no => trivial
  | sh d => obtain ⟨x, e, q⟩ := q; exact ⟨x, e, dp_mono hz q⟩
  | ow d => obtain ⟨a, e, h1, h2⟩ := q; exact ⟨a, e, hn a rfl (.inl (by rw [hv, e])) h1, h2.mono (hh a rfl (.inl (by rw [hv, e]))) hz⟩
  | io d => obtain ⟨a, e, h1, h2⟩ := q; exact ⟨a, e, hn a rfl (.inl (by rw [hv, e])) h1, h2.mono (hh a rfl (.inl (by rw [hv, e]))) hz⟩
  | fz d => exact slfz_pl hv q (fun a h => hh a rfl h) (fun a h => hn a rfl h) hz
/-- a new thing stands at p, and stays one's own -/
theorem aft_new {p : Addr} {o : HO} (r : Rel k sg H Z en) (hp : H p = none) : Aft k sg H Z en sg (upd H p o) Z en := by
  have ne : ∀ a u, H a = some u → a ≠ p := fun a u h e => by rw [e, hp] at h; cases h
  have up : ∀ a u, H a = some u → upd H p o a = some u := fun a u h => by rw [upd_ne (ne a u h)]; exact h
  have hu : ∀ a, Mine H sg en a → ∀ u, H a = some u → upd H p o a = some u := fun a _ u h => up a u h
  refine ⟨⟨fun a u h => up a u (r.sub a u h), fun i s h => ?_, fun i j s t a h1 h2 h3 h4 h5 h6 => r.dis i j s t a h1 h2 h3 h4 (pl_mono r hu h1 h5) (pl_mono r hu h2 h6), r.tab.mono (fun a u h _ => up a u h) fun _ _ _ h => h⟩, fun _ _ h => h, fun _ _ h => .inl h, fun a u h _ => .inl (up a u h), fun _ h => .inl (mine_mono r hu h), fun i d h => ⟨⟨d, h⟩, rfl⟩, fun _ t => t.mono (fun a u h _ => up a u h) fun _ _ _ h => h⟩
  · obtain ⟨v, hv, q⟩ := r.sl i s h
    refine ⟨v, hv, ?_⟩
    cases s with
    | no => trivial
    | sh d => exact q
    | ow d => obtain ⟨a, e, h1, h2⟩ := q; exact ⟨a, e, h1, h2.mono (up a) fun _ _ z => z⟩
    | io d => obtain ⟨a, e, h1, h2⟩ := q; exact ⟨a, e, h1, h2.mono (up a) fun _ _ z => z⟩
    | fz d => exact slfz_mono r h hv q hu (fun _ _ z => z) fun _ _ z => z
/-- .. and is there for all -/
theorem aft_all {p : Addr} {o : HO} (r : Rel k sg H Z en) (hp : H p = none) : Aft k sg H Z en sg (upd H p o) (upd Z p o) en := by
  have ne : ∀ a u, H a = some u → a ≠ p := fun a u h e => by rw [e, hp] at h; cases h
  have up : ∀ a u, H a = some u → upd H p o a = some u := fun a u h => by rw [upd_ne (ne a u h)]; exact h
  have uz : ∀ a u, Z a = some u → upd Z p o a = some u := fun a u h => by rw [upd_ne (ne a u (r.sub a u h))]; exact h
  have hu : ∀ a, Mine H sg en a → ∀ u, H a = some u → upd H p o a = some u := fun a _ u h => up a u h
  refine ⟨⟨fun a u h => ?_, fun i s h => ?_, fun i j s t a h1 h2 h3 h4 h5 h6 => r.dis i j s t a h1 h2 h3 h4 (pl_mono r hu h1 h5) (pl_mono r hu h2 h6), r.tab.mono (fun a u h _ => up a u h) fun a ps h hz => by rw [upd_ne (ne a _ h)]; exact hz⟩, uz, fun a u h => ?_, fun a u h _ => .inl (up a u h), fun _ h => .inl (mine_mono r hu h), fun i d h => ⟨⟨d, h⟩, rfl⟩, fun _ t => t.mono (fun a u h _ => up a u h) fun a ps h hz => by rw [upd_ne (ne a _ h)]; exact hz⟩
  · by_cases e : a = p
    · rw [e, upd_same] at h; rw [e, upd_same]; exact h
    · rw [upd_ne e] at h; rw [upd_ne e]; exact r.sub a u h
  · obtain ⟨v, hv, q⟩ := r.sl i s h
    refine ⟨v, hv, ?_⟩
    cases s with
    | no => trivial
    | sh d => obtain ⟨x, e, q⟩ := q; exact ⟨x, e, dp_mono uz q⟩
    | ow d =>
      obtain ⟨a, e, h1, h2⟩ := q
      obtain ⟨u, h3, _⟩ := h2.here
      exact ⟨a, e, by rw [upd_ne (ne a u h3)]; exact h1, h2.mono (up a) uz⟩
    | io d =>
      obtain ⟨a, e, h1, h2⟩ := q
      obtain ⟨u, h3, _⟩ := h2.here
      exact ⟨a, e, by rw [upd_ne (ne a u h3)]; exact h1, h2.mono (up a) uz⟩
    | fz d => exact slfz_mono r h hv q hu (fun a m z => by obtain ⟨_, o', g, _⟩ := r.mine m; rw [upd_ne (ne a o' g)]; exact z) uz
  · by_cases e : a = p
    · rw [e]; exact .inr (.inl hp)
    · rw [upd_ne e] at h; exact .inl h
/-- one's own thing at a is from now on there for all -/
theorem aft_frz {i : Nat} {a : Addr} {o : HO} {d : PyData} (r : Rel k sg H Z en) (he : en[i]? = some (.ow d)) (hs : sg[i]? = some (some (V.ref a))) (ho : H a = some o) (hd : Dp k.K (upd Z a o) (.ref a) d) :
    Aft k sg H Z en sg H (upd Z a o) (en.set i (.sh d)) := by
  have hm : Mine H sg en a := ⟨i, _, he, rfl, .inl hs⟩
  have za : Z a = none := (r.mine hm).1
  have hi : i < en.length := (List.getElem?_eq_some_iff.mp he).1
  have uz : ∀ b u, Z b = some u → upd Z a o b = some u := fun b u h => by
    rw [upd_ne (fun e => by rw [e, za] at h; cases h)]; exact h
  have at_ : ∀ (j : Nat) (s : Sl), (en.set i (.sh d))[j]? = some s → (j = i ∧ s = .sh d) ∨ (j ≠ i ∧ en[j]? = some s) := fun j s h => by
    by_cases e : j = i
    · rw [e, List.getElem?_set_self hi] at h; cases h; exact .inl ⟨e, rfl⟩
    · rw [List.getElem?_set_ne (Ne.symm e)] at h; exact .inr ⟨e, h⟩
  have mn : ∀ b, Mine H sg (en.set i (.sh d)) b → Mine H sg en b ∧ b ≠ a := fun b ⟨j, s, h1, h2, h3⟩ => by
    rcases at_ j s h1 with ⟨_, e⟩ | ⟨hj, e⟩
    · rw [e] at h2; cases h2
    · exact ⟨⟨j, s, e, h2, h3⟩, fun z => hj (r.dis j i s _ a e he h2 rfl (by rw [← z]; exact h3) (.inl hs))⟩
  refine ⟨⟨fun b u h => ?_, fun j s h => ?_, fun j l s t b h1 h2 h3 h4 h5 h6 => ?_, r.tab.mono (fun _ _ h _ => h) fun b ps h hz => ?_⟩, uz, fun b u h => ?_, fun b u h _ => .inl h, fun b h => .inl (mn b h).1, fun j d' h => ?_, fun _ t => t.mono (fun _ _ h _ => h) fun b ps h hz => by
    obtain ⟨_, _, hn⟩ := mine_there r hm
    rw [upd_ne (fun e => hn _ (by rw [e] at h; exact h) ps rfl)]; exact hz⟩
  · by_cases e : b = a
    · rw [e, upd_same] at h; rw [e, ho]; exact h
    · rw [upd_ne e] at h; exact r.sub b u h
  · rcases at_ j s h with ⟨e1, e2⟩ | ⟨hj, e⟩
    · rw [e1, e2]; exact ⟨_, hs, _, rfl, hd⟩
    · obtain ⟨v, hv, q⟩ := r.sl j s e
      refine ⟨v, hv, ?_⟩
      have nb' : ∀ b, isOwn s = true → Pl H sg j s b → b ≠ a := fun b ho' hp z => hj (r.dis j i s _ a e he ho' rfl (by rw [← z]; exact hp) (.inl hs))
      have nb : ∀ b, isOwn s = true → v = some (.ref b) → b ≠ a := fun b ho' hv' => nb' b ho' (.inl (by rw [hv, hv']))
      cases s with
      | no => trivial
      | sh d' => obtain ⟨x, e, q⟩ := q; exact ⟨x, e, dp_mono uz q⟩
      | ow d' => obtain ⟨b, e, h1, h2⟩ := q; exact ⟨b, e, by rw [upd_ne (nb b rfl e)]; exact h1, h2.mono (fun _ z => z) uz⟩
      | io d' => obtain ⟨b, e, h1, h2⟩ := q; exact ⟨b, e, by rw [upd_ne (nb b rfl e)]; exact h1, h2.mono (fun _ z => z) uz⟩
      | fz d' => exact slfz_pl hv q (fun _ _ _ z => z) (fun b hb z => by rw [upd_ne (nb' b rfl hb)]; exact z) uz
  · rcases at_ j s h1 with ⟨_, e⟩ | ⟨_, e⟩
    · rw [e] at h3; cases h3
    · rcases at_ l t h2 with ⟨_, e'⟩ | ⟨_, e'⟩
      · rw [e'] at h4; cases h4
      · exact r.dis j l s t b e e' h3 h4 h5 h6
  · obtain ⟨_, _, hn⟩ := mine_there r hm
    rw [upd_ne (fun e => hn _ (by rw [e] at h; exact h) ps rfl)]; exact hz
  · by_cases e : b = a
    · rw [e]; exact .inr (.inr hm)
    · rw [upd_ne e] at h; exact .inl h
  · have hj : j ≠ i := fun e => by rw [e, he] at h; cases h
    exact ⟨⟨d', by rw [List.getElem?_set_ne (Ne.symm hj)]; exact h⟩, rfl⟩
/-- a fresh thing of a value is from now on there for all -/
theorem aft_vl {a : Addr} {o : HO} (r : Rel k sg H Z en) (ho : H a = some o) (hz : Z a = none) (nm : ¬ Mine H sg en a) (ht : NT o) :
    Rel k sg H (upd Z a o) en ∧ (∀ b u, Z b = some u → upd Z a o b = some u) := by
  have uz : ∀ b u, Z b = some u → upd Z a o b = some u := fun b u h => by
    rw [upd_ne (fun e => by rw [e, hz] at h; cases h)]; exact h
  refine ⟨⟨fun b u h => ?_, fun j s h => ?_, r.dis, r.tab.mono (fun _ _ h _ => h) fun b ps h hz => ?_⟩, uz⟩
  · by_cases e : b = a
    · rw [e, upd_same] at h; rw [e, ho]; exact h
    · rw [upd_ne e] at h; exact r.sub b u h
  · obtain ⟨v, hv, q⟩ := r.sl j s h
    refine ⟨v, hv, ?_⟩
    have nb' : ∀ b, isOwn s = true → Pl H sg j s b → b ≠ a := fun b ho' hp z => nm ⟨j, s, h, ho', by rw [← z]; exact hp⟩
    have nb : ∀ b, isOwn s = true → v = some (.ref b) → b ≠ a := fun b ho' hv' => nb' b ho' (.inl (by rw [hv, hv']))
    cases s with
    | no => trivial
    | sh d' => obtain ⟨x, e, q⟩ := q; exact ⟨x, e, dp_mono uz q⟩
    | ow d' => obtain ⟨b, e, h1, h2⟩ := q; exact ⟨b, e, by rw [upd_ne (nb b rfl e)]; exact h1, h2.mono (fun _ z => z) uz⟩
    | io d' => obtain ⟨b, e, h1, h2⟩ := q; exact ⟨b, e, by rw [upd_ne (nb b rfl e)]; exact h1, h2.mono (fun _ z => z) uz⟩
    | fz d' => exact slfz_pl hv q (fun _ _ _ z => z) (fun b hb z => by rw [upd_ne (nb' b rfl hb)]; exact z) uz
  · rw [upd_ne (fun e => by rw [e, ho] at h; exact ht ps (Option.some.inj h))]; exact hz
end

/-- a thing that is looked at: a tree, or what stands in a place -/
inductive Od where
  | d (x : PyData) | s (i : Nat)
def look (en : En) : Od → Option PyData
  | .d x => some x
  | .s i => match en[i]? with
    | some (.ow d) => some d
    | some (.io d) => some d
    | some (.sh d) => some d
    | _ => none
def OdOk (k : Kx) (sg : L2.St) (Z : Hp) (v : V) : Od → Prop
  | .d d => Dp k.K Z v d
  | .s i => sg[i]? = some (some v)
def Top (K : Fg) (H Z : Hp) (v : V) (d : PyData) : Prop := Dp K Z v d ∨ ∃ a, v = .ref a ∧ Own K H Z a d

def tV (k : Kx) (E : Wish) (m : M Vl) : TE := fun sg H Q => ∃ en Z, Rel k sg H Z en ∧ Post k E sg H Z en (m en) fun x en' H' Z' => ∀ v, VlOk k sg H en sg H' Z' en' v x → Q v H'
def tD (k : Kx) (E : Wish) (m : M PyData) : TE := fun sg H Q => ∃ en Z, Rel k sg H Z en ∧ Post k E sg H Z en (m en) fun x _ H' Z' => ∀ v, Dp k.K Z' v x → Q v H'
def tO (k : Kx) (E : Wish) (m : M Od) : TE := fun sg H Q => ∃ en Z, Rel k sg H Z en ∧ Post k E sg H Z en (m en) fun x _ H' Z' => ∀ v, OdOk k sg Z' v x → Q v H'
def tT (k : Kx) (E : Wish) (m : M Bool) : TT := fun sg H Q => ∃ en Z, Rel k sg H Z en ∧ Post k E sg H Z en (m en) fun b _ H' _ => Q b H'
def tA (k : Kx) (E : Wish) (m : M (List PyData)) : TA := fun sg H Q => ∃ en Z, Rel k sg H Z en ∧ Post k E sg H Z en (m en) fun ds _ H' Z' => ∀ vs, DpAll k.K Z' vs ds → Q vs H'

theorem pe_imp {X : Cx} {e : Expr} {t u : TE} (h : PE X e t) (i : ∀ sg H Q, u sg H Q → t sg H Q) : PE X e u := ⟨fun pins s sg H Q I q => h.run pins s sg H Q I (i _ _ _ q)⟩
theorem pt_imp {X : Cx} {e : Expr} {t u : TT} (h : PT X e t) (i : ∀ sg H Q, u sg H Q → t sg H Q) : PT X e u := ⟨fun pins s sg H Q I q => h.run pins s sg H Q I (i _ _ _ q)⟩
theorem pw_imp {X : Cx} {e : Expr} {t u : TT} (h : PW X e t) (i : ∀ sg H Q, u sg H Q → t sg H Q) : PW X e u := ⟨fun w pins s sg H Q I q => h.run w pins s sg H Q I (i _ _ _ q)⟩
theorem pa_imp {X : Cx} {e : List Expr} {t u : TA} (h : PA X e t) (i : ∀ sg H Q, u sg H Q → t sg H Q) : PA X e u := ⟨fun p pins s sg H Q I q => h.run p pins s sg H Q I (i _ _ _ q)⟩
theorem ps_imp {X : Cx} {e : Stmt} {t u : TS} (h : PS X e t) (i : ∀ D sg H, u D sg H → t D sg H) : PS X e u := ⟨fun pins s sg H D I q => h.run pins s sg H D I (i _ _ _ q)⟩
theorem pss_imp {X : Cx} {e : List Stmt} {t u : TS} (h : PSs X e t) (i : ∀ D sg H, u D sg H → t D sg H) : PSs X e u := ⟨fun pins s sg H D I q => h.run pins s sg H D I (i _ _ _ q)⟩
end ZD


namespace ZD
open PySem PySem.Spec PyProof.Rows L2 GxR ZG

abbrev GE (T : TL) (E : Wish) (X : Cx) (e : Expr) (m : M Vl) : Prop := PE X e (tV ⟨X.G, T⟩ E m)
abbrev GD (T : TL) (E : Wish) (X : Cx) (e : Expr) (m : M PyData) : Prop := PE X e (tD ⟨X.G, T⟩ E m)
abbrev GO (T : TL) (E : Wish) (X : Cx) (e : Expr) (m : M Od) : Prop := PE X e (tO ⟨X.G, T⟩ E m)
abbrev GT (T : TL) (E : Wish) (X : Cx) (e : Expr) (m : M Bool) : Prop := PT X e (tT ⟨X.G, T⟩ E m)
abbrev GW (T : TL) (E : Wish) (X : Cx) (e : Expr) (m : M Bool) : Prop := PW X e (tT ⟨X.G, T⟩ E m)
abbrev GA (T : TL) (E : Wish) (X : Cx) (es : List Expr) (m : M (List PyData)) : Prop := PA X es (tA ⟨X.G, T⟩ E m)

def shV (m : M PyData) : M Vl := bnd m fun d => ret (.sh d)
def fz (m : M Vl) : M PyData := bnd m fun x => match x with
  | .sh d => ret d
  | .ow (.list ds) => ret (.list ds)
  | .ow (.dict ds) => ret (.dict ds)
  | .ow _ => fail
def odD (m : M PyData) : M Od := bnd m fun d => ret (.d d)
/-- a name that is looked at -/
def nm (i : Nat) : M Od := fun en => match en[i]? with
  | some (.sh d) => .ok (.d d) en
  | some (.ow _) => .ok (.s i) en
  | some (.io _) => .ok (.s i) en
  | _ => .bad
/-- a name whose thing is handed on -/
def nv (i : Nat) : M PyData := fun en => match en[i]? with
  | some (.sh d) => .ok d en
  | some (.ow (.list ds)) => .ok (.list ds) (en.set i (.sh (.list ds)))
  | some (.ow (.dict ds)) => .ok (.dict ds) (en.set i (.sh (.dict ds)))
  | _ => .bad
def cst (d : PyData) : M PyData := ret d

mutual
def nd : PyData → Bool
  | .list xs => nds xs
  | .tuple xs => nds xs
  | .dict _ => false
  | _ => true
def nds : List PyData → Bool
  | [] => true
  | x :: xs => nd x && nds xs
end
mutual
theorem Dp.kit {K : Fg} {Z : Hp} : ∀ {d : PyData} {v : V}, nd d = true → Dp K Z v d → L2.Dp K.K Z v d
  | .none, _, _, h => by cases h; exact .non
  | .bool _, _, _, h => by cases h; exact .bl _
  | .int _, _, _, h => by cases h; exact .int _
  | .str _, _, _, h => by cases h; exact .str _
  | .list xs, _, n, h => by
    rw [nd] at n
    cases h with
    | lst h1 h2 => exact .lst h1 (DpAll.kit n h2)
  | .tuple xs, _, n, h => by
    rw [nd] at n
    cases h with
    | tup h1 h2 => exact .tup h1.sqt (DpAll.kit n h2)
  | .dict _, _, n, _ => by rw [nd] at n; cases n
theorem DpAll.kit {K : Fg} {Z : Hp} : ∀ {ds : List PyData} {vs : List V}, nds ds = true → DpAll K Z vs ds → L2.DpAll K.K Z vs ds
  | [], _, _, h => by cases h; exact .nil
  | d :: ds, _, n, h => by
    rw [nds, Bool.and_eq_true] at n
    cases h with
    | cons h1 h2 => exact .cons (Dp.kit n.1 h1) (DpAll.kit n.2 h2)
end
mutual
theorem nd_lay : ∀ {d : PyData}, d.canLay0 = true → nd d = true
  | .none, _ => by simp [nd]
  | .bool _, _ => by simp [nd]
  | .int _, _ => by simp [nd]
  | .str _, _ => by simp [nd]
  | .list xs, h => by rw [PyData.canLay0] at h; rw [nd]; exact nds_lay h
  | .tuple xs, h => by rw [PyData.canLay0] at h; rw [nd]; exact nds_lay h
  | .dict _, h => by rw [PyData.canLay0] at h; cases h
theorem nds_lay : ∀ {ds : List PyData}, PyData.canLayAll0 ds = true → nds ds = true
  | [], _ => by rw [nds]
  | d :: ds, h => by
    rw [PyData.canLayAll0, Bool.and_eq_true] at h
    rw [nds, nd_lay h.1, nds_lay h.2]; rfl
end
mutual
theorem nd_alike : ∀ {d : PyData}, PySem.W.alike d d = true → nd d = true
  | .none, _ => by simp [nd]
  | .bool _, _ => by simp [nd]
  | .int _, _ => by simp [nd]
  | .str _, _ => by simp [nd]
  | .list xs, h => by rw [PySem.W.alike] at h; rw [nd]; exact nds_alike h
  | .tuple xs, h => by rw [PySem.W.alike] at h; rw [nd]; exact nds_alike h
  | .dict _, h => by simp [PySem.W.alike] at h
theorem nds_alike : ∀ {ds : List PyData}, PySem.W.alikeAll ds ds = true → nds ds = true
  | [], _ => by rw [nds]
  | d :: ds, h => by
    rw [PySem.W.alikeAll, Bool.and_eq_true] at h
    rw [nds, nd_alike h.1, nds_alike h.2]; rfl
end
theorem nds_all {ds : List PyData} (h : ∀ d ∈ ds, nd d = true) : nds ds = true := by
  induction ds with
  | nil => rw [nds]
  | cons d ds ih => rw [nds, h d List.mem_cons_self, ih fun e he => h e (List.mem_cons_of_mem _ he)]; rfl
section
variable {T : TL} {E : Wish} {X : Cx} {e a b c : Expr} {pos : Pos}
variable {k : Kx} {sg : L2.St} {H Z : Hp} {en : En}

theorem ge_sh {m : M PyData} (h : GD T E X e m) : GE T E X e (shV m) := pe_imp h fun sg H Q ⟨en, Z, r, q⟩ => ⟨en, Z, r, post_mono (post_bnd r q) fun d en1 H1 Z1 _ ⟨a1, q1⟩ v hv => post_ret a1.rel q1 v hv⟩
def LkQ (Q : VK) : VK := fun v H => Q v H ∨ ∃ a u, v = .ref a ∧ H a = some u ∧ Mut (some u) ∧ ∀ od, Q v (upd H a (.frz od u))
theorem pe_lk {t : TE} (h : PE X e t) : PE X e fun sg H Q => t sg H (LkQ Q) := ⟨fun pins s sg H Q I q => thn (h.run pins s sg H (LkQ Q) I q) fun v s1 ⟨x, H1, I1, r, q1⟩ => by
  rcases q1 with q1 | ⟨a, u, rfl, ha, mu, q1⟩
  · exact ⟨x, H1, I1, r, q1⟩
  · obtain ⟨od, I2⟩ := I1.lock ha mu
    exact ⟨_, _, I2, r, q1 od⟩⟩
theorem upd_more' {Z : Hp} {a : Addr} {o : HO} (hz : Z a = none) : ∀ b u, Z b = some u → upd Z a o b = some u := fun b u z => by
  rw [upd_ne (fun e => by rw [e, hz] at z; cases z)]; exact z
theorem tabs_lock {H Z : Hp} {a : Addr} {u : HO} {od : Obj} (ho : H a = some u) (nt : NT u) (nf : ∀ o x, u ≠ .frz o x) : ∀ T, Tabs T H Z → Tabs T (upd H a (.frz od u)) (upd Z a (.frz od u)) := fun T t => t.mono (fun b v h q => by
      rw [upd_ne (fun e => by
        rw [e, ho] at h
        cases h
        rcases q with ⟨ps, q⟩ | ⟨o, x, q⟩
        · exact nt _ q
        · exact nf _ _ q)]
      exact h) fun b ps h hz2 => by rw [upd_ne (fun e => by rw [e, ho] at h; exact nt _ (Option.some.inj h))]; exact hz2
theorem pl_frz {a : Addr} {u : HO} {od : Obj} {j : Nat} {s : Sl} {b : Addr} : Pl (upd H a (.frz od u)) sg j s b → Pl H sg j s b :=
  pl_at fun r' vs _ _ h => by
    by_cases e : r' = a
    · rw [e, upd_same] at h; cases h
    · rw [upd_ne e] at h; exact h
theorem rel_lock {a : Addr} {u : HO} {od : Obj} (r : Rel k sg H Z en) (ho : H a = some u) (za : Z a = none) (nm : ¬ Mine H sg en a) (nt : NT u) (nf : ∀ o x, u ≠ .frz o x) : Rel k sg (upd H a (.frz od u)) (upd Z a (.frz od u)) en := by
  have uz := upd_more' (o := .frz od u) za
  refine ⟨fun b v h => ?_, fun j s h => ?_, fun i j s t b h1 h2 h3 h4 h5 h6 => r.dis i j s t b h1 h2 h3 h4 (pl_frz h5) (pl_frz h6), tabs_lock ho nt nf _ r.tab⟩
  · by_cases e : b = a
    · rw [e, upd_same] at h; rw [e, upd_same]; exact h
    · rw [upd_ne e] at h; rw [upd_ne e]; exact r.sub b v h
  · obtain ⟨v, hv, q⟩ := r.sl j s h
    refine ⟨v, hv, ?_⟩
    have nb' : ∀ b, isOwn s = true → Pl H sg j s b → b ≠ a := fun b ho' hp z => nm ⟨j, s, h, ho', by rw [← z]; exact hp⟩
    have nb : ∀ b, isOwn s = true → v = some (.ref b) → b ≠ a := fun b ho' hv' => nb' b ho' (.inl (by rw [hv, hv']))
    cases s with
    | no => trivial
    | sh d' => obtain ⟨x, e, q⟩ := q; exact ⟨x, e, dp_mono uz q⟩
    | ow d' => obtain ⟨b, e, h1, h2⟩ := q; exact ⟨b, e, by rw [upd_ne (nb b rfl e)]; exact h1, h2.mono (fun o' z => by rw [upd_ne (nb b rfl e)]; exact z) uz⟩
    | io d' => obtain ⟨b, e, h1, h2⟩ := q; exact ⟨b, e, by rw [upd_ne (nb b rfl e)]; exact h1, h2.mono (fun o' z => by rw [upd_ne (nb b rfl e)]; exact z) uz⟩
    | fz d' => exact slfz_pl hv q (fun b hb o z => by rw [upd_ne (nb' b rfl hb)]; exact z) (fun b hb z => by rw [upd_ne (nb' b rfl hb)]; exact z) uz
theorem aft_lock {H1 Z1 : Hp} {en1 : En} {a : Addr} {u : HO} {od : Obj} (a1 : Aft k sg H Z en sg H1 Z1 en1) (ho : H1 a = some u) (hz : Z1 a = none) (nm : ¬ Mine H1 sg en1 a) (nt : NT u) (nf : ∀ o x, u ≠ .frz o x) (hf : H a = none ∨ Mine H sg en a) :
    Aft k sg H Z en sg (upd H1 a (.frz od u)) (upd Z1 a (.frz od u)) en1 := by
  refine ⟨rel_lock a1.rel ho hz nm nt nf, fun b v h => upd_more' hz b v (a1.zz b v h), fun b v h => ?_, fun b v h m => (a1.kp b v h m).trans fun w e => .inl ?_, fun b ⟨j, s, h1, h2, h3⟩ => a1.own b ⟨j, s, h1, h2, pl_frz h3⟩, a1.io, fun T t => tabs_lock ho nt nf T (a1.tb T t)⟩
  · by_cases e : b = a
    · rw [e]; exact .inr hf
    · rw [upd_ne e] at h; exact a1.new b v h
  · by_cases hb : b = a
    · subst hb
      rcases hf with z | z
      · rw [h] at z; cases z
      · exact (m z).elim
    · rw [upd_ne hb]; exact e
/-- one's own thing at a is from now on there for all, locked -/
theorem aft_frzD {i : Nat} {a : Addr} {u : HO} {d : PyData} {od : Obj} (r : Rel k sg H Z en) (he : en[i]? = some (.ow d)) (hs : sg[i]? = some (some (V.ref a))) (ho : H a = some u) (nt : NT u) (nf : ∀ o x, u ≠ .frz o x) (hd : Dp k.K (upd Z a (.frz od u)) (.ref a) d) :
    Aft k sg H Z en sg (upd H a (.frz od u)) (upd Z a (.frz od u)) (en.set i (.sh d)) := by
  have hm : Mine H sg en a := ⟨i, _, he, rfl, .inl hs⟩
  have za : Z a = none := (r.mine hm).1
  have hi : i < en.length := (List.getElem?_eq_some_iff.mp he).1
  have uz := upd_more' (o := .frz od u) za
  have at_ : ∀ (j : Nat) (s : Sl), (en.set i (.sh d))[j]? = some s → (j = i ∧ s = .sh d) ∨ (j ≠ i ∧ en[j]? = some s) := fun j s h => by
    by_cases e : j = i
    · rw [e, List.getElem?_set_self hi] at h; cases h; exact .inl ⟨e, rfl⟩
    · rw [List.getElem?_set_ne (Ne.symm e)] at h; exact .inr ⟨e, h⟩
  have mn : ∀ b, Mine H sg (en.set i (.sh d)) b → Mine H sg en b ∧ b ≠ a := fun b ⟨j, s, h1, h2, h3⟩ => by
    rcases at_ j s h1 with ⟨_, e⟩ | ⟨hj, e⟩
    · rw [e] at h2; cases h2
    · exact ⟨⟨j, s, e, h2, h3⟩, fun z => hj (r.dis j i s _ a e he h2 rfl (by rw [← z]; exact h3) (.inl hs))⟩
  refine ⟨⟨fun b u h => ?_, fun j s h => ?_, fun j l s t b h1 h2 h3 h4 h5 h6 => ?_, tabs_lock ho nt nf _ r.tab⟩, uz, fun b u h => ?_, fun b u h nm => .inl ?_, fun b ⟨j, s, h1, h2, h3⟩ => .inl (mn b ⟨j, s, h1, h2, pl_frz h3⟩).1, fun j d' h => ?_, fun T t => tabs_lock ho nt nf T t⟩
  · by_cases e : b = a
    · rw [e, upd_same] at h; rw [e, upd_same]; exact h
    · rw [upd_ne e] at h; rw [upd_ne e]; exact r.sub b u h
  · rcases at_ j s h with ⟨e1, e2⟩ | ⟨hj, e⟩
    · rw [e1, e2]; exact ⟨_, hs, _, rfl, hd⟩
    · obtain ⟨v, hv, q⟩ := r.sl j s e
      refine ⟨v, hv, ?_⟩
      have nb' : ∀ b, isOwn s = true → Pl H sg j s b → b ≠ a := fun b ho' hp z => hj (r.dis j i s _ a e he ho' rfl (by rw [← z]; exact hp) (.inl hs))
      have nb : ∀ b, isOwn s = true → v = some (.ref b) → b ≠ a := fun b ho' hv' => nb' b ho' (.inl (by rw [hv, hv']))
      cases s with
      | no => trivial
      | sh d' => obtain ⟨x, e, q⟩ := q; exact ⟨x, e, dp_mono uz q⟩
      | ow d' => obtain ⟨b, e, h1, h2⟩ := q; exact ⟨b, e, by rw [upd_ne (nb b rfl e)]; exact h1, h2.mono (fun o' z => by rw [upd_ne (nb b rfl e)]; exact z) uz⟩
      | io d' => obtain ⟨b, e, h1, h2⟩ := q; exact ⟨b, e, by rw [upd_ne (nb b rfl e)]; exact h1, h2.mono (fun o' z => by rw [upd_ne (nb b rfl e)]; exact z) uz⟩
      | fz d' => exact slfz_pl hv q (fun b hb o z => by rw [upd_ne (nb' b rfl hb)]; exact z) (fun b hb z => by rw [upd_ne (nb' b rfl hb)]; exact z) uz
  · rcases at_ j s h1 with ⟨_, e⟩ | ⟨_, e⟩
    · rw [e] at h3; cases h3
    · rcases at_ l t h2 with ⟨_, e'⟩ | ⟨_, e'⟩
      · rw [e'] at h4; cases h4
      · exact r.dis j l s t b e e' h3 h4 (pl_frz h5) (pl_frz h6)
  · by_cases e : b = a
    · rw [e]; exact .inr (.inr hm)
    · rw [upd_ne e] at h; exact .inl h
  · rw [upd_ne (fun e => nm (by rw [e]; exact hm))]; exact h
  · have hj : j ≠ i := fun e => by rw [e, he] at h; cases h
    exact ⟨⟨d', by rw [List.getElem?_set_ne (Ne.symm hj)]; exact h⟩, rfl⟩
/-- an own dict, locked, is a tree for all -/
theorem own_lock {K : Fg} {a : Addr} {ds : List (PyData × PyData)} (ho : Own K H Z a (.dict ds)) (za : Z a = none) : ∃ u, H a = some u ∧ Mut (some u) ∧ NT u ∧ (∀ o x, u ≠ .frz o x) ∧ ∀ od, Dp K (upd Z a (.frz od u)) (.ref a) (.dict ds) := by
  cases ho with
  | dct h1 h2 h3 => exact ⟨_, h1, trivial, (fun _ e => by cases e), (fun _ _ e => by cases e), fun od => .dct upd_same h2 (dpAll_mono (upd_more' za) h3)⟩
  | dcn h0 h1 h2 h3 h4 => exact ⟨_, h1, trivial, (fun _ e => by cases e), (fun _ _ e => by cases e), fun od => .dcn h0 upd_same (dpAll_mono (upd_more' za) h2) h3 (dpAll_mono (upd_more' za) h4)⟩
/-- a fresh thing is handed to all -/
theorem aft_vl2 {H1 Z1 : Hp} {en1 : En} {a : Addr} {o : HO} (a1 : Aft k sg H Z en sg H1 Z1 en1) (ho : H1 a = some o) (hz : Z1 a = none) (nm : ¬ Mine H1 sg en1 a) (ht : NT o) (hf : H a = none ∨ Mine H sg en a) :
    Aft k sg H Z en sg H1 (upd Z1 a o) en1 := by
  obtain ⟨r2, uz⟩ := aft_vl a1.rel ho hz nm ht
  refine ⟨r2, fun b u h => uz b u (a1.zz b u h), fun b u h => ?_, a1.kp, a1.own, a1.io, fun T t => (a1.tb T t).mono (fun _ _ h _ => h) fun b ps h hz => by rw [upd_ne (fun e => by rw [e, ho] at h; exact ht ps (Option.some.inj h))]; exact hz⟩
  by_cases e : b = a
  · rw [e]; exact .inr hf
  · rw [upd_ne e] at h; exact a1.new b u h
theorem not_tab (r : Rel k sg H Z en) {a : Addr} {o : HO} (h : H a = some o) (n : ∀ ps, o ≠ .tbl ps) : NT o := n
theorem fz_v {m : M Vl} {sg : L2.St} {H : Hp} {Q : VK} (h : tD ⟨X.G, T⟩ E (fz m) sg H Q) : tV ⟨X.G, T⟩ E m sg H (LkQ Q) := by
  obtain ⟨en, Z, r, q⟩ := h
  refine ⟨en, Z, r, ?_⟩
  unfold fz bnd at q
  cases hm : m en with
  | ok x en1 =>
    rw [hm] at q
    intro H1 Z1 a1 v hv
    cases x with
    | sh d => exact .inl (q H1 Z1 a1 v hv)
    | ow d =>
      cases d with
      | list ds =>
        obtain ⟨p, rfl, hz, ho, nmn, hf⟩ := hv
        cases ho with
        | lst h1 h2 =>
          have nt := not_tab a1.rel h1 fun _ z => by cases z
          have a2 := aft_vl2 a1 h1 hz nmn nt hf
          exact .inl <| q H1 _ a2 (.ref p) (.lst (.inl (.inl upd_same)) (dpAll_mono (aft_vl a1.rel h1 hz nmn nt).2 h2))
      | dict ds =>
        obtain ⟨p, rfl, hz, ho, nmn, hf⟩ := hv
        obtain ⟨u, h1, h2, h3, h4, h5⟩ := own_lock ho hz
        exact .inr ⟨p, u, rfl, h1, h2, fun od => q _ _ (aft_lock a1 h1 hz nmn h3 h4 hf) (.ref p) (h5 od)⟩
      | _ => exact q.elim
  | err c en1 => rw [hm] at q; exact q
  | bad => rw [hm] at q; exact q
theorem gd_fz {m : M Vl} (h : GE T E X e m) : GD T E X e (fz m) := pe_imp (pe_lk h) fun sg H Q q => fz_v q
theorem tV_mono {k : Kx} {E : Wish} {m : M Vl} {sg : L2.St} {H : Hp} {Q Q' : VK} (h : tV k E m sg H Q) (i : ∀ v H', Q v H' → Q' v H') : tV k E m sg H Q' := by
  obtain ⟨en, Z, r, q⟩ := h
  exact ⟨en, Z, r, post_mono q fun x en' H' Z' _ z v hv => i v H' (z v hv)⟩
theorem fz_vb {m : M Vl} {sg : L2.St} {H : Hp} {Q : Bool → Hp → Prop} (h : tD ⟨X.G, T⟩ E (fz m) sg H fun x H1 => ∃ c, x = .bl c ∧ Q c H1) : tV ⟨X.G, T⟩ E m sg H fun x H1 => ∃ c, x = .bl c ∧ Q c H1 := tV_mono (fz_v h) fun v H' z => by
  rcases z with z | ⟨a, u, rfl, _, _, z⟩
  · exact z
  · obtain ⟨c, e, _⟩ := z ⟨.none, none, .dict #[] 0, #[]⟩
    cases e
theorem go_d {m : M PyData} (h : GD T E X e m) : GO T E X e (odD m) := pe_imp h fun sg H Q ⟨en, Z, r, q⟩ => ⟨en, Z, r, post_mono (post_bnd r q) fun d en1 H1 Z1 _ ⟨a1, q1⟩ v hv => post_ret a1.rel q1 v hv⟩

theorem upd_more {Z : Hp} {a : Addr} {o : HO} (hz : Z a = none) : ∀ b u, Z b = some u → upd Z a o b = some u := fun b u z => by
  rw [upd_ne (fun e => by rw [e, hz] at z; cases z)]; exact z
theorem gd_c {d : PyData} {v : V} (h : PE X e (tC v)) (hv : Dp X.G (fun _ => none) v d) : GD T E X e (cst d) := pe_imp h fun sg H Q ⟨en, Z, r, q⟩ => post_ret r q v (dp_mono (fun a o h => by cases h) hv)
theorem gd_int {i : Int} {j : Nat} : GD T E X (.Constant (.int i) j pos) (cst (.int i)) := gd_c pe_int (.int i)
theorem gd_bool {i : Bool} {j : Nat} : GD T E X (.Constant (.bool i) j pos) (cst (.bool i)) := gd_c pe_bl (.bl i)
theorem gd_none {j : Nat} : GD T E X (.Constant .none j pos) (cst .none) := gd_c pe_non .non
theorem gd_str {i : Str} {j : Nat} : GD T E X (.Constant (.str i) j pos) (cst (.str i)) := gd_c pe_str (.str i)

/-- a name -/
theorem gd_v (i : Nat) (h : PE X e (tVar i)) : GD T E X e (nv i) := pe_imp (pe_lk h) fun sg H Q ⟨en, Z, r, q⟩ => by
  unfold nv at q
  cases he : en[i]? with
  | none => rw [he] at q; exact q.elim
  | some s =>
    rw [he] at q
    obtain ⟨v, hv, hs⟩ := r.sl i s he
    cases s with
    | no => exact q.elim
    | io d => exact q.elim
    | sh d =>
      obtain ⟨x, rfl, hd⟩ := hs
      exact ⟨x, hv, .inl (q H Z (Aft.refl r) x hd)⟩
    | ow d =>
      cases d with
      | list ds =>
        obtain ⟨a, rfl, hz, ho⟩ := hs
        cases ho with
        | lst h1 h2 =>
          have hd : Dp X.G (upd Z a (.lst _)) (.ref a) (.list ds) := .lst (.inl (.inl upd_same)) (dpAll_mono (upd_more hz) h2)
          exact ⟨.ref a, hv, .inl (q H _ (aft_frz r he hv h1 hd) (.ref a) hd)⟩
      | dict ds =>
        obtain ⟨a, rfl, hz, ho⟩ := hs
        obtain ⟨u, h1, h2, h3, h4, h5⟩ := own_lock ho hz
        exact ⟨.ref a, hv, .inr ⟨a, u, rfl, h1, h2, fun od => q _ _ (aft_frzD r he hv h1 h3 h4 (h5 od)) (.ref a) (h5 od)⟩⟩
      | _ => exact q.elim
    | fz fz_d => exact q.elim
/-- a name that is looked at -/
theorem go_s (i : Nat) (h : PE X e (tVar i)) : GO T E X e (nm i) := pe_imp h fun sg H Q ⟨en, Z, r, q⟩ => by
  unfold nm at q
  cases he : en[i]? with
  | none => rw [he] at q; exact q.elim
  | some s =>
    rw [he] at q
    obtain ⟨v, hv, hs⟩ := r.sl i s he
    cases s with
    | no => exact q.elim
    | sh d =>
      obtain ⟨x, rfl, hd⟩ := hs
      exact ⟨x, hv, q H Z (Aft.refl r) x hd⟩
    | ow d =>
      obtain ⟨a, rfl, hz, ho⟩ := hs
      exact ⟨.ref a, hv, q H Z (Aft.refl r) (.ref a) hv⟩
    | io d =>
      obtain ⟨a, rfl, hz, ho⟩ := hs
      exact ⟨.ref a, hv, q H Z (Aft.refl r) (.ref a) hv⟩
    | fz fz_d => exact q.elim

theorem top_of {x : Od} {v : V} {d : PyData} (r : Rel k sg H Z en) (h : OdOk k sg Z v x) (l : look en x = some d) : Top k.K H Z v d := by
  cases x with
  | d y =>
    have e : y = d := Option.some.inj l
    subst e
    exact .inl h
  | s i =>
    have h : sg[i]? = some (some v) := h
    simp only [look] at l
    cases he : en[i]? with
    | none => rw [he] at l; cases l
    | some s =>
      rw [he] at l
      obtain ⟨u, hu, hs⟩ := r.sl i s he
      rw [h] at hu
      cases hu
      cases s with
      | no => cases l
      | sh y =>
        cases l
        obtain ⟨a, e, hd⟩ := hs
        cases e
        exact .inl hd
      | ow y =>
        cases l
        obtain ⟨a, e, _, ho⟩ := hs
        cases e
        exact .inr ⟨a, rfl, ho⟩
      | io y =>
        cases l
        obtain ⟨a, e, _, ho⟩ := hs
        cases e
        exact .inr ⟨a, rfl, ho⟩
      | fz fz_d => cases l
theorem od_mono {H' Z' : Hp} {en' : En} {x : Od} {v : V} (a : Aft k sg H Z en sg H' Z' en') (h : OdOk k sg Z v x) : OdOk k sg Z' v x := by
  cases x with
  | d y => exact dp_mono a.zz h
  | s i => exact h
theorem Top.dp {K : Fg} {v : V} {d : PyData} (hz : ∀ a o, Z a = some o → H a = some o) (h : Top K H Z v d) (n : ∀ kv, d ≠ .dict kv) : Dp K H v d := by
  rcases h with h | ⟨a, rfl, h⟩
  · exact dp_mono hz h
  · cases h with
    | lst h1 h2 => exact .lst (.inl (.inl h1)) (dpAll_mono hz h2)
    | dct h1 h2 h3 => exact absurd rfl (n _)
    | dcn h0 h1 h2 h3 h4 => exact absurd rfl (n _)
theorem Top.list {K : Fg} {v : V} {ds : List PyData} (hz : ∀ a o, Z a = some o → H a = some o) (h : Top K H Z v (.list ds)) : ∃ a vs, v = .ref a ∧ SqL K H a vs ∧ DpAll K Z vs ds := by
  rcases h with h | ⟨a, rfl, h⟩
  · cases h with
    | lst h1 h2 => exact ⟨_, _, rfl, Same.seq hz h1, h2⟩
  · cases h with
    | lst h1 h2 => exact ⟨a, _, rfl, .inl (.inl h1), h2⟩
theorem Top.tup {K : Fg} {v : V} {ds : List PyData} (hz : ∀ a o, Z a = some o → H a = some o) (h : Top K H Z v (.tuple ds)) : ∃ a vs, v = .ref a ∧ SqT K H a vs ∧ DpAll K Z vs ds := by
  rcases h with h | ⟨a, rfl, h⟩
  · cases h with
    | tup h1 h2 =>
      exact ⟨_, _, rfl, (h1.mono hz).sqt, h2⟩
  · cases h
theorem Top.int {K : Fg} {v : V} {i : Int} (h : Top K H Z v (.int i)) : v = .int i := by
  rcases h with h | ⟨a, rfl, h⟩
  · cases h; rfl
  · cases h
theorem Top.str {K : Fg} {v : V} {i : Str} (h : Top K H Z v (.str i)) : v = .str i := by
  rcases h with h | ⟨a, rfl, h⟩
  · cases h; rfl
  · cases h
theorem Top.bool {K : Fg} {v : V} {i : Bool} (h : Top K H Z v (.bool i)) : v = .bl i := by
  rcases h with h | ⟨a, rfl, h⟩
  · cases h; rfl
  · cases h
theorem Top.none {K : Fg} {v : V} (h : Top K H Z v .none) : v = .non := by
  rcases h with h | ⟨a, rfl, h⟩
  · cases h; rfl
  · cases h

inductive Out where
  | d (x : PyData) | nl (ds : List PyData) | nt (ds : List PyData) | nd (kvs : List (PyData × PyData)) | bad
def out : Out → M Vl
  | .d x => ret (.sh x)
  | .nl ds => ret (.ow (.list ds))
  | .nt ds => ret (.sh (.tuple ds))
  | .nd kvs => ret (.ow (.dict kvs))
  | .bad => fail
def OutOk (K : Fg) (H Z : Hp) (Q : VK) : Out → Prop
  | .d x => ∀ v, Dp K Z v x → Q v H
  | .nl ds => ∀ p vs, H p = none → DpAll K Z vs ds → Q (.ref p) (upd H p (.lst vs))
  | .nt ds => (∀ v, Dp K Z v (.tuple ds) → Q v H) ∧ ∀ (p : Addr) (vs : List V) (ob : Obj), H p = none → ob.cls = .type "tuple" → ob.dict = none → DpAll K Z vs ds → Q (.ref p) (upd H p (.frz ob (.tup vs)))
  | .nd ds => ∀ p (kvs : List (Key × V)), H p = none → ds.map (·.1) = kvs.map (fun p => keyD p.1) → DpAll K Z (kvs.map (·.2)) (ds.map (·.2)) → Q (.ref p) (upd H p (.dK kvs))
  | .bad => False
theorem out_ok {sg0 : L2.St} {Q : VK} {o : Out} {en0 : En} {H0 Z0 : Hp} (r : Rel k sg H Z en) (a0 : Aft k sg H0 Z0 en0 sg H Z en)
    (h : Post k E sg H Z en (out o en) fun x en' H' Z' => ∀ v, VlOk k sg H0 en0 sg H' Z' en' v x → Q v H') : OutOk k.K H Z Q o := by
  have nmine : ∀ p, H p = none → ¬ Mine H sg en p := fun p hp m => by
    obtain ⟨u, hu, _⟩ := mine_there r m
    rw [hp] at hu; cases hu
  cases o with
  | d x => exact fun v hv => post_ret (a := Vl.sh x) r h v hv
  | nl ds => exact fun p vs hp hd => h _ _ (aft_new r hp) (.ref p) ⟨p, rfl, r.free hp, .lst upd_same hd, fun m => nmine p hp (mine_new r hp m), free_back a0 hp⟩
  | nt ds => exact ⟨fun v hv => post_ret (a := Vl.sh (.tuple ds)) r h v hv, fun p vs ob hp hc hdn hd => h _ _ (aft_all r hp) (.ref p) (.tup (.inl ⟨ob, upd_same, hc, hdn⟩) (dpAll_mono (aft_all r hp (o := .frz ob (.tup vs))).zz hd))⟩
  | nd ds => exact fun p kvs hp hk hd => h _ _ (aft_new r hp) (.ref p) ⟨p, rfl, r.free hp, .dct upd_same hk hd, fun m => nmine p hp (mine_new r hp m), free_back a0 hp⟩
  | bad => exact h
/-- an operation of one, of two things that are looked at -/
def op1 (f : PyData → Out) (p : M Od) : M Vl := bnd p fun x => fun en => match look en x with
  | some d => out (f d) en
  | none => .bad
def op2 (f : PyData → PyData → Out) (p q : M Od) : M Vl := bnd p fun x => bnd q fun y => fun en => match look en x, look en y with
  | some d, some e => out (f d e) en
  | _, _ => .bad
/-- the rule says what f says -/
def Says1 (K : Fg) (f : PyData → Out) (r : V → Hp → VK → Prop) : Prop :=
  ∀ (H Z : Hp) (v : V) (d : PyData) (Q : VK), (∀ a o, Z a = some o → H a = some o) → Top K H Z v d → OutOk K H Z Q (f d) → r v H Q
def Says2 (K : Fg) (f : PyData → PyData → Out) (r : R2) : Prop :=
  ∀ (H Z : Hp) (v w : V) (d e : PyData) (Q : VK), (∀ a o, Z a = some o → H a = some o) → Top K H Z v d → Top K H Z w e → OutOk K H Z Q (f d e) → r v w H Q
theorem ge_op1 {f : PyData → Out} {r : V → Hp → VK → Prop} {p : M Od} (ha : GO T E X a p) (hB : ∀ ta, PE X a ta → PE X e fun sg H Q => ta sg H fun x H1 => r x H1 Q) (hf : Says1 X.G f r) : GE T E X e (op1 f p) :=
  pe_imp (hB _ ha) fun sg H Q ⟨en, Z, r0, q⟩ => ⟨en, Z, r0, post_mono (post_bnd r0 q) fun x en1 H1 Z1 _ ⟨a1, q1⟩ v hv => by
    cases hl : look en1 x with
    | none => simp only [hl] at q1; exact q1.elim
    | some d =>
      simp only [hl] at q1
      exact hf H1 Z1 v d Q a1.rel.sub (top_of a1.rel hv hl) (out_ok (sg0 := sg) a1.rel a1 q1)⟩
theorem ge_op2 {f : PyData → PyData → Out} {r : R2} {p q : M Od} (ha : GO T E X a p) (hb : GO T E X b q) (hB : ∀ ta tb, PE X a ta → PE X b tb → PE X e (tOp r ta tb)) (hf : Says2 X.G f r) : GE T E X e (op2 f p q) :=
  pe_imp (hB _ _ ha hb) fun sg H Q ⟨en, Z, r0, q⟩ => ⟨en, Z, r0, post_mono (post_bnd r0 q) fun x en1 H1 Z1 _ ⟨a1, q1⟩ v hv => ⟨en1, Z1, a1.rel, post_mono (post_bnd a1.rel q1) fun y en2 H2 Z2 _ ⟨a2, q2⟩ w hw => by
    cases hl : look en2 x with
    | none => simp only [hl] at q2; exact q2.elim
    | some d =>
      cases hl2 : look en2 y with
      | none => simp only [hl, hl2] at q2; exact q2.elim
      | some d2 =>
        simp only [hl, hl2] at q2
        exact hf H2 Z2 v w d d2 Q a2.rel.sub (top_of a2.rel (od_mono a2 hv) hl) (top_of a2.rel hw hl2) (out_ok (sg0 := sg) a2.rel (a1.trans a2 r0) q2)⟩⟩
def tst (m : M PyData) : M Bool := bnd m fun d => match d with
  | .bool b => ret b
  | _ => fail
theorem tst_ok {m : M PyData} {sg : L2.St} {H : Hp} {Q : Bool → Hp → Prop} (h : tT ⟨X.G, T⟩ E (tst m) sg H Q) : tD ⟨X.G, T⟩ E m sg H fun x H1 => ∃ c, x = .bl c ∧ Q c H1 := by
  obtain ⟨en, Z, r, q⟩ := h
  refine ⟨en, Z, r, post_mono (post_bnd r q) fun d en1 H1 Z1 _ ⟨a1, q1⟩ v hv => ?_⟩
  cases d with
  | bool b =>
    cases hv
    exact ⟨b, rfl, post_ret a1.rel q1⟩
  | _ => exact q1.elim
/-- an expression that gives a truth value, as a test -/
theorem gt_val {m : M PyData} (h : GD T E X e m) (he : ∀ whole, isTrue e X.env whole = (do let v ← whole; standAt e.pos; holding [v] (truthy v)) := by intro _; rfl) : GT T E X e (tst m) :=
  pt_imp (pt_val h he) fun sg H Q q => tst_ok q
def mnot (m : M Bool) : M Bool := bnd m fun b => ret (!b)
theorem gt_not {m : M Bool} (h : GT T E X a m) : GT T E X (.UnaryOp .Not a pos) (mnot m) := pt_imp (pt_not h) fun sg H Q ⟨en, Z, r, q⟩ => ⟨en, Z, r, post_mono (post_bnd r q) fun b en1 H1 Z1 _ ⟨a1, q1⟩ => post_ret a1.rel q1⟩
def mand (m n : M Bool) : M Bool := bnd m fun b => if b = true then n else ret false
def mor (m n : M Bool) : M Bool := bnd m fun b => if b = true then ret true else n
theorem gw_and1 {m : M Bool} (h : GT T E X a m) : GW T E X (.BoolOp .And [a] pos) m := pw_and1 h
theorem gw_or1 {m : M Bool} (h : GT T E X a m) : GW T E X (.BoolOp .Or [a] pos) m := pw_or1 h
theorem gw_and {m n : M Bool} {rest : List Expr} (h : GT T E X a m) (h2 : GW T E X (.BoolOp .And (b :: rest) pos) n) : GW T E X (.BoolOp .And (a :: b :: rest) pos) (mand m n) :=
  pw_imp (pw_and h h2) fun sg H Q ⟨en, Z, r, q⟩ => ⟨en, Z, r, post_mono (post_bnd r q) fun b en1 H1 Z1 _ ⟨a1, q1⟩ => by
    cases b with
    | true => exact ⟨en1, Z1, a1.rel, q1⟩
    | false => exact post_ret (a := false) a1.rel q1⟩
theorem gw_or {m n : M Bool} {rest : List Expr} (h : GT T E X a m) (h2 : GW T E X (.BoolOp .Or (b :: rest) pos) n) : GW T E X (.BoolOp .Or (a :: b :: rest) pos) (mor m n) :=
  pw_imp (pw_or h h2) fun sg H Q ⟨en, Z, r, q⟩ => ⟨en, Z, r, post_mono (post_bnd r q) fun b en1 H1 Z1 _ ⟨a1, q1⟩ => by
    cases b with
    | false => exact ⟨en1, Z1, a1.rel, q1⟩
    | true => exact post_ret (a := true) a1.rel q1⟩
theorem gt_w {m : M Bool} (h : GW T E X e m) : GT T E X e m := h.pt
/-- and, or, not as values (all but the last one truth values) -/
def vand (m n : M PyData) : M PyData := bnd m fun d => match d with
  | .bool b => if b = true then n else ret (.bool false)
  | _ => fail
def vor (m n : M PyData) : M PyData := bnd m fun d => match d with
  | .bool b => if b = true then ret (.bool true) else n
  | _ => fail
def vnot (m : M PyData) : M PyData := bnd m fun d => match d with
  | .bool b => ret (.bool (!b))
  | _ => fail
theorem gd_one {op : BoolOp} {m : M PyData} (h : GD T E X a m) : GD T E X (.BoolOp op [a] pos) m := pe_one h
theorem gd_and {m n : M PyData} {rest : List Expr} (h : GD T E X a m) (h2 : GD T E X (.BoolOp .And (b :: rest) pos) n) : GD T E X (.BoolOp .And (a :: b :: rest) pos) (vand m n) :=
  pe_imp (pe_and h h2) fun sg H Q ⟨en, Z, r, q⟩ => ⟨en, Z, r, post_mono (post_bnd r q) fun d en1 H1 Z1 _ ⟨a1, q1⟩ v hv => by
    cases d with
    | bool b =>
      cases hv
      refine ⟨b, rfl, ?_⟩
      cases b with
      | true => exact ⟨en1, Z1, a1.rel, q1⟩
      | false => exact post_ret (a := PyData.bool false) a1.rel q1 _ (.bl false)
    | _ => exact q1.elim⟩
theorem gd_not {m : M PyData} (h : GD T E X a m) : GD T E X (.UnaryOp .Not a pos) (vnot m) := pe_imp (pe_not h) fun sg H Q ⟨en, Z, r, q⟩ => ⟨en, Z, r, post_mono (post_bnd r q) fun d en1 H1 Z1 _ ⟨a1, q1⟩ v hv => by
    cases d with
    | bool b =>
      cases hv
      exact ⟨b, rfl, post_ret a1.rel q1 _ (.bl _)⟩
    | _ => exact q1.elim⟩
/-- a if t else b -/
def mif {α : Type} (t : M Bool) (m n : M α) : M α := bnd t fun b => if b = true then m else n
theorem ge_if {t : M Bool} {m n : M Vl} (hc : GT T E X c t) (ha : GE T E X a m) (hb : GE T E X b n) : GE T E X (.IfExp c a b pos) (mif t m n) :=
  pe_imp (pe_ifExp hc ha hb) fun sg H Q ⟨en, Z, r, q⟩ => ⟨en, Z, r, post_mono (post_bnd r q) fun d en1 H1 Z1 _ ⟨a1, q1⟩ => by
    have q2 : ∀ x en' H' Z', (∀ v, VlOk ⟨X.G, T⟩ sg H en sg H' Z' en' v x → Q v H') → ∀ v, VlOk ⟨X.G, T⟩ sg H1 en1 sg H' Z' en' v x → Q v H' := fun x en' H' Z' h v hv => h v (vl_back a1 hv)
    cases d with
    | true => exact ⟨en1, Z1, a1.rel, post_mono q1 fun x en' H' Z' _ h => q2 x en' H' Z' h⟩
    | false => exact ⟨en1, Z1, a1.rel, post_mono q1 fun x en' H' Z' _ h => q2 x en' H' Z' h⟩⟩
theorem gd_if {t : M Bool} {m n : M PyData} (hc : GT T E X c t) (ha : GD T E X a m) (hb : GD T E X b n) : GD T E X (.IfExp c a b pos) (mif t m n) :=
  pe_imp (pe_ifExp hc ha hb) fun sg H Q ⟨en, Z, r, q⟩ => ⟨en, Z, r, post_mono (post_bnd r q) fun d en1 H1 Z1 _ ⟨a1, q1⟩ => by
    cases d with
    | true => exact ⟨en1, Z1, a1.rel, q1⟩
    | false => exact ⟨en1, Z1, a1.rel, q1⟩⟩

def manil : M (List PyData) := ret []
def macons (m : M PyData) (ms : M (List PyData)) : M (List PyData) := bnd m fun d => bnd ms fun ds => ret (d :: ds)
theorem ga_nil : GA T E X [] manil := pa_imp pa_nil fun sg H Q ⟨en, Z, r, q⟩ => post_ret r q [] .nil
theorem ga_cons {m : M PyData} {ms : M (List PyData)} {es : List Expr} (h : GD T E X a m) (hs : GA T E X es ms) (hq : starEach (a :: es) X.env = (false, eval a X.env) :: starEach es X.env := by rfl) : GA T E X (a :: es) (macons m ms) :=
  pa_imp (pa_cons h hs hq) fun sg H Q ⟨en, Z, r, q⟩ => ⟨en, Z, r, post_mono (post_bnd r q) fun d en1 H1 Z1 _ ⟨a1, q1⟩ v hv => ⟨en1, Z1, a1.rel, post_mono (post_bnd a1.rel q1) fun ds en2 H2 Z2 _ ⟨a2, q2⟩ vs hvs =>
    post_ret a2.rel q2 (v :: vs) (.cons (dp_mono a2.zz hv) hvs)⟩⟩
def mlst (ms : M (List PyData)) : M Vl := bnd ms fun ds => if ds.length ≤ 1000 then ret (.ow (.list ds)) else fail
/-- what lies in the heap -/
theorem TupX.at {X : Cx} {pins : List (Addr × Obj)} {σ : L2.St} {H : Hp} {s : Shared} {a : Addr} {xs : List V} (I : Inv X pins σ H s) (h : TupX X.K H a xs) : ∃ (o : Obj) (its : Array Value) (n : Nat), s.heap.get? a = some o ∧ o.cls = .type "tuple" ∧ o.dict = none ∧ o.data = .seq its n ∧ Vals xs its.toList := by
  rcases h with ⟨o, h, h1, h2⟩ | ⟨o, its, n, h1, h2, h3, h4, _, h5⟩
  · obtain ⟨e, _, its, rv, o2, e2, _, n, hd⟩ := I.hok a _ h
    rw [e] at e2
    cases e2
    exact ⟨o, its.toArray, n, e, h1, h2, hd, by simpa using rv⟩
  · exact ⟨o, its, n, I.kIn _ _ h1, h2, h3, h4, h5⟩
/-- a new tuple is known -/
def NTp (H : Hp) (Q : VK) (xs : List V) : Prop := ∀ (p : Addr) (o : Obj), H p = none → o.cls = .type "tuple" → o.dict = none → Q (.ref p) (upd H p (.frz o (.tup xs)))
theorem laidT {X : Cx} {pins : List (Addr × Obj)} {σ : L2.St} {H : Hp} {s : Shared} {Q : VK} {us : List Value} {xs : List V} {t' : Nat} (I : Inv X pins σ H s) (r : Vals xs us) (z : xs.length ≤ sizeLine) (q : NTp H Q xs) :
    EP X pins σ Q (.ref s.heap.objs.size) { s with heap := s.heap.push { cls := .type "tuple", data := .seq us.toArray }, toks := t' } :=
  ⟨.ref s.heap.objs.size, _, I.laid (o := .frz { cls := .type "tuple", data := .seq us.toArray } (.tup xs)) (t' := t') (fun b u e => Heap.get?_push_of_some _ e) (Nat.le_refl _)
    ⟨Heap.get?_push_size _ rfl, z, us, r, ⟨_, Heap.get?_push_size _ rfl, rfl, _, rfl⟩⟩, rfl, q _ _ (I.hok.fresh (Nat.le_refl _)) rfl rfl⟩
theorem okT {P : Program} {w : World} {H : Hp} {h : Heap} {a : Addr} {us : List Value} {xs : List V} {o : Obj} {n : Nat} (g : h.get? a = some o) (c : o.cls = .type "tuple") (d : o.data = .seq us.toArray n) (r : Vals xs us) (z : xs.length ≤ sizeLine) : ObjOk P w H h a (.frz o (.tup xs)) :=
  ⟨g, z, us, r, ⟨o, g, c, n, d⟩⟩
def tTupF (t : TA) : TE := fun σ H Q => t σ H fun xs H1 => xs.length ≤ sizeLine ∧ ∀ (p : Addr) (o : Obj), H1 p = none → o.cls = .type "tuple" → o.dict = none → Q (.ref p) (upd H1 p (.frz o (.tup xs)))
theorem pe_tupF {X : Cx} {es : List Expr} {pos : Pos} {t : TA} {x1} (h : PA X es t) : PE X (.Tuple es x1 pos) (tTupF t) := by
  refine ⟨fun pins s σ H Q I hq => ?_⟩
  refine wpAny_Tuple_spliced (thn (h.run pos pins s σ H _ I hq) fun us s1 ⟨xs, H1, I1, r, z, q⟩ => ⟨by rw [← r.length]; exact z, ?_⟩)
  have hf : H1 s1.heap.objs.size = none := I1.hok.fresh (Nat.le_refl _)
  refine ⟨.ref s1.heap.objs.size, _, I1.laid (o := .frz { cls := .type "tuple", data := .seq us.toArray } (.tup xs)) (t' := s1.toks) (fun b u e => Heap.get?_push_of_some _ e) (Nat.le_refl _) ?_, rfl, q _ _ hf rfl rfl⟩
  exact ⟨Heap.get?_push_size _ rfl, z, us, r, ⟨_, Heap.get?_push_size _ rfl, rfl, _, rfl⟩⟩
def mtup (ms : M (List PyData)) : M PyData := bnd ms fun ds => if ds.length ≤ 1000 then ret (.tuple ds) else fail
theorem ge_lst {ms : M (List PyData)} {es : List Expr} (h : GA T E X es ms) : GE T E X (.List es pos) (mlst ms) :=
  pe_imp (pe_lst h) fun sg H Q ⟨en, Z, r, q⟩ => ⟨en, Z, r, post_mono (post_bnd r q) fun ds en1 H1 Z1 _ ⟨a1, q1⟩ vs hvs => by
    by_cases hl : ds.length ≤ 1000
    · simp only [hl, if_true] at q1
      refine ⟨by rw [dpa_length hvs, sizeLine_eq]; omega, fun p hp => ?_⟩
      exact out_ok (o := .nl ds) (sg0 := sg) a1.rel a1 q1 p vs hp hvs
    · simp only [hl, if_false] at q1; exact q1.elim⟩
theorem gd_tup {ms : M (List PyData)} {es : List Expr} {x1 : Nat} (h : GA T E X es ms) : GD T E X (.Tuple es x1 pos) (mtup ms) :=
  pe_imp (pe_tupF h) fun sg H Q ⟨en, Z, r, q⟩ => ⟨en, Z, r, post_mono (post_bnd r q) fun ds en1 H1 Z1 _ ⟨a1, q1⟩ vs hvs => by
    by_cases hl : ds.length ≤ 1000
    · simp only [hl, if_true] at q1
      refine ⟨by rw [dpa_length hvs, sizeLine_eq]; omega, fun p ob hp hc hd => ?_⟩
      have a2 := aft_all (o := .frz ob (.tup vs)) a1.rel hp
      exact q1 _ _ a2 (.ref p) (.tup (.inl ⟨ob, upd_same, hc, hd⟩) (dpAll_mono a2.zz hvs))
    · simp only [hl, if_false] at q1; exact q1.elim⟩
end
end ZD


namespace ZD
open PySem PySem.Spec PyProof.Rows L2 GxR ZG
section
variable {X : Cx}
def rTupF (K : PySem.W.Frag) : List V → Hp → VK → Prop := fun xs H Q => ∃ p ys, xs = [.ref p] ∧ ((SqL K H p ys ∧ NTp H Q ys) ∨ (SqT K H p ys ∧ Q (.ref p) H))
theorem call_tupF : CallR X (.type "tuple") (rTupF X.K) := by
  intro pins s sg H xs us Q I rl hh
  obtain ⟨a, ws, rfl, hh⟩ := hh
  obtain ⟨u, rfl, ru⟩ := vals1 rl
  cases ru
  rcases hh with ⟨ha, q⟩ | ⟨ha, q⟩
  · obtain ⟨its, rv, pl, hz⟩ := I.list ha
    have hlen := rv.length
    refine call_tuple_list pl.isList (fun h2 kp => ?_) (by rw [List.size_toArray]; omega)
    exact laidT (t' := s.toks) (s := { s with heap := h2 }) (I.kept (t' := s.toks) kp) rv hz q
  · obtain ⟨its, _, pl, _⟩ := I.tuple ha
    exact call_tuple_same (items := its.toArray) pl ⟨.ref a, H, I, rfl, q⟩
def rCatF (K : PySem.W.Frag) : R2 := fun x y H Q => ∃ a b xs ys, x = .ref a ∧ y = .ref b ∧ SqT K H a xs ∧ SqT K H b ys ∧ xs.length + ys.length ≤ sizeLine ∧
  (xs = [] → Q (.ref b) H) ∧ (xs ≠ [] → ys = [] → Q (.ref a) H) ∧ (xs ≠ [] → ys ≠ [] → NTp H Q (xs ++ ys))
theorem op_catF : OpR X (binaryOp .Add) (rCatF X.K) := by
  intro pins s sg H x y v u Q I rx ry hh
  obtain ⟨a, b, xs, ys, rfl, rfl, ha, hb, hz, q0, q1, q2⟩ := hh
  by_cases hx : xs = []
  · exact op_catA pins s sg H _ _ v u Q I rx ry ⟨a, b, xs, ys, rfl, rfl, ha, hb, hz, q0, q1, fun w => absurd hx w⟩
  by_cases hy : ys = []
  · exact op_catA pins s sg H _ _ v u Q I rx ry ⟨a, b, xs, ys, rfl, rfl, ha, hb, hz, q0, q1, fun _ w => absurd hy w⟩
  cases rx
  cases ry
  obtain ⟨its, r1, p1, _⟩ := I.tuple ha
  obtain ⟨its2, r2, p2, _⟩ := I.tuple hb
  have l1 := r1.length
  have l2 := r2.length
  refine HT.cat_tup p1 p2 (fun w => hx (r1.nil_iff.mp w)) (fun w => absurd (r2.nil_iff.mp w) hy) (fun _ => ?_) (by omega)
  exact laidT (t' := s.toks) I (r1.append r2) (by rw [List.length_append]; exact hz) (q2 hx hy)
def rSlF (K : PySem.W.Frag) : V → Option Int → Option Int → Hp → VK → Prop := fun x lo hi H Q => ∃ a xs, x = .ref a ∧ SqT K H a xs ∧
  (HT.sIx xs.length 0 lo = 0 ∧ HT.sIx xs.length xs.length hi = xs.length → Q (.ref a) H) ∧ (¬ (HT.sIx xs.length 0 lo = 0 ∧ HT.sIx xs.length xs.length hi = xs.length) → NTp H Q (cutV xs lo hi))
theorem sl_tupF : SlR X (rSlF X.K) := by
  intro pins s sg H x v vl vu lo hi sl Q I rx hs pl pu hh
  obtain ⟨a, xs, rfl, hx, q1, q2⟩ := hh
  by_cases hw : HT.sIx xs.length 0 lo = 0 ∧ HT.sIx xs.length xs.length hi = xs.length
  · exact sl_tupA pins s sg H _ v vl vu lo hi sl Q I rx hs pl pu ⟨a, xs, rfl, hx, q1, fun w => absurd hw w⟩
  cases rx
  obtain ⟨its, rv, ht, hz⟩ := I.tuple hx
  have hlen : its.toArray.size = xs.length := by rw [List.size_toArray]; exact rv.length.symm
  refine ⟨"tuple", _, PyProof.Rows.slot_tuple_getitem.lookup, ht.typeIs, ?_⟩
  refine HT.getItem_tuple_cut ht hs pl pu (fun w => hw (by rw [hlen] at w; exact w)) ?_ (by omega)
  rw [hlen]
  exact laidT (t' := s.toks) I ((rv.drop (HT.sIx xs.length 0 lo)).take (HT.sIx xs.length xs.length hi - HT.sIx xs.length 0 lo)) (Nat.le_trans (cutV_length xs lo hi) hz) (q2 hw)
def rRepF (K : PySem.W.Frag) : R2 := fun x y H Q => ∃ l k xs, x = .ref l ∧ y = .int k ∧ SqT K H l xs ∧ xs ≠ [] ∧ 2 ≤ k ∧ k ≤ 1000 ∧ xs.length ≤ 1000 ∧ NTp H Q (List.replicate k.toNat xs).flatten
theorem op_repF : OpR X (binaryOp .Mult) (rRepF X.K) := by
  intro pins s sg H x y v u Q I rx ry hh
  obtain ⟨a, m, xs, rfl, rfl, hT, hne, h1, h2, hz, q⟩ := hh
  cases rx
  obtain ⟨tk, rfl⟩ := ry
  obtain ⟨its, rv, ⟨⟨cls, dd, data, sl⟩, ho, hc, n, hd⟩, hs⟩ := I.tuple hT
  simp only at hc hd
  subst hc hd
  have hle : its.length = xs.length := rv.length.symm
  have hi : its.toArray.isEmpty = false := by
    cases its with
    | nil => exact absurd (List.eq_nil_of_length_eq_zero hle.symm) hne
    | cons a b => rfl
  have hsz0 : its.toArray.size = xs.length := by rw [List.size_toArray, hle]
  have a1 : ((xs.length : Nat) : Int) * m ≤ 1000 * m := Int.mul_le_mul_of_nonneg_right (by omega) (by omega)
  have hm : ((its.toArray.size : Nat) : Int) * m ≤ 1000000 := by rw [hsz0]; omega
  have a2 : m.toNat * xs.length ≤ 1000 * 1000 := Nat.mul_le_mul (by omega) hz
  have fl : (List.replicate m.toNat its).flatten.length ≤ sizeLine := by rw [PyProof.Rows.lm_len_rep_flat, hle, sizeLine_eq]; omega
  have fx : (List.replicate m.toNat xs).flatten.length ≤ sizeLine := by rw [PyProof.Rows.lm_len_rep_flat, sizeLine_eq]; omega
  have c0 : (decide (m < -(2 ^ 63)) || decide (m ≥ 2 ^ 63)) = false := by rw [decide_eq_false (by omega), decide_eq_false (by omega)]; rfl
  have c1 : (its.toArray.isEmpty || m == 1) = false := by rw [hi, Bool.false_or]; exact beq_eq_false_iff_ne.mpr (by omega)
  have c2 : (decide (m ≤ 0) || its.toArray.isEmpty) = false := by rw [hi, Bool.or_false]; exact decide_eq_false (by omega)
  have c4 : Builtin.Tuple.tupleTooMany (((its.toArray.size : Nat) : Int) * m) = false := by unfold Builtin.Tuple.tupleTooMany; rw [sizeLine_eq]; exact decide_eq_false (by omega)
  refine wpAny_binaryOp_repeat_ref (T := "tuple") (U := "int") (by decide) ⟨_, ho, rfl⟩ (fun s' => typeIs_int s' m tk) noFill_tuple_mul F.fills_int_mul F.slot_int_rmul repeat_tuple F.slot_int_index.lookup
    (call_meets F.slot_int_rmul (typeIs_int s m tk) F.entry_int_rmul (F.args_int_rmul_2 _ _) (int_rmul_tuple m tk a its.toArray n dd sl)
      ⟨ho, rfl, ⟨_, ho, rfl⟩, call_meets F.slot_tuple_mul ⟨_, ho, rfl⟩ F.entry_tuple_mul (F.args_tuple_mul_2 _ _) (tuple_mulW a its.toArray n dd sl m tk c0 c1 c2 (by omega) c4 (by rw [size_rep, List.size_toArray]; exact fl)) ⟨ho, ?_⟩⟩)
  rw [size_rep]
  exact laidT (t' := s.toks) I (rv.rep m.toNat) fx q
end
end ZD


namespace ZD
open PySem PySem.Spec PyProof.Rows L2 GxR ZG

theorem beqD {α : Type} [DecidableEq α] [BEq α] [LawfulBEq α] (a b : α) : (a == b) = decide (a = b) := by by_cases e : a = b <;> simp [e]
mutual
theorem eqv_key : ∀ (a b : PyData) {j k : NestedKey}, keyN a = some j → keyN b = some k → PyData.eqv a b = decide (j = k)
  | .none, b, j, k, ha, hb => by
    rw [keyN] at ha; cases ha
    cases b with
    | none => rw [keyN] at hb; cases hb; simp [PyData.eqv]
    | bool e => rw [keyN] at hb; cases hb; simp [PyData.eqv]
    | int i => rw [keyN] at hb; cases hb; simp [PyData.eqv]
    | str x => rw [keyN] at hb; cases hb; simp [PyData.eqv]
    | tuple ds =>
      rw [keyN, Option.map_eq_some_iff] at hb
      obtain ⟨_, _, rfl⟩ := hb
      simp [PyData.eqv]
    | _ => simp [keyN] at hb
  | .bool c, b, j, k, ha, hb => by
    rw [keyN] at ha; cases ha
    cases b with
    | none => rw [keyN] at hb; cases hb; simp [PyData.eqv]
    | bool e => rw [keyN] at hb; cases hb; cases c <;> cases e <;> simp [PyData.eqv]
    | int i => rw [keyN] at hb; cases hb; simp [PyData.eqv, beqD]
    | str x => rw [keyN] at hb; cases hb; simp [PyData.eqv]
    | tuple ds =>
      rw [keyN, Option.map_eq_some_iff] at hb
      obtain ⟨_, _, rfl⟩ := hb
      simp [PyData.eqv]
    | _ => simp [keyN] at hb
  | .int c, b, j, k, ha, hb => by
    rw [keyN] at ha; cases ha
    cases b with
    | none => rw [keyN] at hb; cases hb; simp [PyData.eqv]
    | bool e => rw [keyN] at hb; cases hb; simp [PyData.eqv, beqD]
    | int i => rw [keyN] at hb; cases hb; simp [PyData.eqv, beqD]
    | str x => rw [keyN] at hb; cases hb; simp [PyData.eqv]
    | tuple ds =>
      rw [keyN, Option.map_eq_some_iff] at hb
      obtain ⟨_, _, rfl⟩ := hb
      simp [PyData.eqv]
    | _ => simp [keyN] at hb
  | .str c, b, j, k, ha, hb => by
    rw [keyN] at ha; cases ha
    cases b with
    | none => rw [keyN] at hb; cases hb; simp [PyData.eqv]
    | bool e => rw [keyN] at hb; cases hb; simp [PyData.eqv]
    | int i => rw [keyN] at hb; cases hb; simp [PyData.eqv]
    | str x => rw [keyN] at hb; cases hb; simp [PyData.eqv, beqD]
    | tuple ds =>
      rw [keyN, Option.map_eq_some_iff] at hb
      obtain ⟨_, _, rfl⟩ := hb
      simp [PyData.eqv]
    | _ => simp [keyN] at hb
  | .tuple as, b, j, k, ha, hb => by
    rw [keyN, Option.map_eq_some_iff] at ha
    obtain ⟨js, ha, rfl⟩ := ha
    cases b with
    | tuple bs =>
      rw [keyN, Option.map_eq_some_iff] at hb
      obtain ⟨ks, hb, rfl⟩ := hb
      rw [PyData.eqv, eqv_keys as bs ha hb]
      simp
    | none => rw [keyN] at hb; cases hb; simp [PyData.eqv]
    | bool e => rw [keyN] at hb; cases hb; simp [PyData.eqv]
    | int i => rw [keyN] at hb; cases hb; simp [PyData.eqv]
    | str x => rw [keyN] at hb; cases hb; simp [PyData.eqv]
    | _ => simp [keyN] at hb
  | .list as, b, j, k, ha, hb => by simp [keyN] at ha
  | .dict as, b, j, k, ha, hb => by simp [keyN] at ha
theorem eqv_keys : ∀ (as bs : List PyData) {js ks : List NestedKey}, keyNs as = some js → keyNs bs = some ks → PyData.eqvAll as bs = decide (js = ks)
  | [], [], js, ks, ha, hb => by rw [keyNs] at ha; rw [keyNs] at hb; cases ha; cases hb; simp [PyData.eqvAll]
  | [], b :: bs, js, ks, ha, hb => by
    rw [keyNs] at ha; rw [keyNs] at hb; cases ha
    cases h1 : keyN b with
    | none => rw [h1] at hb; cases hb
    | some k1 =>
      cases h2 : keyNs bs with
      | none => rw [h1, h2] at hb; cases hb
      | some k2 => rw [h1, h2] at hb; cases hb; simp [PyData.eqvAll]
  | a :: as, [], js, ks, ha, hb => by
    rw [keyNs] at ha; rw [keyNs] at hb; cases hb
    cases h1 : keyN a with
    | none => rw [h1] at ha; cases ha
    | some k1 =>
      cases h2 : keyNs as with
      | none => rw [h1, h2] at ha; cases ha
      | some k2 => rw [h1, h2] at ha; cases ha; simp [PyData.eqvAll]
  | a :: as, b :: bs, js, ks, ha, hb => by
    rw [keyNs] at ha; rw [keyNs] at hb
    cases h1 : keyN a with
    | none => rw [h1] at ha; cases ha
    | some k1 =>
      cases h2 : keyNs as with
      | none => rw [h1, h2] at ha; cases ha
      | some k2 =>
        rw [h1, h2] at ha; cases ha
        cases h3 : keyN b with
        | none => rw [h3] at hb; cases hb
        | some k3 =>
          cases h4 : keyNs bs with
          | none => rw [h3, h4] at hb; cases hb
          | some k4 =>
            rw [h3, h4] at hb; cases hb
            rw [PyData.eqvAll, eqv_key a b h1 h3, eqv_keys as bs h2 h4]
            by_cases e1 : k1 = k3 <;> by_cases e2 : k2 = k4 <;> simp [e1, e2]
end
theorem keyT_N {d : PyData} {k : NestedKey} (h : keyT d = some k) : keyN d = some k ∧ k.depth ≤ 8 ∧ ∃ ds, d = .tuple ds := by
  cases d with
  | tuple ds =>
    rw [keyT] at h
    cases e : keyNs ds with
    | none => rw [e] at h; cases h
    | some ks =>
      rw [e] at h
      dsimp only at h
      by_cases c : (NestedKey.tup ks).depth ≤ 8
      · rw [if_pos c] at h
        cases h
        exact ⟨by rw [keyN, e]; rfl, c, ds, rfl⟩
      · rw [if_neg c] at h; cases h
  | _ => simp [keyT] at h
theorem eqv_T {a b : PyData} {j k : NestedKey} (ha : keyT a = some j) (hb : keyT b = some k) : PyData.eqv a b = decide (j = k) := eqv_key a b (keyT_N ha).1 (keyT_N hb).1

section
variable {X : Cx} {pins : List (Addr × Obj)} {σ : L2.St} {H : Hp} {s : Shared}
mutual
theorem nested_is (I : L2.Inv X pins σ H s) : ∀ (d : PyData) {v : V} {u : Value} {k : NestedKey}, Dp X.G H v d → RelV v u → keyN d = some k → NestedIs s.heap k u
  | .none, _, _, _, h, r, e => by rw [keyN] at e; cases e; cases h; cases r; exact .none
  | .bool b, _, _, _, h, r, e => by rw [keyN] at e; cases e; cases h; cases r; exact .bool rfl
  | .int i, _, _, _, h, r, e => by rw [keyN] at e; cases e; cases h; obtain ⟨t, rfl⟩ := r; exact .int i t
  | .str x, _, _, _, h, r, e => by rw [keyN] at e; cases e; cases h; obtain ⟨t, rfl⟩ := r; exact .text x t
  | .tuple ds, _, _, _, h, r, e => by
    rw [keyN, Option.map_eq_some_iff] at e
    obtain ⟨ks, e, rfl⟩ := e
    cases h with
    | tup h1 h2 =>
      cases r
      obtain ⟨its, rv, ⟨o, ho, hc, n, hd⟩, _⟩ := I.tuple h1.sqt
      exact .tup ho hc hd (nested_all I ds h2 (by simpa using rv) e)
  | .list ds, _, _, _, _, _, e => by simp [keyN] at e
  | .dict ds, _, _, _, _, _, e => by simp [keyN] at e
theorem nested_all (I : L2.Inv X pins σ H s) : ∀ (ds : List PyData) {vs : List V} {us : List Value} {ks : List NestedKey}, DpAll X.G H vs ds → Vals vs us → keyNs ds = some ks → NestedAll s.heap ks us
  | [], _, _, _, h, r, e => by rw [keyNs] at e; cases e; cases h; cases r; exact .nil
  | d :: ds, _, _, _, h, r, e => by
    rw [keyNs] at e
    cases h1 : keyN d with
    | none => rw [h1] at e; cases e
    | some k1 =>
      cases h2 : keyNs ds with
      | none => rw [h1, h2] at e; cases e
      | some k2 =>
        rw [h1, h2] at e; cases e
        cases h with
        | cons q1 q2 =>
          cases r with
          | cons r1 r2 => exact .cons (nested_is I d q1 r1 h1) (nested_all I ds q2 r2 h2)
end
/-- what stands at q is the key k -/
def KeyIs (K : Fg) (H : Hp) (q : Addr) (k : NestedKey) : Prop := ∃ d, Dp K H (.ref q) d ∧ keyT d = some k
theorem KeyIs.is (I : L2.Inv X pins σ H s) {q : Addr} {k : NestedKey} (h : KeyIs X.G H q k) : (nestedKind X.prog X.w).is s.heap k q := by
  obtain ⟨d, h1, h2⟩ := h
  obtain ⟨h3, h4, _⟩ := keyT_N h2
  exact ⟨nested_is I d h1 rfl h3, h4⟩

theorem KN.val {xs : List (NestedKey × Addr × V)} {ys : List (NestedKey × Addr × Value)} (r : KN xs ys) (k : NestedKey) : RelO ((xs.find? fun x => decide (x.1 = k)).map (·.2.2)) ((atKey ys k).map (·.2)) := by
  induction r with
  | nil => exact True.intro
  | @cons p q ps qs h t ih =>
    obtain ⟨h1, _, h2⟩ := h
    by_cases e : p.1 = k
    · have e' : q.1 = k := h1.symm.trans e
      have b : atKey (q :: qs) k = some q.2 := by simp [atKey, List.find?_cons, e']
      rw [List.find?_cons, decide_eq_true e, b]; exact h2
    · have e' : ¬ q.1 = k := fun z => e (h1.trans z)
      have b : atKey (q :: qs) k = atKey qs k := by simp [atKey, List.find?_cons, e']
      rw [List.find?_cons, decide_eq_false e, b]; exact ih
def valNk (xs : List (NestedKey × Addr × V)) (k : NestedKey) : Option V := (xs.find? fun x => decide (x.1 = k)).map (·.2.2)
def putNk (xs : List (NestedKey × Addr × V)) (k : NestedKey) (b : Addr) (v : V) : List (NestedKey × Addr × V) :=
  if (valNk xs k).isSome = true then xs.map fun x => if x.1 = k then (x.1, x.2.1, v) else x else xs ++ [(k, b, v)]
theorem KN.repl {xs : List (NestedKey × Addr × V)} {ys : List (NestedKey × Addr × Value)} (r : KN xs ys) (k : NestedKey) {y : V} {u : Value} (ry : RelV y u) :
    KN (xs.map fun x => if x.1 = k then (x.1, x.2.1, y) else x) (ys.map (putAt k u)) := by
  induction r with
  | nil => exact .nil
  | @cons p q ps qs h t ih =>
    rw [List.map_cons, List.map_cons]
    refine .cons ?_ ih
    obtain ⟨h1, h2, h3⟩ := h
    unfold putAt
    by_cases e : p.1 = k
    · rw [if_pos e, if_pos (h1.symm.trans e)]; exact ⟨h1, h2, ry⟩
    · rw [if_neg e, if_neg (fun z => e (h1.trans z))]; exact ⟨h1, h2, h3⟩
theorem KN.put {xs : List (NestedKey × Addr × V)} {ys : List (NestedKey × Addr × Value)} (r : KN xs ys) (k : NestedKey) {b : Addr} {y : V} {u : Value} (ry : RelV y u) : KN (putNk xs k b y) (storedH ys k b u) := by
  have e : (valNk xs k).isSome = (atKey ys k).isSome := by
    have := (r.val k).isSome_eq
    rw [Option.isSome_map (x := atKey ys k)] at this
    exact this
  unfold putNk storedH
  rw [e]
  by_cases q : (atKey ys k).isSome = true
  · rw [if_pos q, if_pos q]; exact r.repl k ry
  · rw [if_neg q, if_neg q]; exact Paired.snoc r ⟨rfl, rfl, ry⟩
theorem KN.keys {xs : List (NestedKey × Addr × V)} {ys : List (NestedKey × Addr × Value)} (r : KN xs ys) : ∀ y ∈ ys, ∃ x ∈ xs, x.1 = y.1 ∧ x.2.1 = y.2.1 := by
  induction r with
  | nil => intro y hy; exact nomatch hy
  | @cons p q ps qs h t ih =>
    intro y hy
    rcases List.mem_cons.mp hy with e | hy
    · subst e; exact ⟨p, List.mem_cons_self, h.1, h.2.1⟩
    · obtain ⟨x, hx, z⟩ := ih y hy
      exact ⟨x, List.mem_cons_of_mem _ hx, z⟩
/-- the dict at a, keys tuples (read) -/
def RdN (K : Fg) (H : Hp) (a : Addr) (xs : List (NestedKey × Addr × V)) : Prop := (Rd H a (DNo K a xs) ∨ Rd H a (.dK []) ∧ xs = []) ∧ ∀ x ∈ xs, KeyIs K H x.2.1 x.1
theorem dn_rd (I : L2.Inv X pins σ H s) {a : Addr} {xs : List (NestedKey × Addr × V)} (e : RdN X.G H a xs) : xs.length ≤ sizeLine ∧ (a == sysModules) = false ∧ ∃ ys, KN xs ys ∧ s.heap.DictOfH (nestedKind X.prog X.w) a ys := by
  obtain ⟨e, hk⟩ := e
  rcases e with e | ⟨e, rfl⟩
  · obtain ⟨⟨h1, h2, ys, r, o, es, ep, g1, g2, g3, g4, g5⟩, _, _⟩ := (show ObjOk X.prog X.w H s.heap a (DNo X.G a xs) from rd_of I.hok e)
    refine ⟨h1, h2, ys, r, o, es, ep, g1, g2, g3, g4, fun y hy => ?_, g5⟩
    obtain ⟨x, hx, z1, z2⟩ := r.keys y hy
    rw [← z1, ← z2]
    exact (hk x hx).is I
  · obtain ⟨z, hd, vs, rel, dd⟩ := dk_rd I.hok e
    cases rel
    obtain ⟨o, es, ep, g1, g2, g3, g4, g5, g6⟩ := dd
    have e0 : es.toList = [] := by
      cases h : es.toList with
      | nil => rfl
      | cons a b => rw [h] at g5; first | cases g5 | simp [Pairs] at g5
    exact ⟨Nat.zero_le _, hd, [], .nil, o, es, ep, g1, g2, g3, by rw [e0]; rfl, (fun y hy => nomatch hy), .nil⟩
end
/-- what the dict at a holds at y, whatever its keys are -/
def DGx (K : Fg) (H : Hp) (a : Addr) (y : V) (r : Option V) : Prop := DGet H a y r ∨ ∃ xs q k, RdN K H a xs ∧ y = .ref q ∧ KeyIs K H q k ∧ r = valNk xs k
def DPx (K : Fg) (H : Hp) (a : Addr) (y v : V) (H' : Hp) : Prop := DPut H a y v H' ∨ ∃ xs q k, (H a = some (DNo K a xs) ∨ H a = some (.dK []) ∧ xs = []) ∧ (∀ x ∈ xs, KeyIs K H x.2.1 x.1) ∧ y = .ref q ∧ KeyIs K H q k ∧ xs.length < sizeLine ∧ H' = upd H a (DNo K a (putNk xs k q v))
section
variable {X : Cx} {pins : List (Addr × Obj)} {σ : L2.St} {H : Hp} {s : Shared} {a : Addr} {y v : V} {u r : Value} {o : Option V} {A : Around} {E : Value → Shared → Prop}
theorem putNk_len (xs : List (NestedKey × Addr × V)) (k : NestedKey) (b : Addr) (v : V) : (putNk xs k b v).length ≤ xs.length + 1 := by
  unfold putNk
  split <;> simp
theorem x_setItem {H' : Hp} {Q : Unit → Shared → Prop} (hu : A.units + 10 < cLine) (I : L2.Inv X pins σ H s) (g : DPx X.G H a y v H') (ry : RelV y u) (rv : RelV v r) (h : ∀ s', L2.Inv X pins σ H' s' → Q () s') :
    wpAny (model X.prog X.w) A (setItem (.ref a) u r) Q E s := by
  rcases g with g | ⟨xs, q, k, hd, hks, rfl, hk, hl, rfl⟩
  · exact d_setItem (by omega) I g ry rv h
  · cases (show u = Value.ref q from ry)
    have hrd : RdN X.G H a xs := ⟨hd.imp (fun e => .inl e) fun ⟨e, z⟩ => ⟨.inl e, z⟩, hks⟩
    obtain ⟨z, hs, ys, rel, dd⟩ := dn_rd I hrd
    have hz : ys.length ≤ sizeLine := by rw [← Paired.length rel]; exact z
    have hl2 : (putNk xs k q v).length ≤ sizeLine := by have := putNk_len xs k q v; omega
    refine wpAny_setItem_heap (knd := nestedKind X.prog X.w) (hsz := hz) (by show A.units + 1 + 8 < cLine; omega) (hk.is I) dd fun h' dd' hsb => h _ ?_
    obtain ⟨q', es, ep, hq, h2, h3, h4, _, h5⟩ := dd'
    refine d_write I (by rcases hd with e | ⟨e, _⟩ <;> rw [e] <;> exact True.intro) hsb ⟨q', hq⟩ ⟨⟨hl2, hs, _, rel.put k rv, q', es, ep, hq, h2, h3, h4, h5⟩, ⟨q', hq⟩, fun h1 h2' p1 p2 => ?_⟩
    obtain ⟨a1, a2, ys', a3, o', es', ep', b1, b2⟩ := p1
    exact ⟨a1, a2, ys', a3, o', es', ep', p2 _ b1, b2⟩
end
section
variable {X : Cx} {o i e value : Expr} {pos pos' tpos apos cpos : Pos} {td ty tv tx : TE}
def sDPx (K : Fg) (td ty tv : TE) : TS := fun D σ H => tv σ H fun v H1 => td σ H1 fun x H2 => ty σ H2 fun y H3 => ∃ a H4, x = .ref a ∧ DPx K H3 a y v H4 ∧ D.nx σ H4
theorem ps_dpx (hu : X.A.units + 10 < cLine) (ho : PE X o td) (hi : PE X i ty) (hv : PE X value tv) (hs : swapsWith value (some (.Subscript o i pos')) pos.line X.env = pure false) :
    PS X (.Assign [.Subscript o i pos'] value pos) (sDPx X.G td ty tv) := by
  refine ⟨fun pins s σ H D I h => ?_⟩
  refine wpAny_Assign_Subscript (thn (hv.run pins s σ H _ I h) fun r s1 ⟨v, H1, I1, rv, q1⟩ => thn (ho.run pins s1 σ H1 _ I1 q1) fun u s2 ⟨x, H2, I2, rx, q2⟩ => thn (hi.run pins s2 σ H2 _ I2 q2) fun iv s3 ⟨y, H3, I3, ry, a, H4, ex, g, q3⟩ => ?_) hs
  subst ex
  obtain rfl : u = Value.ref a := rx
  exact x_setItem hu I3 g ry rv fun s4 I4 => ⟨σ, H4, I4, q3⟩
end
end ZD


namespace ZD
open PySem PySem.Spec PyProof.Rows L2 GxR ZG

inductive Fl where
  | nx | rt (x : Vl) | bk | ct
def endF (k : Kx) (sg : L2.St) (H : Hp) (en : En) (D : Ends) (sg' : L2.St) (H' Z' : Hp) (en' : En) : Fl → Prop
  | .nx => D.nx sg' H'
  | .bk => D.bk sg' H'
  | .ct => D.ct sg' H'
  | .rt x => ∀ v, VlOk k sg H en sg' H' Z' en' v x → D.rt v H'
/-- what follows a statement, the names change -/
def PostS {α : Type} (k : Kx) (E : Wish) (sg : L2.St) (H Z : Hp) (en : En) (r : Res α) (P : α → En → L2.St → Hp → Hp → Prop) : Prop :=
  match r with
  | .ok a en' => ∀ sg' H' Z', Aft k sg H Z en sg' H' Z' en' → P a en' sg' H' Z'
  | .err c en' => ∀ sg' H' Z', Aft k sg H Z en sg' H' Z' en' → E c sg' H'
  | .bad => False
def tS (k : Kx) (E : Wish) (m : M Fl) : TS := fun D sg H => ∃ en Z, Rel k sg H Z en ∧ PostS k E sg H Z en (m en) fun f en' sg' H' Z' => endF k sg H en D sg' H' Z' en' f
abbrev GS (T : TL) (E : Wish) (X : Cx) (st : Stmt) (m : M Fl) : Prop := PS X st (tS ⟨X.G, T⟩ E m)
abbrev GSs (T : TL) (E : Wish) (X : Cx) (st : List Stmt) (m : M Fl) : Prop := PSs X st (tS ⟨X.G, T⟩ E m)

section
variable {k : Kx} {E : Wish} {sg sg1 : L2.St} {H H1 Z Z1 : Hp} {en en1 : En} {α β : Type}
theorem posts_post {m : Res α} {P : α → En → L2.St → Hp → Hp → Prop} (h : PostS k E sg H Z en m P) : Post k E sg H Z en m fun a en' H' Z' => P a en' sg H' Z' := by
  cases m with
  | ok a en1 => exact fun H1 Z1 a1 => h sg H1 Z1 a1
  | err c en1 => exact fun H1 Z1 a1 => h sg H1 Z1 a1
  | bad => exact h
theorem posts_bnd {m : M α} {f : α → M β} {P : β → En → L2.St → Hp → Hp → Prop} (r : Rel k sg H Z en) (h : PostS k E sg H Z en (bnd m f en) P) :
    PostS k E sg H Z en (m en) fun a en1 sg1 H1 Z1 => Aft k sg H Z en sg1 H1 Z1 en1 ∧ PostS k E sg1 H1 Z1 en1 (f a en1) P := by
  unfold bnd at h
  cases q : m en with
  | ok a en1 =>
    rw [q] at h
    intro sg1 H1 Z1 a1
    refine ⟨a1, ?_⟩
    have h : PostS k E sg H Z en (f a en1) P := h
    cases q2 : f a en1 with
    | ok b en2 =>
      rw [q2] at h
      intro sg2 H2 Z2 a2
      exact h sg2 H2 Z2 (a1.trans a2 r)
    | err c en2 =>
      rw [q2] at h
      intro sg2 H2 Z2 a2
      exact h sg2 H2 Z2 (a1.trans a2 r)
    | bad => rw [q2] at h; exact h
  | err c en1 => rw [q] at h; exact h
  | bad => rw [q] at h; exact h
theorem posts_mono {r : Res α} {P P' : α → En → L2.St → Hp → Hp → Prop} (h : PostS k E sg H Z en r P) (i : ∀ a en' sg' H' Z', Aft k sg H Z en sg' H' Z' en' → P a en' sg' H' Z' → P' a en' sg' H' Z') : PostS k E sg H Z en r P' := by
  cases r with
  | ok a en1 => exact fun sg1 H1 Z1 a1 => i _ _ _ _ _ a1 (h sg1 H1 Z1 a1)
  | err c en1 => exact h
  | bad => exact h
theorem posts_ret {a : α} {P : α → En → L2.St → Hp → Hp → Prop} (r : Rel k sg H Z en) (h : PostS k E sg H Z en (ret a en) P) : P a en sg H Z := h sg H Z (Aft.refl r)
theorem free_backS (a : Aft k sg H Z en sg1 H1 Z1 en1) {x : Addr} (h : H1 x = none) : H x = none ∨ Mine H sg en x := by
  cases e : H x with
  | none => exact .inl rfl
  | some u =>
    by_cases m : Mine H sg en x
    · exact .inr m
    · exact ((a.kp x u e m).none h).elim
theorem vl_backS {sg2 : L2.St} {H2 Z2 : Hp} {en2 : En} {v : V} {x : Vl} (a : Aft k sg H Z en sg1 H1 Z1 en1) (h : VlOk k sg1 H1 en1 sg2 H2 Z2 en2 v x) : VlOk k sg H en sg2 H2 Z2 en2 v x := by
  cases x with
  | sh d => exact h
  | ow d =>
    obtain ⟨p, e, h1, h2, h3, h4⟩ := h
    refine ⟨p, e, h1, h2, h3, ?_⟩
    rcases h4 with q | q
    · exact free_backS a q
    · exact (a.own p q).symm
theorem endF_back {D : Ends} {sg2 : L2.St} {H2 Z2 : Hp} {en2 : En} {f : Fl} (a : Aft k sg H Z en sg1 H1 Z1 en1) (h : endF k sg H en D sg2 H2 Z2 en2 f) : endF k sg1 H1 en1 D sg2 H2 Z2 en2 f := by
  cases f with
  | rt x => exact fun v hv => h v (vl_backS a hv)
  | nx => exact h
  | bk => exact h
  | ct => exact h

def slOf : Vl → Sl
  | .sh d => .sh d
  | .ow d => .ow d
/-- a name gets a value -/
theorem aft_set {sg0 : L2.St} {H0 Z0 : Hp} {en0 : En} {i : Nat} {s0 : Sl} {v : V} {x : Vl} (a : Aft k sg0 H0 Z0 en0 sg H Z en) (he : en[i]? = some s0) (n : ∀ d, s0 ≠ .io d) (hv : VlOk k sg0 H0 en0 sg H Z en v x) :
    Aft k sg0 H0 Z0 en0 (sg.set i (some v)) H Z (en.set i (slOf x)) := by
  have r := a.rel
  have hi : i < en.length := (List.getElem?_eq_some_iff.mp he).1
  obtain ⟨u0, hu0, _⟩ := r.sl i s0 he
  have hg : i < sg.length := (List.getElem?_eq_some_iff.mp hu0).1
  have at_ : ∀ (j : Nat) (s : Sl), (en.set i (slOf x))[j]? = some s → (j = i ∧ s = slOf x) ∨ (j ≠ i ∧ en[j]? = some s) := fun j s h => by
    by_cases e : j = i
    · rw [e, List.getElem?_set_self hi] at h; cases h; exact .inl ⟨e, rfl⟩
    · rw [List.getElem?_set_ne (Ne.symm e)] at h; exact .inr ⟨e, h⟩
  have sne : ∀ (j : Nat), j ≠ i → (sg.set i (some v))[j]? = sg[j]? := fun j e => List.getElem?_set_ne (Ne.symm e)
  have new : isOwn (slOf x) = true → ∃ p, v = .ref p ∧ ¬ Mine H sg en p ∧ (H0 p = none ∨ Mine H0 sg0 en0 p) := fun h => by
    cases x with
    | sh d => cases h
    | ow d => obtain ⟨p, e, _, _, h3, h4⟩ := hv; exact ⟨p, e, h3, h4⟩
  have wn : ∀ d, slOf x ≠ .fz d := fun d e => by cases x <;> cases e
  refine ⟨⟨r.sub, fun j s h => ?_, fun j l s t b h1 h2 h3 h4 h5 h6 => ?_, r.tab⟩, a.zz, a.new, a.kp, fun b ⟨j, s, h1, h2, h3⟩ => ?_, fun j d h => ?_, a.tb⟩
  · rcases at_ j s h with ⟨e1, e2⟩ | ⟨hj, e⟩
    · rw [e1, e2]
      refine ⟨some v, List.getElem?_set_self hg, ?_⟩
      cases x with
      | sh d => exact ⟨v, rfl, hv⟩
      | ow d => obtain ⟨p, e, h1, h2, _⟩ := hv; exact ⟨p, by rw [e], h1, h2⟩
    · obtain ⟨w, hw, q⟩ := r.sl j s e
      exact ⟨w, (sne j hj).trans hw, q⟩
  · rcases at_ j s h1 with ⟨e1, e2⟩ | ⟨hj, e⟩
    · rcases at_ l t h2 with ⟨e1', e2'⟩ | ⟨hl, e'⟩
      · rw [e1, e1']
      · rw [e2] at h5
        replace h5 := pl_1 h5 wn
        rw [e1, List.getElem?_set_self hg] at h5
        replace h6 := pl_sg (sne l hl) h6
        rw [e2] at h3
        obtain ⟨p, hp, nm, _⟩ := new h3
        rw [hp] at h5
        have hb : p = b := by cases h5; rfl
        rw [hb] at nm
        exact absurd ⟨l, t, e', h4, h6⟩ nm
    · rcases at_ l t h2 with ⟨e1', e2'⟩ | ⟨hl, e'⟩
      · rw [e2'] at h6
        replace h6 := pl_1 h6 wn
        rw [e1', List.getElem?_set_self hg] at h6
        replace h5 := pl_sg (sne j hj) h5
        rw [e2'] at h4
        obtain ⟨p, hp, nm, _⟩ := new h4
        rw [hp] at h6
        have hb : p = b := by cases h6; rfl
        rw [hb] at nm
        exact absurd ⟨j, s, e, h3, h5⟩ nm
      · replace h5 := pl_sg (sne j hj) h5
        replace h6 := pl_sg (sne l hl) h6
        exact r.dis j l s t b e e' h3 h4 h5 h6
  · rcases at_ j s h1 with ⟨e1, e2⟩ | ⟨hj, e⟩
    · rw [e2] at h2 h3
      replace h3 := pl_1 h3 wn
      obtain ⟨p, hp, _, hf⟩ := new h2
      rw [e1, List.getElem?_set_self hg, hp] at h3
      have hb : p = b := by cases h3; rfl
      rw [← hb]
      exact hf.symm
    · replace h3 := pl_sg (sne j hj) h3
      exact a.own b ⟨j, s, e, h2, h3⟩
  · obtain ⟨⟨d', h1⟩, h2⟩ := a.io j d h
    have hj : j ≠ i := fun e => by rw [e, he] at h1; cases h1; exact n d' rfl
    exact ⟨⟨d', by rw [List.getElem?_set_ne (Ne.symm hj)]; exact h1⟩, (sne j hj).trans h2⟩
end

section
variable {T : TL} {E : Wish} {X : Cx} {e a b c : Expr} {pos : Pos} {st : Stmt} {rest : List Stmt}
def mnx : M Fl := ret .nx
def mseq (m n : M Fl) : M Fl := bnd m fun f => match f with
  | .nx => n
  | f => ret f
theorem gss_nil : GSs T E X [] mnx := pss_imp pss_nil fun D sg H ⟨en, Z, r, q⟩ => posts_ret (a := Fl.nx) r q
theorem gss_cons {m n : M Fl} (h1 : GS T E X st m) (h2 : GSs T E X rest n) : GSs T E X (st :: rest) (mseq m n) :=
  pss_imp (pss_cons h1 h2) fun D sg H ⟨en, Z, r, q⟩ => ⟨en, Z, r, posts_mono (posts_bnd r q) fun f en1 sg1 H1 Z1 _ ⟨a1, q1⟩ => by
    cases f with
    | nx => exact ⟨en1, Z1, a1.rel, posts_mono q1 fun f en2 sg2 H2 Z2 _ h => endF_back a1 h⟩
    | rt x => exact posts_ret (a := Fl.rt x) a1.rel q1
    | bk => exact posts_ret (a := Fl.bk) a1.rel q1
    | ct => exact posts_ret (a := Fl.ct) a1.rel q1⟩
theorem gss_one {m : M Fl} (h1 : GS T E X st m) : GSs T E X [st] m := pss_one h1
def mret (m : M Vl) : M Fl := bnd m fun x => ret (.rt x)
theorem gs_ret {m : M Vl} (h : GE T E X e m) : GS T E X (.Return (some e) pos) (mret m) :=
  ps_imp (ps_ret h) fun D sg H ⟨en, Z, r, q⟩ => ⟨en, Z, r, post_mono (posts_post (posts_bnd r q)) fun x en1 H1 Z1 _ ⟨a1, q1⟩ v hv => posts_ret (a := Fl.rt x) a1.rel q1 v hv⟩
/-- a name's thing is given back -/
def mretN (i : Nat) : M Fl := fun en => match en[i]? with
  | some (.sh d) => .ok (.rt (.sh d)) en
  | some (.ow d) => .ok (.rt (.ow d)) (en.set i .no)
  | _ => .bad
def mifS (t : M Bool) (m n : M Fl) : M Fl := bnd t fun b => if b = true then m else n
theorem gs_if {t : M Bool} {m n : M Fl} {p q : List Stmt} (hc : GT T E X c t) (ha : GSs T E X p m) (hb : GSs T E X q n) : GS T E X (.If c p q pos) (mifS t m n) :=
  ps_imp (ps_if hc ha hb) fun D sg H ⟨en, Z, r, q⟩ => ⟨en, Z, r, post_mono (posts_post (posts_bnd r q)) fun d en1 H1 Z1 _ ⟨a1, q1⟩ => by
    cases d with
    | true => exact ⟨en1, Z1, a1.rel, posts_mono q1 fun f en2 sg2 H2 Z2 _ h => endF_back a1 h⟩
    | false => exact ⟨en1, Z1, a1.rel, posts_mono q1 fun f en2 sg2 H2 Z2 _ h => endF_back a1 h⟩⟩
def masg (i : Nat) (x : Vl) : M Fl := fun en => match en[i]? with
  | some (.io _) => .bad
  | some _ => .ok .nx (en.set i (slOf x))
  | none => .bad
def asgN (i : Nat) (m : M Vl) : M Fl := bnd m (masg i)
theorem masg_ok {k : Kx} {sg0 sg : L2.St} {H0 Z0 H Z : Hp} {en0 en : En} {i : Nat} {v : V} {x : Vl} {P : Fl → En → L2.St → Hp → Hp → Prop} (a : Aft k sg0 H0 Z0 en0 sg H Z en) (hv : VlOk k sg0 H0 en0 sg H Z en v x)
    (h : PostS k E sg0 H0 Z0 en0 (masg i x en) P) : P .nx (en.set i (slOf x)) (sg.set i (some v)) H Z := by
  unfold masg at h
  cases he : en[i]? with
  | none => rw [he] at h; exact h.elim
  | some s =>
    rw [he] at h
    cases s with
    | io d => exact h.elim
    | no => exact h _ _ _ (aft_set a he (fun _ z => by cases z) hv)
    | sh d => exact h _ _ _ (aft_set a he (fun _ z => by cases z) hv)
    | ow d => exact h _ _ _ (aft_set a he (fun _ z => by cases z) hv)
    | fz fz_d => exact h _ _ _ (aft_set a he (fun _ z => by cases z) hv)
/-- name = e -/
theorem gs_set {i : Nat} {x : Str} {m : M Vl} {pos' : Pos} (hN : X.N.Nodup) (hi : X.N[i]? = some x) (hx : Loc X.env.scope x) (he : GE T E X e m)
    (hs : swapsWith e (some (.Name x pos')) pos.line X.env = pure false := by rfl) (hf : X.fn x = true ∨ X.env.scope.names.lookup x = some .local := by first | exact .inl rfl | exact .inr rfl | assumption) :
    GS T E X (.Assign [.Name x pos'] e pos) (asgN i m) :=
  ps_imp (ps_set hN hi hx he hs hf) fun D sg H ⟨en, Z, r, q⟩ => ⟨en, Z, r, by
    unfold asgN bnd at q
    cases hm : m en with
    | ok x en1 =>
      rw [hm] at q
      intro H1 Z1 a1 v hv
      exact masg_ok a1 hv q
    | err c en1 => rw [hm] at q; exact fun H1 Z1 a1 => q sg H1 Z1 a1
    | bad => rw [hm] at q; exact q⟩
/-- what a target does with a tree; the places that it changes -/
abbrev TgF := PyData → M Fl
def Only (L : List Nat) (sg sg' : L2.St) : Prop := (∀ j, j ∉ L → sg'[j]? = sg[j]?) ∧ sg'.length = sg.length
theorem Only.refl {L : List Nat} {sg : L2.St} : Only L sg sg := ⟨fun _ _ => rfl, rfl⟩
theorem Only.trans {L : List Nat} {sg sg1 sg2 : L2.St} (a : Only L sg sg1) (b : Only L sg1 sg2) : Only L sg sg2 := ⟨fun j h => (b.1 j h).trans (a.1 j h), b.2.trans a.2⟩
theorem Only.set {L : List Nat} {sg : L2.St} {i : Nat} {v : Option V} (h : i ∈ L) : Only L sg (sg.set i v) := ⟨fun j hj => List.getElem?_set_ne (fun (e : i = j) => hj (by rw [← e]; exact h)), List.length_set ..⟩
def tG (k : Kx) (E : Wish) (L : List Nat) (f : TgF) : TG := fun v sg H Q => ∃ en Z d, Rel k sg H Z en ∧ Dp k.K Z v d ∧ PostS k E sg H Z en (f d en) fun fl _ sg' H' _ => fl = .nx → Only L sg sg' → Q sg' H'
def tGT (k : Kx) (E : Wish) (L : List Nat) (f : TgF) : TG := fun v sg H Q => ∃ en Z d, Rel k sg H Z en ∧ Top k.K H Z v d ∧ PostS k E sg H Z en (f d en) fun fl _ sg' H' _ => fl = .nx → Only L sg sg' → Q sg' H'
def tGs (k : Kx) (E : Wish) (L : List Nat) (f : List PyData → M Fl) : TGs := fun vs sg H Q => ∃ en Z ds, Rel k sg H Z en ∧ DpAll k.K Z vs ds ∧ PostS k E sg H Z en (f ds en) fun fl _ sg' H' _ => fl = .nx → Only L sg sg' → Q sg' H'
theorem pg_imp {X : Cx} {e : Expr} {t u : TG} (h : PG X e t) (i : ∀ v sg H Q, u v sg H Q → t v sg H Q) : PG X e u := ⟨fun pins s sg H v w Q I r q => h.run pins s sg H v w Q I r (i _ _ _ _ q)⟩
theorem pgs_imp {X : Cx} {e : List Expr} {t u : TGs} (h : PGs X e t) (i : ∀ v sg H Q, u v sg H Q → t v sg H Q) : PGs X e u := ⟨fun pins s sg H v w Q I r q => h.run pins s sg H v w Q I r (i _ _ _ _ q)⟩
theorem pg_or {X : Cx} {e : Expr} {t u : TG} (h : PG X e t) (h' : PG X e u) : PG X e fun v sg H Q => t v sg H Q ∨ u v sg H Q := ⟨fun pins s sg H v w Q I r q => q.elim (h.run pins s sg H v w Q I r) (h'.run pins s sg H v w Q I r)⟩
abbrev GG (T : TL) (E : Wish) (X : Cx) (L : List Nat) (e : Expr) (f : TgF) : Prop := PG X e (tG ⟨X.G, T⟩ E L f)
abbrev GGT (T : TL) (E : Wish) (X : Cx) (L : List Nat) (e : Expr) (f : TgF) : Prop := PG X e (tGT ⟨X.G, T⟩ E L f)
abbrev GGs (T : TL) (E : Wish) (X : Cx) (L : List Nat) (es : List Expr) (f : List PyData → M Fl) : Prop := PGs X es (tGs ⟨X.G, T⟩ E L f)
def tgN (i : Nat) : TgF := fun d => masg i (.sh d)
theorem gg_name {L : List Nat} {i : Nat} {x : Str} (hL : i ∈ L) (hN : X.N.Nodup) (hi : X.N[i]? = some x) (hx : Loc X.env.scope x) (hf : X.fn x = true ∨ X.env.scope.names.lookup x = some .local := by first | exact .inl rfl | exact .inr rfl | assumption) : GG T E X L (.Name x pos) (tgN i) :=
  pg_imp (pg_name hN hi hx hf) fun v sg H Q ⟨en, Z, d, r, hd, q⟩ => masg_ok (x := .sh d) (Aft.refl r) hd q rfl (Only.set hL)
def tgnil : List PyData → M Fl := fun ds => match ds with
  | [] => mnx
  | _ => fail
def tgcons (f : TgF) (g : List PyData → M Fl) : List PyData → M Fl := fun ds => match ds with
  | [] => fail
  | d :: ds => bnd (f d) fun fl => match fl with
    | .nx => g ds
    | _ => fail
theorem ggs_nil {L : List Nat} : GGs T E X L [] tgnil := pgs_imp pgs_nil fun v sg H Q ⟨en, Z, ds, r, hd, q⟩ => by
  cases hd with
  | nil => exact ⟨rfl, posts_ret (a := Fl.nx) r q rfl Only.refl⟩
  | cons _ _ => exact q.elim
theorem ggs_cons {L : List Nat} {f : TgF} {g : List PyData → M Fl} {es : List Expr} (h1 : GG T E X L e f) (h2 : GGs T E X L es g)
    (hs : (assignEach (e :: es) X.env).map (·.2) = assign e X.env :: (assignEach es X.env).map (·.2) := by rfl) : GGs T E X L (e :: es) (tgcons f g) := pgs_imp (pgs_cons h1 h2 hs) fun v sg H Q ⟨en, Z, ds, r, hd, q⟩ => by
  cases hd with
  | nil => exact q.elim
  | cons hd hr =>
    refine ⟨_, _, rfl, en, Z, _, r, hd, posts_mono (posts_bnd r q) fun fl en1 sg1 H1 Z1 _ ⟨a1, q1⟩ e o1 => ?_⟩
    subst e
    exact ⟨en1, Z1, _, a1.rel, dpAll_mono a1.zz hr, posts_mono q1 fun fl2 en2 sg2 H2 Z2 _ h e o2 => h e (o1.trans o2)⟩
def tgtup (n : Nat) (g : List PyData → M Fl) : TgF := fun d => match d with
  | .tuple ds => if ds.length = n then g ds else fail
  | .list ds => if ds.length = n then g ds else fail
  | _ => fail
theorem ggt_tup {L : List Nat} {es : List Expr} {j n : Nat} {g : List PyData → M Fl} (hc : X.calm = true) (h : GGs T E X L es g) (hn : (assignEach es X.env).length = n := by rfl) (hst : (assignEach es X.env).findIdx? (·.1) = none := by rfl) :
    GGT T E X L (.Tuple es j pos) (tgtup n g) :=
  pg_imp (pg_or (pg_tup hc h hn hst) (pg_unl hc h hn hst)) fun v sg H Q ⟨en, Z, d, r, hd, q⟩ => by
    cases d with
    | tuple ds =>
      obtain ⟨a, vs, rfl, hs, hds⟩ := hd.tup r.sub
      by_cases hl : ds.length = n
      · simp only [tgtup, hl, if_true] at q
        exact .inl ⟨a, vs, rfl, hs, (dpa_length hds).trans hl, en, Z, ds, r, hds, q⟩
      · simp only [tgtup, hl, if_false] at q; exact q.elim
    | list ds =>
      obtain ⟨a, vs, rfl, hs, hds⟩ := hd.list r.sub
      by_cases hl : ds.length = n
      · simp only [tgtup, hl, if_true] at q
        exact .inr ⟨a, vs, rfl, hs, (dpa_length hds).trans hl, en, Z, ds, r, hds, q⟩
      · simp only [tgtup, hl, if_false] at q; exact q.elim
    | _ => exact q.elim
theorem gg_top {L : List Nat} {f : TgF} (h : GGT T E X L e f) : GG T E X L e f := pg_imp h fun v sg H Q ⟨en, Z, d, r, hd, q⟩ => ⟨en, Z, d, r, .inl hd, q⟩
/-- a, b = e: e is looked at -/
def asgT (f : TgF) (m : M Od) : M Fl := bnd m fun x => fun en => match look en x with
  | some d => bnd (f d) (fun fl => match fl with | .nx => mnx | _ => fail) en
  | none => .bad
theorem gs_asgT {L : List Nat} {tg : Expr} {f : TgF} {m : M Od} (he : GO T E X e m) (hg : GGT T E X L tg f) (hs : swapsWithSole [tg] e pos.line X.env = pure false := by rfl) (hw : swappedStores [tg] e X.env = pure none := by rfl)
    (h1 : (assignEach [tg] X.env).map (·.2) = [assign tg X.env] := by rfl) : GS T E X (.Assign [tg] e pos) (asgT f m) :=
  ps_imp (ps_asg he hg hs hw h1) fun D sg H ⟨en, Z, r, q⟩ => ⟨en, Z, r, post_mono (posts_post (posts_bnd r q)) fun x en1 H1 Z1 _ ⟨a1, q1⟩ v hv => by
    cases hl : look en1 x with
    | none => simp only [hl] at q1; exact q1.elim
    | some d =>
      simp only [hl] at q1
      refine ⟨en1, Z1, d, a1.rel, top_of a1.rel hv hl, posts_mono (posts_bnd a1.rel q1) fun fl en2 sg2 H2 Z2 _ ⟨a2, q2⟩ e _ => ?_⟩
      subst e
      exact posts_ret (a := Fl.nx) a2.rel q2⟩
end
end ZD


namespace ZD
open PySem PySem.Spec PyProof.Rows L2 GxR ZG
section
variable {X : Cx} {pins : List (Addr × Obj)} {σ : L2.St} {H : Hp} {s : Shared} {d : Addr} {o : Obj}
theorem frzN {xs : List (NestedKey × Addr × V)} (I : L2.Inv X pins σ H s) (h : H d = some (.frz o (DNo X.G d xs))) : (d == sysModules) = false ∧ s.heap.get? d = some o ∧ o.ExactDict ∧ ∃ (es : Array DictEntry) (ep : Nat), o.data = .dict es ep ∧ es.size = xs.length ∧
      ∀ (i : Nat) (x : NestedKey × Addr × V), xs[i]? = some x → ∃ (en : DictEntry), es[i]? = some en ∧ en.key = .ref x.2.1 := by
  obtain ⟨hd, ⟨z, hs, ys, pr, o', es, ep, ho, hx, hdt, he, _⟩, _, _⟩ := I.hok d _ h
  rw [hd] at ho
  cases ho
  refine ⟨hs, hd, hx, es, ep, hdt, ?_, fun i x e => ?_⟩
  · have l1 : es.size = ys.length := size_of_entries he
    have l2 : xs.length = ys.length := Paired.length pr
    omega
  · obtain ⟨b, hb, e1, e2, _⟩ := paired_get pr e
    have q := entry_at he i
    rw [hb] at q
    exact ⟨_, q, by rw [e2]; rfl⟩
end
/-- the keys of the locked dict at d, in their order -/
def Itkn (G : Fg) (d : Addr) (o : Obj) (xs : List (NestedKey × Addr × V)) : It :=
  ⟨fun i H => H d = some (.frz o (DNo G d xs)) ∧ i < xs.length, fun i H x H' => H' = H ∧ ∃ y, xs[i]? = some y ∧ x = .ref y.2.1, fun i H => H d = some (.frz o (DNo G d xs)) ∧ xs.length ≤ i⟩
section
variable {G : Fg} {tg : Expr} {d : Addr} {o : Obj} {es : Array DictEntry} {ep : Nat}
theorem turn_keysN {xs : List (NestedKey × Addr × V)} (it : Addr) (hod : o.data = .dict es ep) : Turn G.P G.w G.K tg (Itkn G d o xs) [it] it (fun i h => h.IsKeyIter it d i xs.length ep) where
  mem := by simp
  obj := fun i h st b hb => by
    have e : b = it := by simpa using hb
    subst e
    obtain ⟨oi, e, c, dd⟩ := st
    exact ⟨oi, e, fun v z => by rw [dd] at z; cases z⟩
  keep := fun i h h' st k => st.at fun oi e => k it (by simp) oi e
  item := by
    intro X hP hw hK hc i pins s σ H E I hf st hg
    have hG : G = X.G := by cases G; simp only at hP hw hK; subst hP hw hK; rfl
    subst hG
    obtain ⟨hd, hi⟩ := hg
    obtain ⟨f0, f1, f2, f3, f4, f5⟩ := hf it (by simp)
    obtain ⟨hs, hgd, hx, es', ep', hdt, hsz, ent⟩ := frzN I hd
    obtain ⟨rfl, rfl⟩ := dict_ep hod hdt
    obtain ⟨y, hkv⟩ : ∃ p, xs[i]? = some p := ⟨xs[i], List.getElem?_eq_getElem hi⟩
    obtain ⟨en, hen, hkey⟩ := ent i y hkv
    refine next_key_item st hgd hdt hsz hen fun h' st' sb => ?_
    have I1 : L2.Inv X pins σ H { s with heap := h' } := I.turned (t' := s.toks) (fun b ob hb e => (sb.2 b hb).trans e) f0 f1 f3 f4 f5
    obtain ⟨oi, e, c, dd⟩ := id st'
    exact ⟨en.key, rfl, go_of (s := { s with heap := h' }) e c dd (by decide) ⟨.ref y.2.1, H, I1, hkey, ⟨rfl, y, hkv, rfl⟩, st', fun b hb => (hf b hb).1⟩⟩
  done := by
    intro X hP hw hK hc i pins s σ H E I hf st hg
    have hG : G = X.G := by cases G; simp only at hP hw hK; subst hP hw hK; rfl
    subst hG
    obtain ⟨hd, hi⟩ := hg
    obtain ⟨f0, f1, f2, f3, f4, f5⟩ := hf it (by simp)
    obtain ⟨hs, hgd, hx, es', ep', hdt, hsz, ent⟩ := frzN I hd
    obtain ⟨rfl, rfl⟩ := dict_ep hod hdt
    exact next_key_end (I.ok.hd hc) st hgd hdt hsz hi fun h' eb => ⟨rfl, I.turned (t' := s.toks) (fun b ob hb e => eb b ob hb e) f0 f1 f3 f4 f5⟩
  self := fun A i s Q E st h => by
    refine wpAny_pyIter_slot st.typeIs F.slot_dict_keyiterator_iter (wpAny_call_entry F.slot_dict_keyiterator_iter st.typeIs F.entry_dict_keyiterator_iter ?_ (F.args_dict_keyiterator_iter_1 _))
    show wpAny _ _ (PySem.ret (.ref it)) _ _ s
    exact wpAny_pure ⟨_, rfl, "dict_keyiterator", _, st.typeIs, F.slot_dict_keyiterator_next.lookup, h⟩
end
def iKeysN (G : Fg) (td : TE) : TI := fun σ H R => td σ H fun x H1 => ∃ d o, x = .ref d ∧ ((∃ kvs, H1 d = some (.frz o (.dK kvs)) ∧ R (Itk d o kvs) H1) ∨ ∃ xs, H1 d = some (.frz o (DNo G d xs)) ∧ R (Itkn G d o xs) H1)
theorem pi_keysN {X : Cx} {tg e : Expr} {td : TE} (he : PE X e td) : PI X tg e (iKeysN X.G td) := by
  refine ⟨fun pins s σ H R I h => ?_⟩
  refine thn (he.run pins s σ H _ I h) fun u s1 ⟨x, H1, I1, rx, d, o, ex, q⟩ => ?_
  subst ex
  obtain rfl : u = Value.ref d := rx
  rcases q with ⟨kvs, hd, q⟩ | ⟨xs, hd, q⟩
  · obtain ⟨hs, hgd, hx, es, ep, vs, hdt, hsz, kv, hm⟩ := I1.frzK hd
    refine iter_keys hs hgd hx hdt (pi_one (tk := s1.toks) I1 _ (turn_keys _ hdt) ⟨_, Heap.get?_push_size _ rfl, rfl, ?_⟩ q)
    rw [hsz] <;> rfl
  · obtain ⟨hs, hgd, hx, es, ep, hdt, hsz, ent⟩ := frzN I1 hd
    refine iter_keys hs hgd hx hdt (pi_one (tk := s1.toks) I1 _ (turn_keysN (G := X.G) _ hdt) ⟨_, Heap.get?_push_size _ rfl, rfl, ?_⟩ q)
    rw [hsz] <;> rfl
end ZD


namespace ZD
open PySem PySem.Spec PyProof.Rows L2 GxR ZG

/-- the walk J hands out ds, as long as Zs stands -/
structure ItIs (k : Kx) (ds : List PyData) (J : It) (Zs : Hp) : Prop where
  stop : ∀ {T : TL} (sg : L2.St) (H Z : Hp) (en : En), Rel ⟨k.K, T⟩ sg H Z en → (∀ a o, Zs a = some o → Z a = some o) → J.stop ds.length H
  go : ∀ {T : TL} (sg : L2.St) (H Z : Hp) (en : En) (i : Nat) (d : PyData), Rel ⟨k.K, T⟩ sg H Z en → (∀ a o, Zs a = some o → Z a = some o) → ds[i]? = some d →
    J.go i H ∧ ∀ x H', J.yld i H x H' → ∃ Z', Aft ⟨k.K, T⟩ sg H Z en sg H' Z' en ∧ Dp k.K Z' x d
def tI (k : Kx) (E : Wish) (m : M (List PyData)) : TI := fun sg H R => ∃ en Z, Rel k sg H Z en ∧ Post k E sg H Z en (m en) fun ds en' H' Z' => ∀ J, ItIs k ds J Z' → R J H'
abbrev GI (T : TL) (E : Wish) (X : Cx) (tg iter : Expr) (m : M (List PyData)) : Prop := PI X tg iter (tI ⟨X.G, T⟩ E m)
theorem pi_imp {X : Cx} {tg e : Expr} {t u : TI} (h : PI X tg e t) (i : ∀ sg H R, u sg H R → t sg H R) : PI X tg e u := ⟨fun pins s sg H R I q => h.run pins s sg H R I (i _ _ _ q)⟩
theorem pi_orI {X : Cx} {tg e : Expr} {t u : TI} (h : PI X tg e t) (h' : PI X tg e u) : PI X tg e fun sg H R => t sg H R ∨ u sg H R := ⟨fun pins s sg H R I q => q.elim (h.run pins s sg H R I) (h'.run pins s sg H R I)⟩

section
variable {T : TL} {E : Wish} {X : Cx} {tg e a b : Expr} {pos p : Pos} {k : Kx}
theorem itis_list {a : Addr} {vs : List V} {ds : List PyData} {Zs : Hp} (h : SqL k.K Zs a vs) (hd : DpAll k.K Zs vs ds) : ItIs k ds (Itl k.K a) Zs where
  stop := fun sg H Z en r hz => ⟨vs, Same.seq (fun x o q => r.sub x o (hz x o q)) h, by rw [dpa_length hd]; exact Nat.le_refl _⟩
  go := fun sg H Z en i d r hz hi => by
    obtain ⟨v, hv, hvd⟩ := dpa_get hd hi
    have hs : SqL k.K H a vs := Same.seq (fun x o q => r.sub x o (hz x o q)) h
    refine ⟨⟨vs, v, hs, hv⟩, fun x H' hy => ?_⟩
    obtain ⟨rfl, hy⟩ := hy
    have e : some v = some x := hv.symm.trans (hy vs hs)
    cases e
    exact ⟨Z, Aft.refl r, dp_mono hz hvd⟩
theorem SqT.mono {K : Fg} {H H' : Hp} {a : Addr} {vs : List V} (hz : ∀ x o, H x = some o → H' x = some o) (h : SqT K H a vs) : SqT K H' a vs := by
  rcases h with (q | ⟨o, q⟩) | q
  · exact .inl (.inl (hz _ _ q))
  · exact .inl (.inr ⟨o, hz _ _ q⟩)
  · exact .inr q
theorem itis_tup {a : Addr} {vs : List V} {ds : List PyData} {Zs : Hp} (h : SqT k.K Zs a vs) (hd : DpAll k.K Zs vs ds) : ItIs k ds (Itt k.K a) Zs where
  stop := fun sg H Z en r hz => ⟨vs, SqT.mono (fun x o q => r.sub x o (hz x o q)) h, by rw [dpa_length hd]; exact Nat.le_refl _⟩
  go := fun sg H Z en i d r hz hi => by
    obtain ⟨v, hv, hvd⟩ := dpa_get hd hi
    have hs : SqT k.K H a vs := SqT.mono (fun x o q => r.sub x o (hz x o q)) h
    refine ⟨⟨vs, v, hs, hv⟩, fun x H' hy => ?_⟩
    obtain ⟨rfl, hy⟩ := hy
    have e : some v = some x := hv.symm.trans (hy vs hs)
    cases e
    exact ⟨Z, Aft.refl r, dp_mono hz hvd⟩
/-- the signs of a text -/
def signs (x : Str) : List PyData := x.cps.toList.map fun c => .str ⟨#[c]⟩
theorem itis_str {x : Str} {Zs : Hp} : ItIs k (signs x) (Its x) Zs where
  stop := fun sg H Z en r hz => by
    show x.cps.size ≤ (signs x).length
    simp [signs]
  go := fun sg H Z en i d r hz hi => by
    have h0 : i < (signs x).length := (List.getElem?_eq_some_iff.mp hi).1
    have hlt : i < x.cps.size := by simpa [signs] using h0
    refine ⟨hlt, fun y H' hy => ?_⟩
    obtain ⟨rfl, c, hc, rfl⟩ := hy
    have e : d = .str ⟨#[c]⟩ := by
      have q : (signs x)[i]? = some (.str ⟨#[c]⟩) := by
        unfold signs
        rw [List.getElem?_map, Array.getElem?_toList, hc]
        rfl
      rw [q] at hi
      exact (Option.some.inj hi).symm
    subst e
    exact ⟨Z, Aft.refl r, .str _⟩
def rngL (lo : Int) (n : Nat) : List PyData := (List.range n).map fun i => .int (lo + (i : Nat))
theorem itis_rng {lo : Int} {n : Nat} {Zs : Hp} : ItIs k (rngL lo n) (Itr lo n) Zs where
  stop := fun sg H Z en r hz => by
    show n ≤ (rngL lo n).length
    simp [rngL]
  go := fun sg H Z en i d r hz hi => by
    have h0 : i < (rngL lo n).length := (List.getElem?_eq_some_iff.mp hi).1
    have hlt : i < n := by simpa [rngL] using h0
    refine ⟨hlt, fun y H' hy => ?_⟩
    obtain ⟨rfl, rfl⟩ := hy
    have e : d = .int (lo + (i : Nat)) := by
      have q : (rngL lo n)[i]? = some (.int (lo + (i : Nat))) := by
        unfold rngL
        rw [List.getElem?_map, List.getElem?_range hlt]
        rfl
      rw [q] at hi
      exact (Option.some.inj hi).symm
    subst e
    exact ⟨Z, Aft.refl r, .int _⟩

/-- a list, a tuple, a text -/
theorem itis_keys {d : Addr} {od : Obj} {kvs : List (Key × V)} {ds : List (PyData × PyData)} {Zs : Hp} (h : Zs d = some (.frz od (.dK kvs))) (hk : ds.map (·.1) = kvs.map (fun p => keyD p.1)) : ItIs k (ds.map (·.1)) (Itk d od kvs) Zs where
  stop := fun sg H Z en r hz => ⟨r.sub d _ (hz d _ h), by have := congrArg List.length hk; simp at this ⊢; omega⟩
  go := fun sg H Z en i x r hz hi => by
    rw [hk] at hi
    have hl : i < kvs.length := by have := (List.getElem?_eq_some_iff.mp hi).1; simpa using this
    refine ⟨⟨r.sub d _ (hz d _ h), hl⟩, fun y H' ⟨e, kk, w, h1, h2⟩ => ?_⟩
    subst e h2
    rw [List.getElem?_map, h1] at hi
    cases hi
    refine ⟨Z, Aft.refl r, ?_⟩
    cases kk with
    | inl i => exact .int i
    | inr x => exact .str x
theorem itis_keysN {d : Addr} {od : Obj} {xs : List (NestedKey × Addr × V)} {ds : List (PyData × PyData)} {Zs : Hp} (h : Zs d = some (.frz od (DNo k.K d xs))) (hk : DpAll k.K Zs (xs.map fun x => V.ref x.2.1) (ds.map (·.1))) : ItIs k (ds.map (·.1)) (Itkn k.K d od xs) Zs where
  stop := fun sg H Z en r hz => ⟨r.sub d _ (hz d _ h), by have := dpa_length hk; simp at this ⊢; omega⟩
  go := fun sg H Z en i x r hz hi => by
    obtain ⟨v, hv, hvd⟩ := dpa_get hk hi
    have hl : i < xs.length := by have := (List.getElem?_eq_some_iff.mp hv).1; simpa using this
    refine ⟨⟨r.sub d _ (hz d _ h), hl⟩, fun y H' ⟨e, w, h1, h2⟩ => ?_⟩
    subst e h2
    rw [List.getElem?_map, h1] at hv
    cases hv
    exact ⟨Z, Aft.refl r, dp_mono hz hvd⟩
def seqM (m : M PyData) : M (List PyData) := bnd m fun d => match d with
  | .list ds => ret ds
  | .tuple ds => ret ds
  | .str x => ret (signs x)
  | .dict ds => ret (ds.map (·.1))
  | _ => fail
theorem gi_seq {m : M PyData} (h : GD T E X e m) : GI T E X tg e (seqM m) :=
  pi_imp (pi_orI (pi_list (tg := tg) h) (pi_orI (pi_tup (tg := tg) h) (pi_orI (pi_str (tg := tg) h) (pi_keysN (tg := tg) h)))) fun sg H R ⟨en, Z, r, q⟩ => by
    unfold seqM bnd at q
    have hz : ∀ a o, Z a = some o → H a = some o := r.sub
    cases hm : m en with
    | bad => rw [hm] at q; exact q.elim
    | err c en1 =>
      rw [hm] at q
      exact .inl ⟨en, Z, r, by rw [hm]; exact q⟩
    | ok d en1 =>
      rw [hm] at q
      cases d with
      | list ds =>
        refine .inl ⟨en, Z, r, ?_⟩
        rw [hm]
        intro H1 Z1 a1 v hv
        cases hv with
        | lst h1 h2 => exact ⟨_, rfl, ⟨_, Same.seq a1.rel.sub h1⟩, q H1 Z1 a1 _ (itis_list (k := ⟨X.G, T⟩) h1 h2)⟩
      | tuple ds =>
        refine .inr (.inl ⟨en, Z, r, ?_⟩)
        rw [hm]
        intro H1 Z1 a1 v hv
        cases hv with
        | tup h1 h2 => exact ⟨_, rfl, ⟨_, SqT.mono a1.rel.sub h1.sqt⟩, q H1 Z1 a1 _ (itis_tup (k := ⟨X.G, T⟩) h1.sqt h2)⟩
      | str x =>
        refine .inr (.inr (.inl ⟨en, Z, r, ?_⟩))
        rw [hm]
        intro H1 Z1 a1 v hv
        cases hv
        exact ⟨x, rfl, q H1 Z1 a1 _ itis_str⟩
      | dict ds =>
        refine .inr (.inr (.inr ⟨en, Z, r, ?_⟩))
        rw [hm]
        intro H1 Z1 a1 v hv
        cases hv with
        | dct h1 h2 h3 => exact ⟨_, _, rfl, .inl ⟨_, a1.rel.sub _ _ h1, q H1 Z1 a1 _ (itis_keys (k := ⟨X.G, T⟩) h1 h2)⟩⟩
        | dcn h0 h1 h2 h3 h4 => exact ⟨_, _, rfl, .inr ⟨_, a1.rel.sub _ _ h1, q H1 Z1 a1 _ (itis_keysN (k := ⟨X.G, T⟩) h1 h2)⟩⟩
      | _ => exact q.elim
/-- range(n), range(a, b) -/
def rngM1 (m : M PyData) : M (List PyData) := bnd m fun d => match d with
  | .int n => if n < 2 ^ 62 ∧ -(2 ^ 62) ≤ n then ret (rngL 0 n.toNat) else fail
  | _ => fail
theorem gi_range1 {m : M PyData} (hg : Gl X "range") (hm : X.mg "range" = none) (h : GD T E X a m) (hq : starEach [a] X.env = (false, eval a X.env) :: starEach [] X.env := by rfl) : GI T E X tg (.Call (.Name "range" p) [a] [] pos) (rngM1 m) :=
  pi_imp (pi_range1 (tg := tg) hg hm (pa_cons h pa_nil hq) (by rw [hq]; rfl)) fun sg H R ⟨en, Z, r, q⟩ => ⟨en, Z, r, post_mono (post_bnd r q) fun d en1 H1 Z1 _ ⟨a1, q1⟩ v hv => by
    cases d with
    | int n =>
      cases hv
      by_cases hc : n < 2 ^ 62 ∧ -(2 ^ 62) ≤ n
      · simp only [hc, and_self, if_true] at q1
        exact ⟨n, rfl, hc.2, hc.1, post_ret a1.rel q1 _ itis_rng⟩
      · simp only [hc, if_false] at q1; exact q1.elim
    | _ => exact q1.elim⟩
end

def forM (f : TgF) (body : M Fl) : List PyData → M Fl
  | [] => mnx
  | d :: ds => bnd (f d) fun fl => match fl with
    | .nx => bnd body fun g => match g with
      | .nx => forM f body ds
      | .ct => forM f body ds
      | .bk => mnx
      | .rt x => ret (.rt x)
    | _ => fail
def mfor (m : M (List PyData)) (f : TgF) (body : M Fl) : M Fl := bnd m (forM f body)
section
variable {T : TL} {E : Wish} {X : Cx} {tg iter : Expr} {body : List Stmt} {pos : Pos}
theorem gs_for {L : List Nat} {m : M (List PyData)} {f : TgF} {mb : M Fl} (hp : PassesOwn (model X.prog X.w) X.A X.env X.xe) (hc : X.calm = true) (hi : GI T E X tg iter m) (hg : GG T E X L tg f) (hb : GSs T E X body mb)
    (hs : ∀ x, foldedSetIterable iter X.env x = pure x := by intro _; rfl) : GS T E X (.For tg iter body [] pos) (mfor m f mb) :=
  ps_imp (ps_for hp hc hi hg hb hs) fun D sg H ⟨en, Z, r, q⟩ => ⟨en, Z, r, post_mono (posts_post (posts_bnd r q)) fun ds en1 H1 Z1 _ ⟨a1, q1⟩ J hJ => by
    refine ⟨fun i m' sg2 H2 => m' = ds.length - i ∧ i ≤ ds.length ∧ ∃ en2 Z2, Rel ⟨X.G, T⟩ sg2 H2 Z2 en2 ∧ (∀ a o, Z1 a = some o → Z2 a = some o) ∧ Aft ⟨X.G, T⟩ sg H Z en sg2 H2 Z2 en2 ∧
      PostS ⟨X.G, T⟩ E sg2 H2 Z2 en2 (forM f mb (ds.drop i) en2) fun fl en' sg' H' Z' => endF ⟨X.G, T⟩ sg H en D sg' H' Z' en' fl, ⟨ds.length, by simp, Nat.zero_le _, en1, Z1, a1.rel, fun _ _ h => h, a1, by rw [List.drop_zero]; exact q1⟩, ?_⟩
    rintro i m' sg2 H2 ⟨rfl, hi', en2, Z2, r2, hz, a2, q2⟩
    by_cases hlt : i < ds.length
    · have hd : ds[i]? = some ds[i] := List.getElem?_eq_getElem hlt
      obtain ⟨hgo, hy⟩ := hJ.go sg2 H2 Z2 en2 i _ r2 hz hd
      refine .inr ⟨hgo, fun sg3 H3 => ds.length - (i + 1) = ds.length - (i + 1) ∧ i + 1 ≤ ds.length ∧ ∃ en3 Z3, Rel ⟨X.G, T⟩ sg3 H3 Z3 en3 ∧ (∀ a o, Z1 a = some o → Z3 a = some o) ∧ Aft ⟨X.G, T⟩ sg H Z en sg3 H3 Z3 en3 ∧
        PostS ⟨X.G, T⟩ E sg3 H3 Z3 en3 (forM f mb (ds.drop (i + 1)) en3) fun fl en' sg' H' Z' => endF ⟨X.G, T⟩ sg H en D sg' H' Z' en' fl, fun sg3 H3 h => ⟨_, by omega, h⟩, fun x H3 hx => ?_⟩
      obtain ⟨Z3, a3, hdp⟩ := hy x H3 hx
      rw [List.drop_eq_getElem_cons hlt] at q2
      unfold forM at q2
      refine ⟨en2, Z3, _, a3.rel, hdp, ?_⟩
      have q3 : PostS ⟨X.G, T⟩ E sg2 H3 Z3 en2 (bnd (f ds[i]) (fun fl => match fl with
        | .nx => bnd mb fun g => match g with
          | .nx => forM f mb (ds.drop (i + 1))
          | .ct => forM f mb (ds.drop (i + 1))
          | .bk => mnx
          | .rt x => ret (.rt x)
        | _ => fail) en2) fun fl en' sg' H' Z' => endF ⟨X.G, T⟩ sg H en D sg' H' Z' en' fl := by
        revert q2
        generalize bnd (f ds[i]) _ en2 = rr
        intro q2
        cases rr with
        | ok fl en3 => exact fun sg' H' Z' a' => q2 sg' H' Z' (a3.trans a' r2)
        | err c en3 => exact fun sg' H' Z' a' => q2 sg' H' Z' (a3.trans a' r2)
        | bad => exact q2
      refine posts_mono (posts_bnd a3.rel q3) fun fl en4 sg4 H4 Z4 _ ⟨a4, q4⟩ e _ => ?_
      subst e
      refine ⟨en4, Z4, a4.rel, posts_mono (posts_bnd a4.rel q4) fun g en5 sg5 H5 Z5 _ ⟨a5, q5⟩ => ?_⟩
      have a05 : Aft ⟨X.G, T⟩ sg H Z en sg5 H5 Z5 en5 := ((a2.trans a3 r).trans a4 r).trans a5 r
      have z05 : ∀ a o, Z1 a = some o → Z5 a = some o := fun a o h => a5.zz a o (a4.zz a o (a3.zz a o (hz a o h)))
      cases g with
      | nx => exact ⟨rfl, hlt, en5, Z5, a5.rel, z05, a05, q5⟩
      | ct => exact ⟨rfl, hlt, en5, Z5, a5.rel, z05, a05, q5⟩
      | bk => exact posts_ret (a := Fl.nx) a5.rel q5
      | rt x => exact fun v hv => posts_ret (a := Fl.rt x) a5.rel q5 v (vl_backS (((a2.trans a3 r).trans a4 r)) hv)
    · have e : i = ds.length := by omega
      subst e
      rw [List.drop_of_length_le (Nat.le_refl _)] at q2
      exact .inl ⟨hJ.stop sg2 H2 Z2 en2 r2 hz, posts_ret (a := Fl.nx) r2 q2⟩⟩

end
end ZD


namespace ZD
open PySem PySem.Spec PyProof.Rows L2 GxR ZG

def wipeE (en : En) : List Nat → En
  | [] => en
  | v :: vs => (wipeE en vs).set v .no
def restE (en0 en : En) : List Nat → En
  | [] => en
  | v :: vs => (restE en0 en vs).set v (en0[v]?.getD .no)
def isPlain : Option Sl → Bool
  | some .no => true
  | some (.sh _) => true
  | _ => false
def wipeable (en : En) (vs : List Nat) : Bool := vs.all fun v => isPlain en[v]?

theorem wipe_get (sg : L2.St) : ∀ (vs : List Nat) (i : Nat), (i ∉ vs → (wipe sg vs)[i]? = sg[i]?) ∧ (i ∈ vs → ∀ v, sg[i]? = some v → (wipe sg vs)[i]? = some none)
  | [], i => ⟨fun _ => rfl, fun h => nomatch h⟩
  | v :: vs, i => by
    obtain ⟨h1, h2⟩ := wipe_get sg vs i
    unfold wipe
    by_cases e : v = i
    · refine ⟨fun h => absurd (by rw [e]; exact List.mem_cons_self) h, fun _ u hu => ?_⟩
      have hl : v < (wipe sg vs).length := by rw [wipe_length, e]; exact (List.getElem?_eq_some_iff.mp hu).1
      rw [← e, List.getElem?_set_self hl]
    · rw [List.getElem?_set_ne e]
      exact ⟨fun h => h1 fun q => h (List.mem_cons_of_mem _ q), fun h => h2 ((List.mem_cons.mp h).resolve_left fun q => e q.symm)⟩
theorem wipeE_len (en : En) : ∀ vs : List Nat, (wipeE en vs).length = en.length
  | [] => rfl
  | v :: vs => by unfold wipeE; rw [List.length_set, wipeE_len en vs]
theorem wipeE_get (en : En) : ∀ (vs : List Nat) (i : Nat), (i ∉ vs → (wipeE en vs)[i]? = en[i]?) ∧ (i ∈ vs → ∀ s, (wipeE en vs)[i]? = some s → s = .no ∧ ∃ s0, en[i]? = some s0)
  | [], i => ⟨fun _ => rfl, fun h => nomatch h⟩
  | v :: vs, i => by
    obtain ⟨h1, h2⟩ := wipeE_get en vs i
    unfold wipeE
    by_cases e : v = i
    · refine ⟨fun h => absurd (by rw [e]; exact List.mem_cons_self) h, fun _ s hs => ?_⟩
      have hl : v < (wipeE en vs).length := by
        have q := (List.getElem?_eq_some_iff.mp hs).1
        rw [List.length_set] at q
        rw [e]; exact q
      rw [← e, List.getElem?_set_self hl] at hs
      rw [wipeE_len] at hl
      exact ⟨(Option.some.inj hs).symm, en[v], by rw [← e]; exact List.getElem?_eq_getElem hl⟩
    · rw [List.getElem?_set_ne e]
      exact ⟨fun h => h1 fun q => h (List.mem_cons_of_mem _ q), fun h => h2 ((List.mem_cons.mp h).resolve_left fun q => e q.symm)⟩
theorem restE_len (en0 en : En) : ∀ vs : List Nat, (restE en0 en vs).length = en.length
  | [] => rfl
  | v :: vs => by unfold restE; rw [List.length_set, restE_len en0 en vs]
theorem restE_get (en0 en : En) : ∀ (vs : List Nat) (i : Nat), (i ∉ vs → (restE en0 en vs)[i]? = en[i]?) ∧ (i ∈ vs → ∀ s, (restE en0 en vs)[i]? = some s → s = en0[i]?.getD .no ∧ ∃ s1, en[i]? = some s1)
  | [], i => ⟨fun _ => rfl, fun h => nomatch h⟩
  | v :: vs, i => by
    obtain ⟨h1, h2⟩ := restE_get en0 en vs i
    unfold restE
    by_cases e : v = i
    · refine ⟨fun h => absurd (by rw [e]; exact List.mem_cons_self) h, fun _ s hs => ?_⟩
      have hl : v < (restE en0 en vs).length := by
        have q := (List.getElem?_eq_some_iff.mp hs).1
        rw [List.length_set] at q
        rw [e]; exact q
      rw [← e, List.getElem?_set_self hl] at hs
      rw [restE_len] at hl
      exact ⟨by rw [← e]; exact (Option.some.inj hs).symm, en[v], by rw [← e]; exact List.getElem?_eq_getElem hl⟩
    · rw [List.getElem?_set_ne e]
      exact ⟨fun h => h1 fun q => h (List.mem_cons_of_mem _ q), fun h => h2 ((List.mem_cons.mp h).resolve_left fun q => e q.symm)⟩
theorem only_wipe {L vs : List Nat} {sg sg' : L2.St} (h : Only L sg sg') (hl : ∀ i ∈ L, i ∈ vs) : wipe sg' vs = wipe sg vs := by
  refine List.ext_getElem? fun i => ?_
  by_cases hi : i ∈ vs
  · by_cases hlt : i < sg.length
    · rw [(wipe_get sg' vs i).2 hi _ (List.getElem?_eq_getElem (show i < sg'.length by rw [h.2]; exact hlt)), (wipe_get sg vs i).2 hi _ (List.getElem?_eq_getElem hlt)]
    · rw [List.getElem?_eq_none (by rw [wipe_length, h.2]; omega), List.getElem?_eq_none (by rw [wipe_length]; omega)]
  · rw [(wipe_get sg' vs i).1 hi, (wipe_get sg vs i).1 hi]
    exact h.1 i fun q => hi (hl i q)
theorem wipe_wipe {vs : List Nat} {sg : L2.St} : wipe (wipe sg vs) vs = wipe sg vs := by
  refine only_wipe (L := vs) ⟨fun j hj => (wipe_get sg vs j).1 hj, wipe_length _ _⟩ fun i h => h

section
variable {k : Kx} {E : Wish} {sg : L2.St} {H H' Z Z' : Hp} {en en' : En} {vs : List Nat}
theorem mine_wipe {a : Addr} (m : Mine H (wipe sg vs) (wipeE en vs) a) : Mine H sg en a := by
  obtain ⟨i, s, h1, h2, h3⟩ := m
  by_cases hi : i ∈ vs
  · obtain ⟨e, _⟩ := (wipeE_get en vs i).2 hi s h1
    rw [e] at h2; cases h2
  · exact ⟨i, s, by rw [← (wipeE_get en vs i).1 hi]; exact h1, h2, pl_sg ((wipe_get sg vs i).1 hi) h3⟩
theorem rel_wipe (r : Rel k sg H Z en) : Rel k (wipe sg vs) H Z (wipeE en vs) where
  sub := r.sub
  sl := fun i s h => by
    by_cases hi : i ∈ vs
    · obtain ⟨e, s0, hs0⟩ := (wipeE_get en vs i).2 hi s h
      obtain ⟨v, hv, _⟩ := r.sl i s0 hs0
      exact ⟨none, (wipe_get sg vs i).2 hi v hv, by rw [e]; trivial⟩
    · obtain ⟨v, hv, q⟩ := r.sl i s (by rw [← (wipeE_get en vs i).1 hi]; exact h)
      exact ⟨v, by rw [(wipe_get sg vs i).1 hi]; exact hv, q⟩
  dis := fun i j s t a h1 h2 h3 h4 h5 h6 => by
    by_cases hi : i ∈ vs
    · obtain ⟨e, _⟩ := (wipeE_get en vs i).2 hi s h1
      rw [e] at h3; cases h3
    · by_cases hj : j ∈ vs
      · obtain ⟨e, _⟩ := (wipeE_get en vs j).2 hj t h2
        rw [e] at h4; cases h4
      · rw [(wipeE_get en vs i).1 hi] at h1
        rw [(wipeE_get en vs j).1 hj] at h2
        exact r.dis i j s t a h1 h2 h3 h4 (pl_sg ((wipe_get sg vs i).1 hi) h5) (pl_sg ((wipe_get sg vs j).1 hj) h6)
  tab := r.tab
theorem plain_own {o : Option Sl} {s : Sl} (h : isPlain o = true) (e : o = some s) : isOwn s = false := by
  rw [e] at h
  cases s with
  | no => rfl
  | sh d => rfl
  | ow d => cases h
  | io d => cases h
  | fz fz_d => cases h
/-- within a block: the names of its own are forgotten -/
theorem aft_wipe (r : Rel k sg H Z en) (hw : wipeable en vs = true) : Aft k sg H Z en (wipe sg vs) H Z (wipeE en vs) :=
  ⟨rel_wipe r, fun _ _ h => h, fun _ _ h => .inl h, fun _ _ h _ => .inl h, fun _ h => .inl (mine_wipe h), fun i d h => by
    have hi : i ∉ vs := fun q => by
      have z := plain_own (List.all_eq_true.mp hw i q) h
      cases z
    exact ⟨⟨d, by rw [(wipeE_get en vs i).1 hi]; exact h⟩, (wipe_get sg vs i).1 hi⟩, fun _ t => t⟩
/-- back from the block -/
theorem blk_back (r : Rel k sg H Z en) (hw : wipeable en vs = true) {H1 : Hp} (hk : ∀ a o, H a = some o → H1 a = some o) (hn : ∀ a, H1 a = none → H a = none) (a : Aft k (wipe sg vs) H1 Z (wipeE en vs) (wipe sg vs) H' Z' en') :
    Aft k sg H Z en sg H' Z' (restE en en' vs) := by
  have out : ∀ i, i ∉ vs → (restE en en' vs)[i]? = en'[i]? := fun i hi => (restE_get en en' vs i).1 hi
  have pl : ∀ i ∈ vs, isPlain en[i]? = true := fun i hi => List.all_eq_true.mp hw i hi
  have inn : ∀ i s, i ∈ vs → (restE en en' vs)[i]? = some s → en[i]? = some s := fun i s hi h => by
    obtain ⟨e, _⟩ := (restE_get en en' vs i).2 hi s h
    cases q : en[i]? with
    | none => have z := pl i hi; rw [q] at z; cases z
    | some s0 => rw [e, q]; rfl
  have nown : ∀ i s, i ∈ vs → (restE en en' vs)[i]? = some s → isOwn s = false := fun i s hi h => plain_own (pl i hi) (inn i s hi h)
  have mw : ∀ b, Mine H1 (wipe sg vs) (wipeE en vs) b → Mine H sg en b := fun b m => mine_wipe (mine_mono (rel_wipe r) (fun a _ o h => hk a o h) m)
  have mb : ∀ b, Mine H' sg (restE en en' vs) b → Mine H' (wipe sg vs) en' b := fun b ⟨i, s, h1, h2, h3⟩ => by
    by_cases hi : i ∈ vs
    · rw [nown i s hi h1] at h2; cases h2
    · exact ⟨i, s, by rw [← out i hi]; exact h1, h2, pl_sg ((wipe_get sg vs i).1 hi).symm h3⟩
  refine ⟨⟨a.rel.sub, fun i s h => ?_, fun i j s t b h1 h2 h3 h4 h5 h6 => ?_, a.rel.tab⟩, a.zz, fun b o h => ?_, fun b o h m => a.kp b o (hk b o h) (fun q => m (mw b q)), fun b h => ?_, fun i d h => ?_, fun T t => a.tb T (t.mono (fun b o h _ => hk b o h) fun _ _ _ h => h)⟩
  · by_cases hi : i ∈ vs
    · have e := inn i s hi h
      obtain ⟨v, hv, q⟩ := r.sl i s e
      refine ⟨v, hv, ?_⟩
      have no := nown i s hi h
      cases s with
      | no => trivial
      | sh d => obtain ⟨x, e, q⟩ := q; exact ⟨x, e, dp_mono a.zz q⟩
      | ow d => cases no
      | io d => cases no
      | fz d => cases no
    · obtain ⟨v, hv, q⟩ := a.rel.sl i s (by rw [← out i hi]; exact h)
      exact ⟨v, by rw [← (wipe_get sg vs i).1 hi]; exact hv, q⟩
  · by_cases hi : i ∈ vs
    · rw [nown i s hi h1] at h3; cases h3
    · by_cases hj : j ∈ vs
      · rw [nown j t hj h2] at h4; cases h4
      · exact a.rel.dis i j s t b (by rw [← out i hi]; exact h1) (by rw [← out j hj]; exact h2) h3 h4 (pl_sg ((wipe_get sg vs i).1 hi).symm h5) (pl_sg ((wipe_get sg vs j).1 hj).symm h6)
  · rcases a.new b o h with q | q | q
    · exact .inl q
    · exact .inr (.inl (hn b q))
    · exact .inr (.inr (mw b q))
  · rcases a.own b (mb b h) with q | q
    · exact .inl (mw b q)
    · exact .inr (hn b q)
  · have hi : i ∉ vs := fun q => by
      have z := plain_own (pl i q) h
      cases z
    obtain ⟨⟨d', h1⟩, h2⟩ := a.io i d (by rw [(wipeE_get en vs i).1 hi]; exact h)
    exact ⟨⟨d', by rw [out i hi]; exact h1⟩, rfl⟩
end

/-- no error leaves it -/
def nox {α : Type} (m : M α) : M α := fun en => match m en with
  | .ok a en' => .ok a en'
  | _ => .bad
def blk {α : Type} (vs : List Nat) (m : M α) : M α := fun en => if wipeable en vs = true then (match m (wipeE en vs) with
  | .ok a en' => .ok a (restE en en' vs)
  | _ => .bad) else .bad
def wp (vs : List Nat) : M Unit := fun en => if wipeable en vs = true then .ok () (wipeE en vs) else .bad
def compL (vs : List Nat) (f : TgF) (t : M Bool) (e : M PyData) : List PyData → M (List PyData)
  | [] => ret []
  | d :: ds => bnd (f d) fun fl => match fl with
    | .nx => bnd t fun b => if b = true then bnd e (fun y => bnd (wp vs) fun _ => bnd (compL vs f t e ds) fun ys => ret (y :: ys)) else bnd (wp vs) fun _ => compL vs f t e ds
    | _ => fail
/-- one turn -/
def stepC (vs : List Nat) (f : TgF) (t : M Bool) (e : M PyData) (d : PyData) : M (Option PyData) := bnd (f d) fun fl => match fl with
  | .nx => bnd t fun b => if b = true then bnd e (fun y => bnd (wp vs) fun _ => ret (some y)) else bnd (wp vs) fun _ => ret none
  | _ => fail
theorem compL_cons (vs : List Nat) (f : TgF) (t : M Bool) (e : M PyData) (d : PyData) (ds : List PyData) (en : En) :
    compL vs f t e (d :: ds) en = bnd (stepC vs f t e d) (fun oy => bnd (compL vs f t e ds) fun ys => ret (oy.toList ++ ys)) en := by
  rw [compL]
  unfold stepC bnd
  cases f d en with
  | bad => rfl
  | err c e2 => rfl
  | ok fl e2 =>
    cases fl with
    | nx =>
      dsimp only
      cases t e2 with
      | bad => rfl
      | err c e3 => rfl
      | ok b e3 =>
        cases b with
        | true =>
          simp only [if_true]
          cases e e3 with
          | bad => rfl
          | err c e4 => rfl
          | ok y e4 =>
            dsimp only
            cases wp vs e4 with
            | bad => rfl
            | err c e5 => rfl
            | ok u e5 =>
              dsimp only [ret]
              cases compL vs f t e ds e5 with
              | bad => rfl
              | err c e6 => rfl
              | ok ys e6 => rfl
        | false =>
          simp only [Bool.false_eq_true, if_false]
          cases wp vs e3 with
          | bad => rfl
          | err c e5 => rfl
          | ok u e5 =>
            dsimp only [ret]
            cases compL vs f t e ds e5 with
            | bad => rfl
            | err c e6 => rfl
            | ok ys e6 => rfl
    | rt x => rfl
    | bk => rfl
    | ct => rfl
def Cont (r full : Res (List PyData)) (dn : List PyData) : Prop := match r with
  | .ok ys en' => full = .ok (dn ++ ys) en'
  | _ => False
/-- [e for f in m if t] -/
def mcomp (vs : List Nat) (m : M (List PyData)) (f : TgF) (t : M Bool) (e : M PyData) : M Vl := bnd m fun ds => if ds.length ≤ 2000000 then bnd (blk vs (compL vs f t e ds)) (fun ys => ret (.ow (.list ys))) else fail
def mtrue : M Bool := ret true
abbrev GTs (T : TL) (E : Wish) (X : Cx) (es : List Expr) (m : M Bool) : Prop := PTs X es (tT ⟨X.G, T⟩ E m)
theorem gts_nil {T : TL} {E : Wish} {X : Cx} : GTs T E X [] mtrue := ⟨fun pins s sg H Q I ⟨en, Z, r, q⟩ => (pts_nil (X := X)).run pins s sg H Q I (post_ret (a := true) r q)⟩
theorem gts_one {T : TL} {E : Wish} {X : Cx} {c : Expr} {m : M Bool} (h : GT T E X c m) : GTs T E X [c] m := pts_one h

section
variable {k : Kx} {E : Wish} {sg : L2.St} {H H' Z Z' : Hp} {en en' : En} {vs : List Nat} {α β : Type}
/-- the names of the block are forgotten again -/
theorem wp_ok {P : Unit → En → L2.St → Hp → Hp → Prop} (r : Rel k sg H Z en) (h : PostS k E sg H Z en (wp vs en) P) : wipeable en vs = true ∧ P () (wipeE en vs) (wipe sg vs) H Z := by
  unfold wp at h
  by_cases hw : wipeable en vs = true
  · rw [if_pos hw] at h
    exact ⟨hw, h _ _ _ (aft_wipe r hw)⟩
  · rw [if_neg hw] at h
    exact h.elim
end

section
variable {T : TL} {E : Wish} {X : Cx} {elt tg iter : Expr} {ifs : List Expr} {scope : Scope} {pos : Pos}
theorem pos_lt {n m : Nat} (h : n ≤ m) (h2 : m < 2000000) : n < sizeLine := by rw [sizeLine_eq]; omega
theorem tLc_ok {own : List (Str × Nat)} {m : M (List PyData)} {f : TgF} {t : M Bool} {e : M PyData} {L : List Nat} (hL : ∀ i ∈ L, i ∈ own.map (·.2)) {sg : L2.St} {H : Hp} {Q : VK}
    (h : tV ⟨X.G, T⟩ E (mcomp (own.map (·.2)) m f t e) sg H Q) :
    tLc (tI ⟨X.G, T⟩ E m) (tG ⟨X.G, T⟩ W0 L f) (tT ⟨X.G, T⟩ W0 t) (tD ⟨X.G, T⟩ W0 e) (own.map (·.2)) sg H Q := by
  generalize hvs : own.map (·.2) = vs at h hL ⊢
  obtain ⟨en, Z, r, q⟩ := h
  refine ⟨en, Z, r, post_mono (post_bnd r q) fun ds en1 H1 Z1 _ ⟨a1, q1⟩ J hJ => ?_⟩
  by_cases hlen : ds.length ≤ 2000000
  · rw [if_pos hlen] at q1
    intro D hD
    unfold bnd blk at q1
    by_cases hw : wipeable en1 vs = true
    · rw [if_pos hw] at q1
      have aD : Aft ⟨X.G, T⟩ sg H1 Z1 en1 sg (upd H1 D (.lst [])) Z1 en1 := aft_new a1.rel hD
      have r0 : Rel ⟨X.G, T⟩ (wipe sg vs) (upd H1 D (.lst [])) Z1 (wipeE en1 vs) := rel_wipe aD.rel
      have hkD : ∀ a o, H1 a = some o → upd H1 D (.lst []) a = some o := fun a o h => by rw [upd_ne (ne_of_none h hD)]; exact h
      have hnD : ∀ a, upd H1 D (.lst []) a = none → H1 a = none := fun a h => by
        by_cases e : a = D
        · rw [e, upd_same] at h; cases h
        · rw [upd_ne e] at h; exact h
      have nD : ¬ Mine (upd H1 D (.lst [])) (wipe sg vs) (wipeE en1 vs) D := fun q => by
        obtain ⟨o, ho, _⟩ := mine_there a1.rel (mine_wipe (mine_new (rel_wipe a1.rel) hD q))
        rw [hD] at ho; cases ho
      -- the end
      have fin : ∀ (ys : List PyData) (en' : En) (H' Z' : Hp) (acc : List V), compL vs f t e ds (wipeE en1 vs) = .ok ys en' → Aft ⟨X.G, T⟩ (wipe sg vs) H1 Z1 (wipeE en1 vs) (wipe sg vs) H' Z' en' →
          H' D = some (.lst acc) → Z' D = none → ¬ Mine H' (wipe sg vs) en' D → DpAll X.G Z' acc ys → Q (.ref D) H' := by
        intro ys en' H' Z' acc hc ab hDl hDz hDm hacc
        rw [hc] at q1
        have b := blk_back a1.rel hw (fun _ _ h => h) (fun _ h => h) ab
        refine q1 H' Z' b (.ref D) ⟨D, rfl, hDz, .lst hDl hacc, fun q => ?_, free_back a1 hD⟩
        obtain ⟨i, s, h1, h2, h3⟩ := q
        by_cases hi : i ∈ vs
        · obtain ⟨e, _⟩ := (restE_get en1 en' vs i).2 hi s h1
          have z : isPlain en1[i]? = true := List.all_eq_true.mp hw i hi
          cases q0 : en1[i]? with
          | none => rw [q0] at z; cases z
          | some s0 =>
            rw [q0] at e
            have e : s = s0 := e
            have no := plain_own z q0
            rw [← e, h2] at no; cases no
        · exact hDm ⟨i, s, by rw [← (restE_get en1 en' vs i).1 hi]; exact h1, h2, pl_sg ((wipe_get sg vs i).1 hi).symm h3⟩
      -- what stands between two turns
      have nb : compL vs f t e ds (wipeE en1 vs) = compL vs f t e ds (wipeE en1 vs) := rfl
      refine ⟨fun i m' H2 => m' = ds.length - i ∧ i ≤ ds.length ∧ ∃ en2 Z2 acc dn, Rel ⟨X.G, T⟩ (wipe sg vs) H2 Z2 en2 ∧ H2 D = some (.lst acc) ∧ Z2 D = none ∧ ¬ Mine H2 (wipe sg vs) en2 D ∧ DpAll X.G Z2 acc dn ∧ dn.length ≤ i ∧
          (∀ a o, Z1 a = some o → Z2 a = some o) ∧ Aft ⟨X.G, T⟩ (wipe sg vs) H1 Z1 (wipeE en1 vs) (wipe sg vs) H2 Z2 en2 ∧
          Cont (compL vs f t e (ds.drop i) en2) (compL vs f t e ds (wipeE en1 vs)) dn, ⟨ds.length, by simp, Nat.zero_le _, wipeE en1 vs, Z1, [], [], r0, upd_same, aD.rel.sub D |> fun _ => (a1.rel.free hD), nD, .nil, Nat.le_refl _, fun _ _ h => h, aft_new (rel_wipe a1.rel) hD, ?_⟩, ?_⟩
      · rw [List.drop_zero]
        cases hc : compL vs f t e ds (wipeE en1 vs) with
        | ok ys en' => rfl
        | err c en' => rw [hc] at q1; exact q1
        | bad => rw [hc] at q1; exact q1
      · rintro i m' H2 ⟨rfl, hi', en2, Z2, acc, dn, r2, hDl, hDz, hDm, hacc, hdn, hz, a2, q2⟩
        by_cases hlt : i < ds.length
        · have hd : ds[i]? = some ds[i] := List.getElem?_eq_getElem hlt
          obtain ⟨hgo, hy⟩ := hJ.go (wipe sg vs) H2 Z2 en2 i _ r2 hz hd
          refine .inr ⟨hgo, fun H3 => ds.length - (i + 1) = ds.length - (i + 1) ∧ i + 1 ≤ ds.length ∧ ∃ en3 Z3 acc3 dn3, Rel ⟨X.G, T⟩ (wipe sg vs) H3 Z3 en3 ∧ H3 D = some (.lst acc3) ∧ Z3 D = none ∧ ¬ Mine H3 (wipe sg vs) en3 D ∧ DpAll X.G Z3 acc3 dn3 ∧ dn3.length ≤ i + 1 ∧
            (∀ a o, Z1 a = some o → Z3 a = some o) ∧ Aft ⟨X.G, T⟩ (wipe sg vs) H1 Z1 (wipeE en1 vs) (wipe sg vs) H3 Z3 en3 ∧
            Cont (compL vs f t e (ds.drop (i + 1)) en3) (compL vs f t e ds (wipeE en1 vs)) dn3, fun H3 h => ⟨_, by omega, h⟩, fun x H3 hx => ?_⟩
          obtain ⟨Z3, a3, hdp⟩ := hy x H3 hx
          rw [List.drop_eq_getElem_cons hlt] at q2
          -- the turn as a reckoning
          rw [compL_cons] at q2
          have hall : PostS ⟨X.G, T⟩ W0 (wipe sg vs) H3 Z3 en2 (stepC vs f t e ds[i] en2) fun oy en' sg' H' Z' => Cont (compL vs f t e (ds.drop (i + 1)) en') (compL vs f t e ds (wipeE en1 vs)) (dn ++ oy.toList) := by
            unfold bnd at q2
            cases hst : stepC vs f t e ds[i] en2 with
            | bad => rw [hst] at q2; exact q2
            | err c e5 => rw [hst] at q2; exact q2.elim
            | ok oy e5 =>
              rw [hst] at q2
              dsimp only at q2
              intro sg' H' Z' _
              cases hc : compL vs f t e (ds.drop (i + 1)) e5 with
              | bad => rw [hc] at q2; exact q2
              | err c e6 => rw [hc] at q2; exact q2
              | ok ys e6 =>
                rw [hc] at q2
                have q2 : _ = Res.ok (dn ++ (oy.toList ++ ys)) e6 := q2
                show _ = Res.ok ((dn ++ oy.toList) ++ ys) e6
                rw [List.append_assoc]
                exact q2
          unfold stepC at hall
          refine ⟨en2, Z3, _, a3.rel, hdp, posts_mono (posts_bnd a3.rel hall) fun fl en4 sg4 H4 Z4 _ ⟨a4, q4⟩ he o4 => ?_⟩
          subst he
          refine ⟨(only_wipe o4 hL).trans wipe_wipe, en4, Z4, a4.rel, post_mono (posts_post (posts_bnd a4.rel q4)) fun b en5 H5 Z5 _ ⟨a5, q5⟩ => ?_⟩
          have hw4 : wipe sg4 vs = wipe sg vs := (only_wipe o4 hL).trans wipe_wipe
          have kD : ∀ {sgx : L2.St} {Hx Zx : Hp} {enx : En}, Aft ⟨X.G, T⟩ (wipe sg vs) H2 Z2 en2 sgx Hx Zx enx → Hx D = some (.lst acc) ∧ Zx D = none ∧ ¬ Mine Hx sgx enx D := fun {sgx Hx Zx enx} ax => by
            refine ⟨ax.keep hDl hDm (fun _ e => nomatch e), ?_, fun mq => ?_⟩
            · cases hzx : Zx D with
              | none => rfl
              | some o =>
                rcases ax.new D o hzx with z | z | z
                · rw [hDz] at z; cases z
                · rw [hDl] at z; cases z
                · exact (hDm z).elim
            · rcases ax.own D mq with z | z
              · exact hDm z
              · rw [hDl] at z; cases z
          cases b with
          | false =>
            have q5 : PostS ⟨X.G, T⟩ W0 sg4 H5 Z5 en5 (bnd (wp vs) (fun _ => ret none) en5) _ := q5
            obtain ⟨hw5, a6, q6⟩ := wp_ok a5.rel (posts_bnd a5.rel q5)
            rw [hw4] at a6 q6
            have hc := posts_ret (a := (none : Option PyData)) a6.rel q6
            rw [show (none : Option PyData).toList = [] from rfl, List.append_nil] at hc
            have aX := ((a3.trans a4 r2).trans a5 r2).trans a6 r2
            obtain ⟨d1, d2, d3⟩ := kD aX
            dsimp only
            rw [if_neg Bool.false_ne_true]
            refine ⟨rfl, hlt, wipeE en5 vs, Z5, acc, dn, a6.rel, d1, d2, d3, dpAll_mono aX.zz hacc, Nat.le_succ_of_le hdn, fun a o h => aX.zz a o (hz a o h), a2.trans aX (rel_wipe a1.rel), ?_⟩
            exact hc
          | true =>
            have q5 : PostS ⟨X.G, T⟩ W0 sg4 H5 Z5 en5 (bnd e (fun y => bnd (wp vs) fun _ => ret (some y)) en5) _ := q5
            dsimp only
            rw [if_pos rfl]
            refine ⟨en5, Z5, a5.rel, post_mono (posts_post (posts_bnd a5.rel q5)) fun y en6 H6 Z6 _ ⟨a6, q6⟩ v hv => ?_⟩
            obtain ⟨hw6, a7, q7⟩ := wp_ok a6.rel (posts_bnd a6.rel q6)
            rw [hw4] at a7 q7
            have hc := posts_ret (a := some y) a7.rel q7
            have aX := (((a3.trans a4 r2).trans a5 r2).trans a6 r2).trans a7 r2
            obtain ⟨d1, d2, d3⟩ := kD aX
            have al : acc.length = dn.length := dpa_length hacc
            have a27 := a2.trans aX (rel_wipe a1.rel)
            have r7 := a7.rel
            have up : ∀ a o, a ≠ D → H6 a = some o → upd H6 D (.lst (acc ++ [v])) a = some o := fun a o h e => by rw [upd_ne h]; exact e
            have r8 : Rel ⟨X.G, T⟩ (wipe sg vs) (upd H6 D (.lst (acc ++ [v]))) Z6 (wipeE en6 vs) := by
              refine ⟨fun a o h => up a o (fun z => by rw [z, d2] at h; cases h) (r7.sub a o h), fun j s h => ?_, fun i j s t a h1 h2 h3 h4 h5 h6 => r7.dis i j s t a h1 h2 h3 h4 (pl_upd r7 d3 h1 h5) (pl_upd r7 d3 h2 h6), r7.tab.mono (fun b o h c => up b o (fun z => by rw [z, d1] at h; cases h; rcases c with ⟨_, c⟩ | ⟨_, _, c⟩ <;> cases c) h) fun _ _ _ h => h⟩
              · obtain ⟨w, hw, q⟩ := r7.sl j s h
                refine ⟨w, hw, ?_⟩
                have nb : ∀ b, isOwn s = true → w = some (.ref b) → b ≠ D := fun b ho hwb z => d3 ⟨j, s, h, ho, .inl (by rw [hw, hwb, z])⟩
                cases s with
                | no => trivial
                | sh d => exact q
                | ow d => obtain ⟨b, e1, h1, h2⟩ := q; exact ⟨b, e1, h1, h2.mono (fun o z => up b o (nb b rfl e1) z) fun _ _ z => z⟩
                | io d => obtain ⟨b, e1, h1, h2⟩ := q; exact ⟨b, e1, h1, h2.mono (fun o z => up b o (nb b rfl e1) z) fun _ _ z => z⟩
                | fz d => exact slfz_pl hw q (fun b hb o z => up b o (fun e => d3 ⟨j, _, h, rfl, e ▸ hb⟩) z) (fun _ _ z => z) fun _ _ z => z
            refine ⟨acc, d1, pos_lt (m := i) (by omega) (by omega), rfl, hlt, wipeE en6 vs, Z6, acc ++ [v], dn ++ [y], r8, upd_same, d2, fun m => d3 (mine_upd r7 d3 m), dpa_append (dpAll_mono aX.zz hacc) (.cons hv .nil), by rw [List.length_append, List.length_singleton]; omega, fun a o h => aX.zz a o (hz a o h), ?_, ?_⟩
            · exact ⟨r8, a27.zz, a27.new, fun a o h m => (a27.kp a o h m).trans fun u e => .inl (up a u (fun z => by rw [z, hD] at h; cases h) e), fun b m => a27.own b (mine_upd r7 d3 m), a27.io, fun T t => (a27.tb T t).mono (fun b o h c => up b o (fun z => by rw [z, d1] at h; cases h; rcases c with ⟨_, c⟩ | ⟨_, _, c⟩ <;> cases c) h) fun _ _ _ h => h⟩
            · exact hc
        · have e : i = ds.length := by omega
          subst e
          rw [List.drop_of_length_le (Nat.le_refl _)] at q2
          refine .inl ⟨hJ.stop _ H2 Z2 en2 r2 hz, fin dn en2 H2 Z2 acc ?_ a2 hDl hDz hDm hacc⟩
          have q2 : _ = Res.ok (dn ++ []) en2 := q2
          rw [List.append_nil] at q2
          exact q2
    · rw [if_neg hw] at q1; exact q1.elim
  · rw [if_neg hlen] at q1; exact q1.elim
end
end ZD


namespace ZD
open PySem PySem.Spec PyProof.Rows L2 GxR ZG

section
variable {T : TL} {E : Wish} {X : Cx} {elt tg iter : Expr} {ifs : List Expr} {scope : Scope} {pos : Pos} {own : List (Str × Nat)} {m : M (List PyData)} {f : TgF} {t : M Bool} {e : M PyData} {L : List Nat}
theorem ge_lc (hL : L = own.map (·.2)) (hc : X.calm = true) (hN : X.N.Nodup) (hi : GI T E X tg iter m) (ok : BlkOk X.N X.env.scope scope own)
    (hg : ∀ (s : Shared) (H : Hp) (C : Addr) (cl : List (Str × Addr)) (fp : List Addr), GG T W0 (X.blk s H scope (compEnvC scope cl C X.env) fp) L tg f)
    (ht : ∀ (s : Shared) (H : Hp) (C : Addr) (cl : List (Str × Addr)) (fp : List Addr), GTs T W0 (X.blk s H scope (compEnvC scope cl C X.env) fp) ifs t)
    (he : ∀ (s : Shared) (H : Hp) (C : Addr) (cl : List (Str × Addr)) (fp : List Addr), GD T W0 (X.blk s H scope (compEnvC scope cl C X.env) fp) elt e) (hs : ∀ x, foldedSetIterable iter X.env x = pure x := by intro _; rfl) :
    GE T E X (.ListComp elt [⟨tg, iter, ifs, 0⟩] scope pos) (mcomp L m f t e) := by
  subst hL
  exact pe_imp (pe_lc hc hN hi ok hg ht he hs) fun sg H Q h => tLc_ok (fun i h => h) h
theorem tS_asgN {k : Kx} {i : Nat} {mv : M Vl} {D : Ends} {sg : L2.St} {H : Hp} (h : tS k E (asgN i mv) D sg H) : tV k E mv sg H fun v H1 => D.nx (sg.set i (some v)) H1 := by
  obtain ⟨en, Z, r, q⟩ := h
  refine ⟨en, Z, r, ?_⟩
  unfold asgN bnd at q
  cases hm : mv en with
  | ok x en1 =>
    rw [hm] at q
    intro H1 Z1 a1 v hv
    exact masg_ok a1 hv q
  | err c en1 => rw [hm] at q; exact fun H1 Z1 a1 => q sg H1 Z1 a1
  | bad => rw [hm] at q; exact q
theorem gs_setLc {i : Nat} {y : Str} {py spos : Pos} (hL : L = own.map (·.2)) (hc : X.calm = true) (hN : X.N.Nodup) (hy : X.N[i]? = some y) (hyl : X.env.scope.names.lookup y = some .local)
    (hsw : swapsWith (.ListComp elt [⟨tg, iter, ifs, 0⟩] scope pos) (some (.Name y py)) spos.line X.env = pure true) (hi : GI T E X tg iter m) (ok : BlkOk X.N X.env.scope scope own)
    (hg : ∀ (s : Shared) (H : Hp) (C : Addr) (cl : List (Str × Addr)) (fp : List Addr), GG T W0 (X.blk s H scope (compEnvC scope cl C X.env) fp) L tg f)
    (ht : ∀ (s : Shared) (H : Hp) (C : Addr) (cl : List (Str × Addr)) (fp : List Addr), GTs T W0 (X.blk s H scope (compEnvC scope cl C X.env) fp) ifs t)
    (he : ∀ (s : Shared) (H : Hp) (C : Addr) (cl : List (Str × Addr)) (fp : List Addr), GD T W0 (X.blk s H scope (compEnvC scope cl C X.env) fp) elt e) (hs : ∀ x, foldedSetIterable iter X.env x = pure x := by intro _; rfl) :
    GS T E X (.Assign [.Name y py] (.ListComp elt [⟨tg, iter, ifs, 0⟩] scope pos) spos) (asgN i (mcomp L m f t e)) := by
  subst hL
  exact ps_imp (ps_setLc hc hN hy hyl hsw hi ok hg ht he hs) fun D sg H h => tLc_ok (fun i h => h) (tS_asgN h)
end

def allL (vs : List Nat) (f : TgF) (t : M Bool) (e : M PyData) : List PyData → M Bool
  | [] => ret true
  | d :: ds => bnd (stepC vs f t e d) fun oy => match oy with
    | none => allL vs f t e ds
    | some (.bool true) => allL vs f t e ds
    | some (.bool false) => ret false
    | _ => fail
def mall (vs : List Nat) (m : M (List PyData)) (f : TgF) (t : M Bool) (e : M PyData) : M PyData := bnd m fun ds => bnd (blk vs (allL vs f t e ds)) fun b => ret (.bool b)
theorem codeAmong_more {pos pos' : Pos} {c v : Value} : ∀ (l : List Value), TriplesOk l → codeAmong pos' (l ++ [rawInt pos.line, rawInt pos.col, c]) = some v → codeAmong pos' l = some v ∨ v = c := by
  intro l h
  fun_induction TriplesOk l with
  | case1 =>
    intro e
    simp only [List.nil_append, rawInt, codeAmong] at e
    split at e
    · exact .inr (Option.some.inj e).symm
    · cases e
  | case2 a t b u x rest ih =>
    intro e
    simp only [List.cons_append, codeAmong] at e ⊢
    split at e
    · rename_i hc; rw [if_pos hc]; exact .inl e
    · rename_i hc; rw [if_neg hc]; exact ih h e
  | case3 l h1 h2 => exact h.elim
/-- a table grows: all tables stay all right -/
theorem tabs_new {T : TL} {H Z : Hp} {P c1 P1 : Addr} {pos : Pos} {ob : Obj} {pt : Array Value} (t : Tabs T H Z) (hs : ∀ a o, Z a = some o → H a = some o) (eo : CodeOb ob c1 P1) (g1 : H P = some (.tbl pt)) (g3 : TriplesOk pt.toList) (_e3 : codeAmong pos pt.toList = none) (e4 : H c1 = none) (e5 : H P1 = none) (e6 : c1 ≠ P1) :
    Tabs T (upd (upd (upd H P (.tbl (pt ++ #[rawInt pos.line, rawInt pos.col, .ref c1]))) c1 (cdx ob)) P1 (.tbl #[])) Z := by
  obtain ⟨S, h1, h2⟩ := t
  generalize hH2 : upd (upd (upd H P (.tbl (pt ++ #[rawInt pos.line, rawInt pos.col, .ref c1]))) c1 (cdx ob)) P1 (.tbl #[]) = H2
  have m1 : ∀ b u, H b = some u → b ≠ c1 := fun b u e z => by rw [z, e4] at e; cases e
  have m2 : ∀ b u, H b = some u → b ≠ P1 := fun b u e z => by rw [z, e5] at e; cases e
  have atP : H2 P = some (.tbl (pt ++ #[rawInt pos.line, rawInt pos.col, .ref c1])) := by rw [← hH2, upd_ne (m2 _ _ g1), upd_ne (m1 _ _ g1), upd_same]
  have at1 : Cdx H2 c1 P1 := ⟨ob, by rw [← hH2, upd_ne e6, upd_same], eo⟩
  have at2 : H2 P1 = some (.tbl #[]) := by rw [← hH2, upd_same]
  have at_ : ∀ b u, b ≠ P → H b = some u → H2 b = some u := fun b u hb e => by rw [← hH2, upd_ne (m2 _ _ e), upd_ne (m1 _ _ e), upd_ne hb]; exact e
  have up : ∀ c P', Cdx H c P' → Cdx H2 c P' := fun c P' ⟨o, e, z⟩ => ⟨o, at_ c _ (fun z => by rw [z, g1] at e; cases e) e, z⟩
  have zP1 : Z P1 = none := by
    cases e : Z P1 with
    | none => rfl
    | some u => rw [hs P1 u e] at e5; cases e5
  refine ⟨fun a => S a ∨ a = P1, fun q hq => ⟨.inl (h1 q hq).1, fun c e => up _ _ ((h1 q hq).2 c e)⟩, fun a ha => ?_⟩
  rcases ha with ha | rfl
  · obtain ⟨ps, k1, k2, k3, k4⟩ := h2 a ha
    by_cases eP : a = P
    · subst eP
      rw [g1] at k1
      cases k1
      refine ⟨_, atP, k2, by simpa using TriplesOk_snoc _ _ _ _ g3, fun pos' v e => ?_⟩
      have e : codeAmong pos' (pt.toList ++ [rawInt pos.line, rawInt pos.col, .ref c1]) = some v := by simpa using e
      rcases codeAmong_more _ g3 e with q | q
      · obtain ⟨c2, P2, q1, q2, q3⟩ := k4 pos' v q
        exact ⟨c2, P2, q1, up _ _ q2, .inl q3⟩
      · exact ⟨c1, P1, q, at1, .inr rfl⟩
    · refine ⟨ps, at_ a _ eP k1, k2, k3, fun pos' v e => ?_⟩
      obtain ⟨c2, P2, q1, q2, q3⟩ := k4 pos' v e
      exact ⟨c2, P2, q1, up _ _ q2, .inl q3⟩
  · exact ⟨_, at2, zP1, trivial, fun pos' v e => by simp [codeAmong] at e⟩
/-- the table at P is all right for a code at pos -/
theorem tab_w {T : TL} {H Z : Hp} {P : Addr} {oc : Option Addr} (t : Tabs T H Z) (hs : ∀ a o, Z a = some o → H a = some o) (hP : (oc, P) ∈ T) (pos : Pos) : ∃ S : Addr → Prop, (∃ pt : Array Value, H P = some (.tbl pt) ∧ TriplesOk pt.toList ∧ ∀ v, codeAmong pos pt.toList = some v → ∃ c1 P1, v = .ref c1 ∧ Cdx H c1 P1 ∧ S P1) ∧
    ∀ c1 P1 H2, TabN pos P S H c1 P1 H2 → Z P = none ∧ Tabs ((some c1, P1) :: T) H2 Z := by
  obtain ⟨S, h1, h2⟩ := t
  obtain ⟨pt, g1, g2, g3, g4⟩ := h2 P (h1 _ hP).1
  refine ⟨S, ⟨pt, g1, g3, fun v e => g4 pos v e⟩, fun c1 P1 H2 hn => ⟨g2, ?_⟩⟩
  cases hn with
  | hit e1 e2 =>
    refine ⟨S, fun q hq => ?_, h2⟩
    rcases List.mem_cons.mp hq with rfl | hq
    · exact ⟨e2, fun c e => by cases e; exact e1⟩
    · exact h1 q hq
  | @new pt' _ _ ob eo e1 e2 e3 e4 e5 e6 =>
    rw [g1] at e1; cases e1
    generalize hH2 : upd (upd (upd H P (.tbl (pt ++ #[rawInt pos.line, rawInt pos.col, .ref c1]))) c1 (cdx ob)) P1 (.tbl #[]) = H2
    have m1 : ∀ b u, H b = some u → b ≠ c1 := fun b u e z => by rw [z, e4] at e; cases e
    have m2 : ∀ b u, H b = some u → b ≠ P1 := fun b u e z => by rw [z, e5] at e; cases e
    have atP : H2 P = some (.tbl (pt ++ #[rawInt pos.line, rawInt pos.col, .ref c1])) := by rw [← hH2, upd_ne (m2 _ _ g1), upd_ne (m1 _ _ g1), upd_same]
    have at1 : Cdx H2 c1 P1 := ⟨ob, by rw [← hH2, upd_ne e6, upd_same], eo⟩
    have at2 : H2 P1 = some (.tbl #[]) := by rw [← hH2, upd_same]
    have at_ : ∀ b u, b ≠ P → H b = some u → H2 b = some u := fun b u hb e => by rw [← hH2, upd_ne (m2 _ _ e), upd_ne (m1 _ _ e), upd_ne hb]; exact e
    have up : ∀ c P', Cdx H c P' → Cdx H2 c P' := fun c P' ⟨o, e, z⟩ => ⟨o, at_ c _ (fun z => by rw [z, g1] at e; cases e) e, z⟩
    refine ⟨fun a => S a ∨ a = P1, fun q hq => ?_, fun a ha => ?_⟩
    · rcases List.mem_cons.mp hq with rfl | hq
      · exact ⟨.inr rfl, fun c e => by cases e; exact at1⟩
      · exact ⟨.inl (h1 q hq).1, fun c e => up _ _ ((h1 q hq).2 c e)⟩
    · by_cases eP : a = P
      · subst eP
        refine ⟨_, atP, g2, by simpa using TriplesOk_snoc _ _ _ _ g3, fun pos' v e => ?_⟩
        have e : codeAmong pos' (pt.toList ++ [rawInt pos.line, rawInt pos.col, .ref c1]) = some v := by simpa using e
        rcases codeAmong_more _ g3 e with q | q
        · obtain ⟨c2, P2, q1, q2, q3⟩ := g4 pos' v q
          exact ⟨c2, P2, q1, up _ _ q2, .inl q3⟩
        · exact ⟨c1, P1, q, at1, .inr rfl⟩
      · rcases ha with ha | rfl
        · obtain ⟨ps, k1, k2, k3, k4⟩ := h2 a ha
          refine ⟨ps, at_ a _ eP k1, k2, k3, fun pos' v e => ?_⟩
          obtain ⟨c2, P2, q1, q2, q3⟩ := k4 pos' v e
          exact ⟨c2, P2, q1, up _ _ q2, .inl q3⟩
        · refine ⟨_, at2, ?_, trivial, fun pos' v e => by simp [codeAmong] at e⟩
          cases e : Z a with
          | none => rfl
          | some u => rw [hs a u e] at e5; cases e5
theorem aft_tab {k : Kx} {sg : L2.St} {H H2 Z : Hp} {en : En} {P : Addr} {pos : Pos} {G : Addr → Prop} {c1 P1 : Addr} (r : Rel k sg H Z en) (zP : Z P = none) (h : TabN pos P G H c1 P1 H2) (t2 : Tabs ((some c1, P1) :: k.T) H2 Z) : Aft k sg H Z en sg H2 Z en := by
  cases h with
  | hit e1 e2 => exact Aft.refl r
  | @new pt _ _ ob eo e1 e2 e3 e4 e5 e6 =>
    revert t2
    generalize hH2 : upd (upd (upd H P (.tbl (pt ++ #[rawInt pos.line, rawInt pos.col, .ref c1]))) c1 (cdx ob)) P1 (.tbl #[]) = H2
    intro t2
    have m1 : ∀ b u, H b = some u → b ≠ c1 := fun b u e z => by rw [z, e4] at e; cases e
    have m2 : ∀ b u, H b = some u → b ≠ P1 := fun b u e z => by rw [z, e5] at e; cases e
    have atP : H2 P = some (.tbl (pt ++ #[rawInt pos.line, rawInt pos.col, .ref c1])) := by rw [← hH2, upd_ne (m2 _ _ e1), upd_ne (m1 _ _ e1), upd_same]
    have at_ : ∀ b u, b ≠ P → H b = some u → H2 b = some u := fun b u hb e => by rw [← hH2, upd_ne (m2 _ _ e), upd_ne (m1 _ _ e), upd_ne hb]; exact e
    have hu : ∀ a, Mine H sg en a → ∀ o, H a = some o → H2 a = some o := fun a m o q => by
      obtain ⟨_, _, n⟩ := mine_there r m
      exact at_ a o (fun z => by rw [z] at q n; exact n _ e1 _ rfl) q
    refine ⟨⟨fun a o e => at_ a o (fun z => by rw [z, zP] at e; cases e) (r.sub a o e), fun i s e => ?_, fun i j s t a h1 h2 h3 h4 h5 h6 => r.dis i j s t a h1 h2 h3 h4 (pl_mono r hu h1 h5) (pl_mono r hu h2 h6), t2.tail⟩, fun _ _ e => e, fun _ _ e => .inl e, fun a o e _ => ?_, fun _ m => .inl (mine_mono r hu m), fun i d e => ⟨⟨d, e⟩, rfl⟩, fun T t => ?_⟩
    · obtain ⟨v, hv, q⟩ := r.sl i s e
      exact ⟨v, hv, sl_mono hv q (fun a ho hp => hu a ⟨i, s, e, ho, hp⟩) (fun _ _ _ z => z) fun _ _ z => z⟩
    · by_cases ha : a = P
      · subst ha
        rw [e1] at e; cases e
        exact .inr ⟨_, _, rfl, atP⟩
      · exact .inl (at_ a o ha e)
    · rw [← hH2]
      exact tabs_new t r.sub eo e1 e2 e3 e4 e5 e6
theorem aft_tail {k : Kx} {q : Option Addr × Addr} {sg sg' : L2.St} {H H' Z Z' : Hp} {en en' : En} (a : Aft ⟨k.K, q :: k.T⟩ sg H Z en sg' H' Z' en') : Aft k sg H Z en sg' H' Z' en' :=
  ⟨⟨a.rel.sub, a.rel.sl, a.rel.dis, a.rel.tab.tail⟩, a.zz, a.new, a.kp, a.own, a.io, a.tb⟩
theorem rel_tabs {k : Kx} {T : TL} {sg : L2.St} {H Z : Hp} {en : En} (r : Rel k sg H Z en) (t : Tabs T H Z) : Rel ⟨k.K, T⟩ sg H Z en := ⟨r.sub, r.sl, r.dis, t⟩
/-- the running def's code at c, its table at P -/
structure CdIn (T : TL) (X : Cx) (c P : Addr) : Prop where
  code : X.env.code = .ref c
  bm : ∃ P0, X.base.BuiltinsAt X.mg P0
  mem : ((none, P) ∈ T ∧ PySem.W.CodeHd X.base c P) ∨ (some c, P) ∈ T
theorem cdin_top {T : TL} {X : Cx} {c P : Addr} (hP : (none, P) ∈ T) (TB : TabB X.base X.mg c P) (hc : X.env.code = .ref c) : CdIn T X c P := ⟨hc, ⟨_, TB.bm⟩, .inl ⟨hP, TB.code⟩⟩
theorem CdIn.w {T : TL} {X : Cx} {c P : Addr} {H Z : Hp} (h : CdIn T X c P) (t : Tabs T H Z) : (∃ oc, (oc, P) ∈ T) ∧ CodeAt X c P H := by
  rcases h.mem with ⟨h1, h2⟩ | h1
  · exact ⟨⟨_, h1⟩, .inl h2⟩
  · obtain ⟨S, g1, _⟩ := t
    exact ⟨⟨_, h1⟩, .inr ((g1 _ h1).2 c rfl)⟩

section
variable {T : TL} {E : Wish} {X : Cx} {elt tg iter : Expr} {ifs : List Expr} {scope : Scope} {own : List (Str × Nat)} {m : M (List PyData)} {f : TgF} {t : M Bool} {e : M PyData} {L : List Nat} {c P : Addr} {gpos : Pos}
/-- the two results of a turn, for all and any: go on (true), or end -/
theorem tGen_ok {vs : List Nat} (b0 : Bool) {lp : List PyData → M Bool} (h0 : lp [] = ret b0)
    (hl : ∀ d ds, lp (d :: ds) = bnd (stepC vs f t e d) fun oy => match oy with
      | none => lp ds
      | some (.bool b) => if b = b0 then lp ds else ret (!b0)
      | _ => fail)
    (hL : ∀ i ∈ L, i ∈ vs) (hP : CdIn T X c P) {sg : L2.St} {H : Hp} {Q : VK}
    (h : tD ⟨X.G, T⟩ E (bnd m fun ds => bnd (blk vs (lp ds)) fun b => ret (.bool b)) sg H Q) :
    tGen X gpos c P (tI ⟨X.G, T⟩ E m) (fun c1 P1 => tG ⟨X.G, (some c1, P1) :: T⟩ W0 L f) (fun c1 P1 => tT ⟨X.G, (some c1, P1) :: T⟩ W0 t) (fun c1 P1 => tD ⟨X.G, (some c1, P1) :: T⟩ W0 e) vs (fun y H Nx => ∃ b : Bool, y = .bl b ∧ if b = b0 then Nx H else Q (.bl (!b0)) H) (fun H => Q (.bl b0) H) sg H := by
  obtain ⟨en, Z, r, q⟩ := h
  refine ⟨en, Z, r, post_mono (post_bnd r q) fun ds en1 H1 Z1 _ ⟨a1, q1⟩ J hJ => ?_⟩
  obtain ⟨⟨oc, hm⟩, hw1⟩ := hP.w a1.rel.tab
  obtain ⟨S, hS, hN⟩ := tab_w a1.rel.tab a1.rel.sub hm gpos
  refine ⟨S, ⟨hw1, hS⟩, fun c1 P1 Ht htb => ?_⟩
  obtain ⟨zP, tbs⟩ := hN c1 P1 Ht htb
  have at1 := aft_tab a1.rel zP htb tbs
  have aT : ∀ {sg sg' : L2.St} {H H' Z Z' : Hp} {en en' : En}, Aft ⟨X.G, (some c1, P1) :: T⟩ sg H Z en sg' H' Z' en' → Aft ⟨X.G, T⟩ sg H Z en sg' H' Z' en' := fun a => aft_tail (k := ⟨X.G, T⟩) a
  unfold bnd blk at q1
  by_cases hw : wipeable en1 vs = true
  · rw [if_pos hw] at q1
    have r0t : Rel ⟨X.G, (some c1, P1) :: T⟩ (wipe sg vs) Ht Z1 (wipeE en1 vs) := rel_tabs (k := ⟨X.G, T⟩) (rel_wipe at1.rel) tbs
    have fin : ∀ (b : Bool) (en' : En) (H' Z' : Hp), lp ds (wipeE en1 vs) = .ok b en' → Aft ⟨X.G, (some c1, P1) :: T⟩ (wipe sg vs) Ht Z1 (wipeE en1 vs) (wipe sg vs) H' Z' en' → Q (.bl b) H' := by
      intro b en' H' Z' hc ab
      rw [hc] at q1
      have b' := blk_back at1.rel hw (fun _ _ h => h) (fun _ h => h) (aT ab)
      exact q1 H' Z' (at1.trans b' a1.rel) (.bl b) (.bl b)
    refine ⟨fun i m' H2 => m' = ds.length - i ∧ i ≤ ds.length ∧ ∃ en2 Z2, Rel ⟨X.G, (some c1, P1) :: T⟩ (wipe sg vs) H2 Z2 en2 ∧ (∀ a o, Z1 a = some o → Z2 a = some o) ∧ Aft ⟨X.G, (some c1, P1) :: T⟩ (wipe sg vs) Ht Z1 (wipeE en1 vs) (wipe sg vs) H2 Z2 en2 ∧
      lp ds (wipeE en1 vs) = lp (ds.drop i) en2 ∧ (∃ b en', lp (ds.drop i) en2 = .ok b en'), ⟨ds.length, by simp, Nat.zero_le _, wipeE en1 vs, Z1, r0t, fun _ _ h => h, Aft.refl r0t, rfl, ?_⟩, ?_⟩
    · rw [List.drop_zero]
      cases hc : lp ds (wipeE en1 vs) with
      | ok b en' => exact ⟨b, en', rfl⟩
      | err c en' => rw [hc] at q1; exact q1.elim
      | bad => rw [hc] at q1; exact q1.elim
    · rintro i m' H2 ⟨rfl, hi', en2, Z2, r2, hz, a2, hfull, b9, en9, hok⟩
      by_cases hlt : i < ds.length
      · have hd : ds[i]? = some ds[i] := List.getElem?_eq_getElem hlt
        obtain ⟨hgo, hy⟩ := hJ.go (wipe sg vs) H2 Z2 en2 i _ r2 hz hd
        refine .inr ⟨hgo, fun H3 => ds.length - (i + 1) = ds.length - (i + 1) ∧ i + 1 ≤ ds.length ∧ ∃ en3 Z3, Rel ⟨X.G, (some c1, P1) :: T⟩ (wipe sg vs) H3 Z3 en3 ∧ (∀ a o, Z1 a = some o → Z3 a = some o) ∧ Aft ⟨X.G, (some c1, P1) :: T⟩ (wipe sg vs) Ht Z1 (wipeE en1 vs) (wipe sg vs) H3 Z3 en3 ∧
          lp ds (wipeE en1 vs) = lp (ds.drop (i + 1)) en3 ∧ (∃ b en', lp (ds.drop (i + 1)) en3 = .ok b en'), fun H3 h => ⟨_, by omega, h⟩, fun x H3 hx => ?_⟩
        obtain ⟨Z3, a3, hdp⟩ := hy x H3 hx
        rw [List.drop_eq_getElem_cons hlt, hl] at hfull hok
        have hall : PostS ⟨X.G, (some c1, P1) :: T⟩ W0 (wipe sg vs) H3 Z3 en2 (stepC vs f t e ds[i] en2) fun oy en' sg' H' Z' => match oy with
            | none => lp ds (wipeE en1 vs) = lp (ds.drop (i + 1)) en' ∧ (∃ b en9, lp (ds.drop (i + 1)) en' = .ok b en9)
            | some (.bool b) => if b = b0 then (lp ds (wipeE en1 vs) = lp (ds.drop (i + 1)) en' ∧ (∃ b en9, lp (ds.drop (i + 1)) en' = .ok b en9)) else lp ds (wipeE en1 vs) = .ok (!b0) en'
            | _ => False := by
          unfold bnd at hfull hok
          cases hst : stepC vs f t e ds[i] en2 with
          | bad => rw [hst] at hok; cases hok
          | err c e5 => rw [hst] at hok; cases hok
          | ok oy e5 =>
            rw [hst] at hfull hok
            intro sg' H' Z' _
            cases oy with
            | none => exact ⟨hfull, b9, en9, hok⟩
            | some y =>
              cases y with
              | bool b =>
                by_cases hb : b = b0
                · simp only [hb, if_true] at hfull hok ⊢
                  exact ⟨hfull, b9, en9, hok⟩
                · simp only [hb, if_false] at hfull hok ⊢
                  exact hfull
              | _ => cases hok
        unfold stepC at hall
        refine ⟨en2, Z3, _, a3.rel, hdp, posts_mono (posts_bnd a3.rel hall) fun fl en4 sg4 H4 Z4 _ ⟨a4, q4⟩ he o4 => ?_⟩
        subst he
        have hw4 : wipe sg4 vs = wipe sg vs := (only_wipe o4 hL).trans wipe_wipe
        refine ⟨hw4, en4, Z4, a4.rel, post_mono (posts_post (posts_bnd a4.rel q4)) fun b en5 H5 Z5 _ ⟨a5, q5⟩ => ?_⟩
        cases b with
        | false =>
          have q5 : PostS ⟨X.G, (some c1, P1) :: T⟩ W0 sg4 H5 Z5 en5 (bnd (wp vs) (fun _ => ret none) en5) _ := q5
          obtain ⟨hw5, a6, q6⟩ := wp_ok a5.rel (posts_bnd a5.rel q5)
          rw [hw4] at a6 q6
          obtain ⟨hc1, hc2⟩ := posts_ret (a := (none : Option PyData)) a6.rel q6
          have aX := ((a3.trans a4 r2).trans a5 r2).trans a6 r2
          dsimp only
          rw [if_neg Bool.false_ne_true]
          exact ⟨rfl, hlt, wipeE en5 vs, Z5, a6.rel, fun a o h => aX.zz a o (hz a o h), a2.trans aX r0t, hc1, hc2⟩
        | true =>
          have q5 : PostS ⟨X.G, (some c1, P1) :: T⟩ W0 sg4 H5 Z5 en5 (bnd e (fun y => bnd (wp vs) fun _ => ret (some y)) en5) _ := q5
          dsimp only
          rw [if_pos rfl]
          refine ⟨en5, Z5, a5.rel, post_mono (posts_post (posts_bnd a5.rel q5)) fun y en6 H6 Z6 _ ⟨a6, q6⟩ v hv => ?_⟩
          obtain ⟨hw6, a7, q7⟩ := wp_ok a6.rel (posts_bnd a6.rel q6)
          rw [hw4] at a7 q7
          have hc := posts_ret (a := some y) a7.rel q7
          have aX := (((a3.trans a4 r2).trans a5 r2).trans a6 r2).trans a7 r2
          cases y with
          | bool b =>
            cases hv
            refine ⟨b, rfl, ?_⟩
            by_cases hb : b = b0
            · simp only [hb, if_true] at hc ⊢
              exact ⟨trivial, hlt, wipeE en6 vs, Z6, a7.rel, fun a o h => aX.zz a o (hz a o h), a2.trans aX r0t, hc.1, hc.2⟩
            · simp only [hb, if_false] at hc ⊢
              exact fin (!b0) _ H6 Z6 hc (a2.trans aX r0t)
          | _ => exact hc.elim
      · have e : i = ds.length := by omega
        subst e
        rw [List.drop_of_length_le (Nat.le_refl _), h0] at hfull
        exact .inl ⟨hJ.stop _ H2 Z2 en2 r2 hz, fin b0 en2 H2 Z2 hfull a2⟩
  · rw [if_neg hw] at q1; exact q1.elim

theorem allL_cons (vs : List Nat) (f : TgF) (t : M Bool) (e : M PyData) (d : PyData) (ds : List PyData) : allL vs f t e (d :: ds) = bnd (stepC vs f t e d) fun oy => match oy with
      | none => allL vs f t e ds
      | some (.bool b) => if b = true then allL vs f t e ds else ret (!true)
      | _ => fail := by
  rw [allL]
  congr 1
  funext oy
  cases oy with
  | none => rfl
  | some y =>
    cases y with
    | bool b => cases b <;> rfl
    | _ => rfl
variable {k : Nat} {p pos : Pos}
theorem gd_all (hL : L = own.map (·.2)) (hD : CdIn T X c P) (hr : Room (k + 2) X.A) (hN : X.N.Nodup) (hc : X.calm = true) (hgl : Gl X "all") (hm : X.mg "all" = none)
    (hco : scope.isCoroutine = false) (h0 : scope.names.lookup (".0" : Str) = some NameKind.local) (ok : BlkOk X.N X.env.scope scope own) (hi : GI T E X tg iter m)
    (hg : ∀ (A : Around) (s : Shared) (H : Hp) (L' c1 P1 : Addr) (fp : List Addr), Room k A → GG ((some c1, P1) :: T) W0 (gcx X A s H scope (gxEnv X scope L' (.ref c1)) fp) L tg f)
    (ht : ∀ (A : Around) (s : Shared) (H : Hp) (L' c1 P1 : Addr) (fp : List Addr), Room k A → GTs ((some c1, P1) :: T) W0 (gcx X A s H scope (gxEnv X scope L' (.ref c1)) fp) ifs t)
    (he : ∀ (A : Around) (s : Shared) (H : Hp) (L' c1 P1 : Addr) (fp : List Addr), Room k A → GD ((some c1, P1) :: T) W0 (gcx X A s H scope (gxEnv X scope L' (.ref c1)) fp) elt e)
    (hs : ∀ v, genFold iter X.env v = pure v := by intro _; rfl) (hb : bootBuiltins "all" = some (.builtin "all") := by decide +kernel)
    (hse : starEach [.GeneratorExp elt [⟨tg, iter, ifs, 0⟩] scope gpos] X.env = (false, eval (.GeneratorExp elt [⟨tg, iter, ifs, 0⟩] scope gpos) X.env) :: starEach [] X.env := by rfl) :
    GD T E X (.Call (.Name "all" p) [.GeneratorExp elt [⟨tg, iter, ifs, 0⟩] scope gpos] [] pos) (mall L m f t e) := by
  subst hL
  refine pe_imp (pe_allG (c := c) (P := P) (own := own) (wi := tI ⟨X.G, T⟩ E m) (g := fun c1 P1 => tG ⟨X.G, (some c1, P1) :: T⟩ W0 (own.map (·.2)) f) (tt := fun c1 P1 => tT ⟨X.G, (some c1, P1) :: T⟩ W0 t) (te := fun c1 P1 => tD ⟨X.G, (some c1, P1) :: T⟩ W0 e) hr hN hc hgl hm hD.bm hD.code hco h0 ok hi hg ht he hs hb hse) fun sg H Q h => ?_
  exact tGen_ok (X := X) (gpos := gpos) true (lp := allL (own.map (·.2)) f t e) rfl (allL_cons _ f t e) (fun i h => h) hD h
end
end ZD


namespace ZD
open PySem PySem.Spec PyProof.Rows L2 GxR ZG

abbrev Fn := List Sl → Res Vl
def run (n : Nat) (m : M Fl) (ps : List Sl) : Res Vl := match m (ps ++ List.replicate (n - ps.length) .no) with
  | .ok (.rt x) en => .ok x en
  | .ok .nx en => .ok (.sh .none) en
  | .ok _ _ => .bad
  | .err c en => .err c en
  | .bad => .bad
def okP : Sl → Bool
  | .sh _ => true
  | .io _ => true
  | .no => true
  | _ => false
/-- the parameters behind the call: what is changed here has its new tree -/
def outP : List Sl → En → List Sl
  | .io d :: ps, en => (match en with
      | .io d' :: _ => .io d'
      | _ => .io d) :: outP ps en.tail
  | s :: ps, en => s :: outP ps en.tail
  | [], _ => []
theorem outP_len : ∀ (ps : List Sl) (en : En), (outP ps en).length = ps.length
  | [], _ => rfl
  | .io d :: ps, en => by simp [outP, outP_len ps]
  | .no :: ps, en => by simp [outP, outP_len ps]
  | .sh d :: ps, en => by simp [outP, outP_len ps]
  | .ow d :: ps, en => by simp [outP, outP_len ps]
  | .fz d :: ps, en => by simp [outP, outP_len ps]
theorem outP_get : ∀ (ps : List Sl) (en : En) (i : Nat) (s : Sl), (outP ps en)[i]? = some s → ∃ s0, ps[i]? = some s0 ∧ ((∃ d d', s0 = .io d ∧ s = .io d' ∧ (en[i]? = some (.io d') ∨ ∀ d'', en[i]? ≠ some (.io d''))) ∨ ((∀ d, s0 ≠ .io d) ∧ s = s0))
  | [], _, i, s, h => by simp [outP] at h
  | p :: ps, en, 0, s, h => by
    refine ⟨p, rfl, ?_⟩
    cases p with
    | io d =>
      cases en with
      | nil => simp [outP] at h; exact .inl ⟨d, d, rfl, h.symm, .inr fun _ z => by simp at z⟩
      | cons e en =>
        cases e with
        | io d' => simp [outP] at h; exact .inl ⟨d, d', rfl, h.symm, .inl rfl⟩
        | no => simp [outP] at h; exact .inl ⟨d, d, rfl, h.symm, .inr fun _ z => by simp at z⟩
        | sh x => simp [outP] at h; exact .inl ⟨d, d, rfl, h.symm, .inr fun _ z => by simp at z⟩
        | ow x => simp [outP] at h; exact .inl ⟨d, d, rfl, h.symm, .inr fun _ z => by simp at z⟩
        | fz fz_d => simp [outP] at h; exact .inl ⟨d, d, rfl, h.symm, .inr fun _ z => by simp at z⟩
    | no => simp [outP] at h; exact .inr ⟨(fun _ z => by cases z), h.symm⟩
    | sh d => simp [outP] at h; exact .inr ⟨(fun _ z => by cases z), h.symm⟩
    | ow d => simp [outP] at h; exact .inr ⟨(fun _ z => by cases z), h.symm⟩
    | fz fz_d => simp [outP] at h; exact .inr ⟨(fun _ z => by cases z), h.symm⟩
  | p :: ps, en, i + 1, s, h => by
    have h' : (outP ps en.tail)[i]? = some s := by
      cases p <;> simpa [outP] using h
    obtain ⟨s0, h1, h2⟩ := outP_get ps en.tail i s h'
    refine ⟨s0, by simpa using h1, ?_⟩
    have e : en.tail[i]? = en[i + 1]? := by cases en <;> simp
    rw [e] at h2
    exact h2
/-- the promise of a def: called with ps it gives what F says -/
def spF (k : Kx) (np : Nat) (F : Fn) : Sp := fun vs H Q E => vs.length = np ∧ ∃ ps Z, ps.length = np ∧ ps.all okP = true ∧ Rel k (vs.map some) H Z ps ∧
  match F ps with
  | .ok x en' => ∀ v H' Z', Aft k (vs.map some) H Z ps (vs.map some) H' Z' (outP ps en') → VlOk k (vs.map some) H ps (vs.map some) H' Z' (outP ps en') v x → Q v H'
  | _ => False

section
variable {k : Kx} {H H' Z Z' : Hp} {ps : List Sl} {vs : List V} {N : List Str} {en' : En} {sg' : L2.St}
theorem start_get {i : Nat} (h : i < vs.length) : (start N vs)[i]? = (vs.map some)[i]? := by
  unfold L2.start
  rw [List.getElem?_append_left (by simpa using h)]
theorem ps_get {i : Nat} {n : Nat} {s : Sl} (h : (ps ++ List.replicate n Sl.no)[i]? = some s) : (i < ps.length ∧ ps[i]? = some s) ∨ (ps.length ≤ i ∧ i < ps.length + n ∧ s = .no) := by
  by_cases hi : i < ps.length
  · rw [List.getElem?_append_left hi] at h; exact .inl ⟨hi, h⟩
  · rw [List.getElem?_append_right (by omega), List.getElem?_replicate] at h
    split at h
    · cases h; exact .inr ⟨by omega, by omega, rfl⟩
    · cases h
theorem mine_ps {a : Addr} {n : Nat} (hl : ps.length = vs.length) (m : Mine H (start N vs) (ps ++ List.replicate n .no) a) : Mine H (vs.map some) ps a := by
  obtain ⟨i, s, h1, h2, h3⟩ := m
  rcases ps_get h1 with ⟨h4, h5⟩ | ⟨_, _, rfl⟩
  · exact ⟨i, s, h5, h2, pl_sg (start_get (N := N) (by omega)) h3⟩
  · cases h2
theorem rel_start (hl : ps.length = vs.length) (hN : vs.length ≤ N.length) (r : Rel k (vs.map some) H Z ps) : Rel k (start N vs) H Z (ps ++ List.replicate (N.length - ps.length) .no) where
  sub := r.sub
  sl := fun i s h => by
    rcases ps_get h with ⟨h4, h5⟩ | ⟨h4, h5, rfl⟩
    · obtain ⟨v, hv, q⟩ := r.sl i s h5
      exact ⟨v, by rw [start_get (by omega)]; exact hv, q⟩
    · refine ⟨none, ?_, trivial⟩
      unfold L2.start
      rw [List.getElem?_append_right (by simp; omega), List.getElem?_replicate, if_pos (by simp; omega)]
  dis := fun i j s t a h1 h2 h3 h4 h5 h6 => by
    rcases ps_get h1 with ⟨g1, g2⟩ | ⟨_, _, rfl⟩
    · rcases ps_get h2 with ⟨g3, g4⟩ | ⟨_, _, rfl⟩
      · exact r.dis i j s t a g2 g4 h3 h4 (pl_sg (start_get (N := N) (by omega)) h5) (pl_sg (start_get (N := N) (by omega)) h6)
      · cases h4
    · cases h3
  tab := r.tab
theorem okP_io {s : Sl} (h : okP s = true) (ho : isOwn s = true) : ∃ d, s = .io d := by
  cases s with
  | io d => exact ⟨d, rfl⟩
  | no => cases ho
  | sh d => cases ho
  | ow d => cases h
  | fz fz_d => cases h
/-- behind the body, as the caller sees it -/
theorem aft_out (hl : ps.length = vs.length) (hN : vs.length ≤ N.length) (hp : ps.all okP = true) (r : Rel k (vs.map some) H Z ps) (a : Aft k (start N vs) H Z (ps ++ List.replicate (N.length - ps.length) .no) sg' H' Z' en') :
    Aft k (vs.map some) H Z ps (vs.map some) H' Z' (outP ps en') ∧ ∀ b, Mine H' (vs.map some) (outP ps en') b → Mine H' sg' en' b := by
  have key : ∀ (i : Nat) (s : Sl), (outP ps en')[i]? = some s → (∃ d d', ps[i]? = some (.io d) ∧ s = .io d' ∧ en'[i]? = some (.io d') ∧ sg'[i]? = (vs.map some)[i]?) ∨ (isOwn s = false ∧ ps[i]? = some s) := fun i s h => by
    obtain ⟨s0, h1, h2⟩ := outP_get ps en' i s h
    have hi : i < ps.length := (List.getElem?_eq_some_iff.mp h1).1
    rcases h2 with ⟨d, d', rfl, rfl, h3⟩ | ⟨h3, rfl⟩
    · have hio : (ps ++ List.replicate (N.length - ps.length) Sl.no)[i]? = some (.io d) := by rw [List.getElem?_append_left hi]; exact h1
      obtain ⟨⟨d'', h4⟩, h5⟩ := a.io i d hio
      rw [start_get (by omega)] at h5
      rcases h3 with h3 | h3
      · exact .inl ⟨d, d', h1, rfl, h3, h5⟩
      · exact absurd h4 (h3 d'')
    · refine .inr ⟨?_, h1⟩
      have ho := List.all_eq_true.mp hp s (List.mem_of_getElem? h1)
      cases hs : isOwn s with
      | false => rfl
      | true =>
        obtain ⟨d, e⟩ := okP_io ho hs
        exact absurd e (h3 d)
  have mo : ∀ b, Mine H' (vs.map some) (outP ps en') b → Mine H' sg' en' b := fun b ⟨i, s, h1, h2, h3⟩ => by
    rcases key i s h1 with ⟨d, d', _, rfl, h6, h7⟩ | ⟨h4, _⟩
    · exact ⟨i, _, h6, rfl, pl_sg h7.symm h3⟩
    · rw [h4] at h2; cases h2
  refine ⟨⟨⟨a.rel.sub, fun i s h => ?_, fun i j s t b h1 h2 h3 h4 h5 h6 => ?_, a.rel.tab⟩, a.zz, fun b o h => ?_, fun b o h m => a.kp b o h (fun q => m (mine_ps hl q)), fun b h => ?_, fun i d h => ?_, a.tb⟩, mo⟩
  · rcases key i s h with ⟨d, d', _, rfl, h6, h7⟩ | ⟨h4, h5⟩
    · obtain ⟨v, hv, q⟩ := a.rel.sl i _ h6
      exact ⟨v, by rw [← h7]; exact hv, q⟩
    · obtain ⟨v, hv, q⟩ := r.sl i s h5
      refine ⟨v, hv, ?_⟩
      cases s with
      | no => trivial
      | sh d => obtain ⟨x, e, q⟩ := q; exact ⟨x, e, dp_mono a.zz q⟩
      | ow d => cases h4
      | io d => cases h4
      | fz d => cases h4
  · rcases key i s h1 with ⟨d, d', _, rfl, h7, h8⟩ | ⟨h7, _⟩
    · rcases key j t h2 with ⟨e, e', _, rfl, h9, h10⟩ | ⟨h9, _⟩
      · exact a.rel.dis i j _ _ b h7 h9 rfl rfl (pl_sg h8.symm h5) (pl_sg h10.symm h6)
      · rw [h9] at h4; cases h4
    · rw [h7] at h3; cases h3
  · rcases a.new b o h with q | q | q
    · exact .inl q
    · exact .inr (.inl q)
    · exact .inr (.inr (mine_ps hl q))
  · rcases a.own b (mo b h) with q | q
    · exact .inl (mine_ps hl q)
    · exact .inr q
  · have hi : i < ps.length := (List.getElem?_eq_some_iff.mp h).1
    have hlt : i < (outP ps en').length := by rw [outP_len]; exact hi
    have hg := List.getElem?_eq_getElem hlt
    rcases key i _ hg with ⟨_, d', _, e, _, _⟩ | ⟨h4, h5⟩
    · exact ⟨⟨d', by rw [hg, e]⟩, rfl⟩
    · rw [h] at h5
      rw [← Option.some.inj h5] at h4
      cases h4
end

section
variable {P : Program} {w : World} {K : PySem.W.Frag} {mg : Str → Option Value} {base : Heap} {T : TL}
end

def mcall (np : Nat) (F : Fn) (ms : M (List PyData)) : M Vl := bnd ms fun ds en => if ds.length = np then (match F (ds.map .sh) with
  | .ok x _ => .ok x en
  | _ => .bad) else .bad
/-- the first argument is a name whose thing is changed -/
def mcallI (np : Nat) (F : Fn) (i : Nat) (ms : M (List PyData)) : M Vl := fun en => if (en[i]?.map isOwn).getD false then bnd ms (fun ds en => if ds.length + 1 = np then (match en[i]? with
    | some (.ow d) => (match F (.io d :: ds.map .sh) with
      | .ok x (.io d' :: _) => .ok x (en.set i (.ow d'))
      | _ => .bad)
    | some (.io d) => (match F (.io d :: ds.map .sh) with
      | .ok x (.io d' :: _) => .ok x (en.set i (.io d'))
      | _ => .bad)
    | _ => .bad) else .bad) en else .bad

section
variable {T : TL} {E : Wish} {X : Cx} {f : Addr} {fd : FuncData} {ps : List Str} {x : Str} {p pos : Pos} {e : Expr} {es : List Expr} {k : Nat} {np : Nat} {F : Fn}
theorem all_sh : ∀ ds : List PyData, (ds.map Sl.sh).all okP = true
  | [] => rfl
  | d :: ds => by rw [List.map_cons, List.all_cons, all_sh ds]; rfl
theorem rel_sh {kk : Kx} {sg : L2.St} {H Z : Hp} {en : En} {vs : List V} {ds : List PyData} (r : Rel kk sg H Z en) (h : DpAll kk.K Z vs ds) : Rel kk (vs.map some) H Z (ds.map .sh) where
  sub := r.sub
  sl := fun i s hi => by
    rw [List.getElem?_map] at hi
    cases q : ds[i]? with
    | none => rw [q] at hi; cases hi
    | some d =>
      rw [q] at hi
      cases hi
      obtain ⟨v, hv, hd⟩ := dpa_get h q
      exact ⟨some v, by rw [List.getElem?_map, hv]; rfl, v, rfl, hd⟩
  dis := fun i j s t a h1 h2 h3 h4 h5 h6 => by
    rw [List.getElem?_map] at h1
    cases q : ds[i]? with
    | none => rw [q] at h1; cases h1
    | some d => rw [q] at h1; cases h1; cases h3
  tab := r.tab
theorem mine_sh {H : Hp} {vs : List V} {ds : List PyData} {a : Addr} : ¬ Mine H (vs.map some) (ds.map Sl.sh) a := fun ⟨i, s, h1, h2, h3⟩ => by
  rw [List.getElem?_map] at h1
  cases q : ds[i]? with
  | none => rw [q] at h1; cases h1
  | some d => rw [q] at h1; cases h1; cases h2
theorem outP_sh : ∀ (ds : List PyData) (en : En), outP (ds.map Sl.sh) en = ds.map Sl.sh
  | [], _ => rfl
  | d :: ds, en => by simp [outP, outP_sh ds]
theorem call_up {kk : Kx} {sg : L2.St} {H Z H' Z' : Hp} {en : En} {sp : L2.St} {ps ps' : List Sl} (r : Rel kk sg H Z en) (nm : ∀ a, ¬ Mine H sp ps a) (a : Aft kk sp H Z ps sp H' Z' ps') : ∀ b, Mine H sg en b → ∀ o, H b = some o → H' b = some o := fun b m o q => by
    obtain ⟨_, _, h2⟩ := mine_there r m
    exact a.keep q (nm b) (h2 o q)
/-- the caller's state behind a call that changes nothing of its own -/
theorem aft_call {kk : Kx} {sg : L2.St} {H Z H' Z' : Hp} {en : En} {sp : L2.St} {ps ps' : List Sl} (r : Rel kk sg H Z en) (nm : ∀ a, ¬ Mine H sp ps a) (a : Aft kk sp H Z ps sp H' Z' ps') : Aft kk sg H Z en sg H' Z' en := by
  have up : ∀ b, Mine H sg en b → ∀ o, H b = some o → H' b = some o := fun b m o q => by
    obtain ⟨_, _, h2⟩ := mine_there r m
    exact a.keep q (nm b) (h2 o q)
  have zn : ∀ b, Mine H sg en b → Z b = none → Z' b = none := fun b m hz => by
    obtain ⟨o, h1, h2⟩ := mine_there r m
    cases q : Z' b with
    | none => rfl
    | some u =>
      rcases a.new b u q with z | z | z
      · rw [hz] at z; cases z
      · rw [h1] at z; cases z
      · exact (nm b z).elim
  refine ⟨⟨a.rel.sub, fun i s h => ?_, fun i j s t b h1 h2 h3 h4 h5 h6 => r.dis i j s t b h1 h2 h3 h4 (pl_mono r up h1 h5) (pl_mono r up h2 h6), a.rel.tab⟩, a.zz, fun b o h => ?_, fun b o h m => a.kp b o h (nm b), fun b h => .inl (mine_mono r up h), fun i d h => ⟨⟨d, h⟩, rfl⟩, a.tb⟩
  · obtain ⟨v, hv, q⟩ := r.sl i s h
    exact ⟨v, hv, sl_mono hv q (fun b ho hp => up b ⟨i, s, h, ho, hp⟩) (fun b ho hp => zn b ⟨i, s, h, ho, hp⟩) a.zz⟩
  · rcases a.new b o h with q | q | q
    · exact .inl q
    · exact .inr (.inl q)
    · exact (nm b q).elim
theorem call_post {sg : L2.St} {H : Hp} {Q : VK} {ms : M (List PyData)} (h : tV ⟨X.G, T⟩ E (mcall np F ms) sg H Q) :
    tA ⟨X.G, T⟩ E ms sg H fun vs H1 => spF ⟨X.G, T⟩ np F (vs ++ []) H1 Q E0 := by
  obtain ⟨en, Z, r, q⟩ := h
  refine ⟨en, Z, r, post_mono (post_bnd r q) fun ds en1 H1 Z1 _ ⟨a1, q1⟩ vs hvs => ?_⟩
  show spF ⟨X.G, T⟩ np F (vs ++ []) H1 Q E0
  rw [List.append_nil]
  by_cases hnp : ds.length = np
  · rw [if_pos hnp] at q1
    refine ⟨(dpa_length hvs).trans hnp, ds.map .sh, Z1, by rw [List.length_map]; exact hnp, all_sh ds, rel_sh a1.rel hvs, ?_⟩
    cases hF : F (ds.map .sh) with
    | bad => simp only [hF] at q1; exact q1.elim
    | err c en2 => simp only [hF] at q1; exact q1.elim
    | ok y en2 =>
      simp only [hF] at q1
      intro v H' Z' a hv
      have a2 := aft_call a1.rel (fun b => mine_sh) a
      refine q1 H' Z' a2 v ?_
      cases y with
      | sh d => exact hv
      | ow d =>
        obtain ⟨b, h1, h2, h3, h4, h5⟩ := hv
        have hb : H1 b = none := h5.resolve_right mine_sh
        refine ⟨b, h1, h2, h3, fun m => ?_, free_back a1 hb⟩
        obtain ⟨o, ho, _⟩ := mine_there a1.rel (mine_mono a1.rel (call_up a1.rel (fun b => mine_sh) a) m)
        rw [hb] at ho; cases ho
  · rw [if_neg hnp] at q1; exact q1.elim
theorem ge_call {ms : M (List PyData)} (G : FnOk X.prog X.w X.K X.mg X.base CX0 k f fd ps (spF ⟨X.G, T⟩ np F)) (hr : Room k X.A) (hg : Gl X x) (hm : X.mg x = some (.ref f)) (hk : PySem.W.keepIn X.K (.ref f) = true) (hb : Binds X.K fd ps [])
    (ha : GA T E X (e :: es) ms) (hdb : (x == ("__debug__" : Str)) = false := by decide) (he : starEach (e :: es) X.env = (false, eval e X.env) :: starEach es X.env := by rfl) (hpl : (backTo pos (starEach es X.env)).any (·.1) = false := by rfl) :
    GE T E X (.Call (.Name x p) (e :: es) [] pos) (mcall np F ms) :=
  pe_imp (pe_call G hr hg hm hk hb .nil pass0 ha hdb he hpl) fun sg H Q h => call_post h
/-- a name's thing is changed by the callee -/
theorem callI_post {sg : L2.St} {H : Hp} {Q : VK} {i : Nat} {ms : M (List PyData)} (h : tV ⟨X.G, T⟩ E (mcallI np F i ms) sg H Q) :
    tVar i sg H fun v H1 => tA ⟨X.G, T⟩ E ms sg H1 fun vs H2 => spF ⟨X.G, T⟩ np F ((v :: vs) ++ []) H2 Q E0 := by
  obtain ⟨en1, Z1, r, q⟩ := h
  unfold mcallI at q
  cases hi : en1[i]? with
  | none => rw [hi] at q; exact q.elim
  | some s00 =>
    cases ho : isOwn s00 with
    | false => rw [hi, Option.map_some, Option.getD_some, ho] at q; exact q.elim
    | true =>
    rw [hi, Option.map_some, Option.getD_some, ho, if_pos rfl] at q
    obtain ⟨v, hv⟩ : ∃ v, sg[i]? = some (some v) := by
      obtain ⟨u, hu, hs⟩ := r.sl i s00 hi
      cases s00 with
      | no => cases ho
      | sh d => cases ho
      | ow d => obtain ⟨a, e, _⟩ := hs; exact ⟨_, by rw [hu, e]⟩
      | io d => obtain ⟨a, e, _⟩ := hs; exact ⟨_, by rw [hu, e]⟩
      | fz d => obtain ⟨a, e, _⟩ := hs; exact ⟨_, by rw [hu, e]⟩
    refine ⟨v, hv, en1, Z1, r, post_mono (post_bnd r q) fun ds en2 H2 Z2 _ ⟨a2, q2⟩ vs hvs => ?_⟩
    show spF ⟨X.G, T⟩ np F ((v :: vs) ++ []) H2 Q E0
    rw [List.append_nil]
    have a1 := Aft.refl r
    by_cases hnp : ds.length + 1 = np
    · rw [if_pos hnp] at q2
      -- the two kinds of places are alike
      have main : ∀ (d : PyData) (mk : PyData → Sl) (he : en2[i]? = some (mk d)) (hmk : mk = Sl.ow ∨ mk = Sl.io),
          (match F (.io d :: ds.map .sh) with
            | .ok x (.io d' :: _) => Post ⟨X.G, T⟩ E sg H2 Z2 en2 (.ok x (en2.set i (mk d'))) fun x en' H' Z' => ∀ v, VlOk ⟨X.G, T⟩ sg H en1 sg H' Z' en' v x → Q v H'
            | _ => False) → spF ⟨X.G, T⟩ np F (v :: vs) H2 Q E0 := by
        intro d mk he hmk q3
        have own : isOwn (mk d) = true := by rcases hmk with rfl | rfl <;> rfl
        have r2 := a2.rel
        obtain ⟨a, hva, haz, hao⟩ : ∃ a, v = .ref a ∧ Z2 a = none ∧ Own X.G H2 Z2 a d := by
          obtain ⟨u, hu, hs⟩ := r2.sl i _ he
          rw [hv] at hu
          cases hu
          rcases hmk with rfl | rfl
          · obtain ⟨a, e, h1, h2⟩ := hs; cases e; exact ⟨a, rfl, h1, h2⟩
          · obtain ⟨a, e, h1, h2⟩ := hs; cases e; exact ⟨a, rfl, h1, h2⟩
        subst hva
        have hm0 : Mine H2 sg en2 a := ⟨i, _, he, own, .inl hv⟩
        obtain ⟨oa, hoa, hat⟩ := mine_there r2 hm0
        have hps : Rel ⟨X.G, T⟩ ((V.ref a :: vs).map some) H2 Z2 (.io d :: ds.map .sh) := by
          have rs := rel_sh r2 hvs
          refine ⟨r2.sub, fun l s hl => ?_, fun l1 l2 s t b h1 h2 h3 h4 h5 h6 => ?_, r2.tab⟩
          · cases l with
            | zero => cases hl; exact ⟨_, rfl, a, rfl, haz, hao⟩
            | succ l =>
              obtain ⟨u, hu, hs⟩ := rs.sl l s (by simpa using hl)
              exact ⟨u, by simpa using hu, hs⟩
          · cases l1 with
            | zero =>
              cases l2 with
              | zero => rfl
              | succ l2 => exact absurd ⟨l2, t, by simpa using h2, h4, pl_sg (sg := vs.map some) (by simp) h6⟩ (mine_sh (H := H2) (vs := vs) (ds := ds) (a := b))
            | succ l1 => exact absurd ⟨l1, s, by simpa using h1, h3, pl_sg (sg := vs.map some) (by simp) h5⟩ (mine_sh (H := H2) (vs := vs) (ds := ds) (a := b))
        have onlyA : ∀ b, Mine H2 ((V.ref a :: vs).map some) (.io d :: ds.map .sh) b → b = a := fun b ⟨l, s, h1, h2, h3⟩ => by
          cases l with
          | zero => cases h1; have h3 := pl_io h3; cases h3; rfl
          | succ l => exact absurd ⟨l, s, by simpa using h1, h2, pl_sg (sg := vs.map some) (by simp) h3⟩ (mine_sh (H := H2) (vs := vs) (ds := ds) (a := b))
        refine ⟨by rw [List.length_cons, dpa_length hvs]; exact hnp, .io d :: ds.map .sh, Z2, by simp [hnp], by rw [List.all_cons, all_sh]; rfl, hps, ?_⟩
        cases hF : F (.io d :: ds.map .sh) with
        | bad => rw [hF] at q3; exact q3
        | err c en3 => rw [hF] at q3; exact q3
        | ok y en3 =>
          rw [hF] at q3
          cases en3 with
          | nil => exact q3.elim
          | cons s0 en3 =>
            cases s0 with
            | io d' =>
              intro v' H' Z' a3 hv'
              have e3 : outP (.io d :: ds.map .sh) (.io d' :: en3) = .io d' :: ds.map .sh := by simp [outP, outP_sh]
              rw [e3] at a3 hv'
              -- the caller's state
              have hii : i < en2.length := (List.getElem?_eq_some_iff.mp he).1
              obtain ⟨a', ha', haz', hao'⟩ : ∃ a', some (V.ref a) = some (V.ref a') ∧ Z' a' = none ∧ Own X.G H' Z' a' d' := by
                obtain ⟨u, hu, hs⟩ := a3.rel.sl 0 (.io d') rfl
                cases hu
                obtain ⟨b, e, h1, h2⟩ := hs
                exact ⟨b, e, h1, h2⟩
              cases ha'
              have own' : isOwn (mk d') = true := by rcases hmk with rfl | rfl <;> rfl
              have at_ : ∀ (l : Nat) (s : Sl), (en2.set i (mk d'))[l]? = some s → (l = i ∧ s = mk d') ∨ (l ≠ i ∧ en2[l]? = some s) := fun l s h => by
                by_cases e : l = i
                · rw [e, List.getElem?_set_self hii] at h; cases h; exact .inl ⟨e, rfl⟩
                · rw [List.getElem?_set_ne (Ne.symm e)] at h; exact .inr ⟨e, h⟩
              have up : ∀ b, Mine H2 sg en2 b → b ≠ a → ∀ o, H2 b = some o → H' b = some o := fun b m hb o q => by
                obtain ⟨_, _, hbt⟩ := mine_there r2 m
                exact a3.keep q (fun z => hb (onlyA b z)) (hbt o q)
              have zn : ∀ b, Mine H2 sg en2 b → b ≠ a → Z2 b = none → Z' b = none := fun b m hb hz => by
                obtain ⟨ob, hob, _⟩ := mine_there r2 m
                cases q : Z' b with
                | none => rfl
                | some u =>
                  rcases a3.new b u q with z | z | z
                  · rw [hz] at z; cases z
                  · rw [hob] at z; cases z
                  · exact absurd (onlyA b z) hb
              have one : ∀ (b : Addr) (dd : PyData), Pl H' sg i (mk dd) b → sg[i]? = some (some (V.ref b)) := fun b dd h => by
                rcases hmk with rfl | rfl
                · exact pl_ow h
                · exact pl_io h
              have pls : ∀ (l : Nat) (s : Sl) (b : Addr), l ≠ i → en2[l]? = some s → isOwn s = true → Pl H' sg l s b → Pl H2 sg l s b := fun l s b hl e ho hp => by
                rcases hp with hp | ⟨dd, rr, ws, rfl, g1, g2, g3⟩
                · exact .inl hp
                · have hmr : Mine H2 sg en2 rr := ⟨l, _, e, rfl, .inl g1⟩
                  obtain ⟨o', ho', _⟩ := mine_there r2 hmr
                  have e7 := up rr hmr (fun z => hl (r2.dis l i _ _ a e he rfl own (.inl (by rw [g1, z])) (.inl hv))) o' ho'
                  rw [g2] at e7; cases e7
                  exact .inr ⟨dd, rr, ws, rfl, g1, ho', g3⟩
              have mset : ∀ b, Mine H' sg (en2.set i (mk d')) b → Mine H2 sg en2 b := fun b ⟨l, s, h1, h2, h3⟩ => by
                rcases at_ l s h1 with ⟨rfl, rfl⟩ | ⟨hl, e⟩
                · exact ⟨l, _, he, own, .inl (one b _ h3)⟩
                · exact ⟨l, s, e, h2, pls l s b hl e h2 h3⟩
              have aC : Aft ⟨X.G, T⟩ sg H2 Z2 en2 sg H' Z' (en2.set i (mk d')) := by
                refine ⟨⟨a3.rel.sub, fun l s h => ?_, fun l1 l2 s t b h1 h2 h3 h4 h5 h6 => ?_, a3.rel.tab⟩, a3.zz, fun b o h => ?_, fun b o h m => a3.kp b o h (fun z => m ((onlyA b z) ▸ hm0)), fun b h => .inl (mset b h), fun l dd h => ?_, a3.tb⟩
                · rcases at_ l s h with ⟨rfl, rfl⟩ | ⟨hl, e⟩
                  · refine ⟨_, hv, ?_⟩
                    rcases hmk with rfl | rfl
                    · exact ⟨a, rfl, haz', hao'⟩
                    · exact ⟨a, rfl, haz', hao'⟩
                  · obtain ⟨u, hu, hs⟩ := r2.sl l s e
                    refine ⟨u, hu, ?_⟩
                    have nb : ∀ b, isOwn s = true → Pl H2 sg l s b → b ≠ a := fun b ho hp z => hl (r2.dis l i s _ a e he ho own (by rw [← z]; exact hp) (.inl hv))
                    exact sl_mono hu hs (fun b ho hp => up b ⟨l, s, e, ho, hp⟩ (nb b ho hp)) (fun b ho hp => zn b ⟨l, s, e, ho, hp⟩ (nb b ho hp)) a3.zz
                · rcases at_ l1 s h1 with ⟨rfl, rfl⟩ | ⟨g1, e1⟩
                  · rcases at_ l2 t h2 with ⟨rfl, rfl⟩ | ⟨g2, e2⟩
                    · rfl
                    · exact r2.dis l1 l2 _ t b he e2 own h4 (.inl (one b _ h5)) (pls l2 t b g2 e2 h4 h6)
                  · rcases at_ l2 t h2 with ⟨rfl, rfl⟩ | ⟨g2, e2⟩
                    · exact r2.dis l1 l2 s _ b e1 he h3 own (pls l1 s b g1 e1 h3 h5) (.inl (one b _ h6))
                    · exact r2.dis l1 l2 s t b e1 e2 h3 h4 (pls l1 s b g1 e1 h3 h5) (pls l2 t b g2 e2 h4 h6)
                · rcases a3.new b o h with z | z | z
                  · exact .inl z
                  · exact .inr (.inl z)
                  · exact .inr (.inr ((onlyA b z) ▸ hm0))
                · by_cases hl : l = i
                  · subst hl
                    rw [he] at h
                    rcases hmk with rfl | rfl
                    · cases h
                    · exact ⟨⟨d', List.getElem?_set_self hii⟩, rfl⟩
                  · exact ⟨⟨dd, by rw [List.getElem?_set_ne (Ne.symm hl)]; exact h⟩, rfl⟩
              refine q3 H' Z' aC v' ?_
              cases y with
              | sh dd => exact hv'
              | ow dd =>
                obtain ⟨b, h1, h2, h3, h4, h5⟩ := hv'
                have hb : H2 b = none := by
                  rcases h5 with z | z
                  · exact z
                  · have e := onlyA b z
                    rw [e] at h4
                    exact absurd ⟨0, .io d', rfl, rfl, .inl rfl⟩ h4
                refine ⟨b, h1, h2, h3, fun m => ?_, ?_⟩
                · obtain ⟨o, ho, _⟩ := mine_there r2 (mset b m)
                  rw [hb] at ho; cases ho
                · exact free_back (a1.trans a2 r) hb
            | no => exact q3.elim
            | sh _ => exact q3.elim
            | ow _ => exact q3.elim
            | fz fz_d => exact q3.elim
      cases he : en2[i]? with
      | none => rw [he] at q2; exact False.elim q2
      | some s0 =>
        rw [he] at q2
        cases s0 with
        | no => exact False.elim q2
        | sh _ => exact False.elim q2
        | ow d =>
          refine main d .ow he (.inl rfl) ?_
          dsimp only at q2
          revert q2
          cases F (.io d :: ds.map .sh) with
          | bad => exact fun q => q
          | err c en3 => exact fun q => False.elim q
          | ok y en3 =>
            cases en3 with
            | nil => exact fun q => False.elim q
            | cons s1 en3 => cases s1 <;> first | exact fun q => q | exact fun q => False.elim q
        | io d =>
          refine main d .io he (.inr rfl) ?_
          dsimp only at q2
          revert q2
          cases F (.io d :: ds.map .sh) with
          | bad => exact fun q => q
          | err c en3 => exact fun q => False.elim q
          | ok y en3 =>
            cases en3 with
            | nil => exact fun q => False.elim q
            | cons s1 en3 => cases s1 <;> first | exact fun q => q | exact fun q => False.elim q
        | fz fz_d => exact False.elim q2
    · rw [if_neg hnp] at q2; exact q2.elim
theorem ge_callI {i : Nat} {y : Str} {py : Pos} {ms : M (List PyData)} (G : FnOk X.prog X.w X.K X.mg X.base CX0 k f fd ps (spF ⟨X.G, T⟩ np F)) (hr : Room k X.A) (hg : Gl X x) (hm : X.mg x = some (.ref f)) (hk : PySem.W.keepIn X.K (.ref f) = true) (hb : Binds X.K fd ps [])
    (hv : PE X (.Name y py) (tVar i)) (ha : GA T E X es ms) (hdb : (x == ("__debug__" : Str)) = false := by decide) (he : starEach (.Name y py :: es) X.env = (false, eval (.Name y py) X.env) :: starEach es X.env := by rfl) (hpl : (backTo pos (starEach (.Name y py :: es) X.env)).any (·.1) = false := by rfl) :
    GE T E X (.Call (.Name x p) (.Name y py :: es) [] pos) (mcallI np F i ms) :=
  pe_imp (pe_call G hr hg hm hk hb .nil pass0 (pa_cons hv ha rfl) hdb he hpl) fun sg H Q h => callI_post h
end
end ZD


namespace ZD
open PySem PySem.Spec PyProof.Rows L2 GxR ZG

theorem million : 2000000 ≤ sizeLine := by rw [sizeLine_eq]; decide
def oInt (c : Int → Int → Bool) (g : Int → Int → Int) : PyData → PyData → Out
  | .int i, .int j => if c i j = true then .d (.int (g i j)) else .bad
  | _, _ => .bad
section
variable {T : TL} {E : Wish} {X : Cx} {a b : Expr} {pos : Pos} {p q : M Od} {k : Nat}
theorem says_int {C : Int → Int → Prop} {c : Int → Int → Bool} {g : Int → Int → Int} (h : ∀ i j, c i j = true → C i j) : Says2 X.G (oInt c g) (rI C fun i j => .int (g i j)) := by
  intro H Z v w d e Q hz hv hw ho
  cases d with
  | int i =>
    cases e with
    | int j =>
      cases hv.int
      cases hw.int
      simp only [oInt] at ho
      by_cases hc : c i j = true
      · rw [if_pos hc] at ho
        exact ⟨i, j, rfl, rfl, h i j hc, ho _ (.int _)⟩
      · rw [if_neg hc] at ho; exact ho.elim
    | _ => exact False.elim ho
  | _ => exact False.elim ho
theorem says_int0 {g : Int → Int → Int} : Says2 X.G (oInt (fun _ _ => true) g) (rI0 fun i j => .int (g i j)) := by
  intro H Z v w d e Q hz hv hw ho
  cases d with
  | int i =>
    cases e with
    | int j =>
      cases hv.int
      cases hw.int
      exact ⟨i, j, rfl, rfl, (show OutOk X.G H Z Q (.d (.int (g i j))) from ho) _ (.int _)⟩
    | _ => exact False.elim ho
  | _ => exact False.elim ho
def oAdd : PyData → PyData → Out
  | .int i, .int j => .d (.int (i + j))
  | .str x, .str y => if x.length + y.length ≤ 2000000 then .d (.str (x ++ y)) else .bad
  | .list x, .list y => if x.length + y.length ≤ 2000000 then .nl (x ++ y) else .bad
  | .tuple x, .tuple y => if x.length + y.length ≤ 2000000 then .nt (x ++ y) else .bad
  | _, _ => .bad
def rCatL (K : Fg) : R2 := fun x y H Q => ∃ l b xs zs, x = .ref l ∧ y = .ref b ∧ SqL K H l xs ∧ SqL K H b zs ∧ xs.length + zs.length ≤ sizeLine ∧ ∀ p, H p = none → Q (.ref p) (upd H p (.lst (xs ++ zs)))
theorem op_catL : OpR X (binaryOp .Add) (rCatL X.G) := by
  intro pins s σ H x y v u Q I rx ry h
  obtain ⟨l, b, xs, zs, rfl, rfl, hH, hB, hz, q⟩ := h
  cases rx
  cases ry
  obtain ⟨its, r, ⟨⟨cls, dd, data, sl⟩, n, ho, hc, hd0, hd⟩, z⟩ := I.list hH
  obtain ⟨its2, r2, ⟨⟨cls2, dd2, data2, sl2⟩, n2, ho2, hc2, hd02, hd2⟩, z2⟩ := I.list hB
  simp only at hc hd hc2 hd2
  subst hc hd hc2 hd2
  have e : its.toArray ++ its2.toArray = (its ++ its2).toArray := by simp
  have hl := r.length
  have hl2 := r2.length
  refine concat_meets ⟨_, ho, rfl⟩ ⟨_, ho2, rfl⟩ noFill_list_add seq_list_add PySem.F.slot_list_add PySem.F.entry_list_add (PySem.F.args_list_add_2 _ _) (list_addW l b its.toArray its2.toArray n n2 dd dd2 sl sl2 (by simp only [List.size_toArray]; omega)) ⟨ho, ho2, ?_⟩
  rw [e]
  exact ⟨.ref _, _, I.lnew (t' := s.toks) (r.append r2) (by rw [List.length_append]; omega), rfl, q _ I.fresh⟩
def rAdd (K : Fg) : R2 := fun x y H Q => (rI0 (fun i j => .int (i + j)) x y H Q ∨ (∃ i j, x = .str i ∧ y = .str j ∧ i.length + j.length ≤ sizeLine ∧ Q (.str (i ++ j)) H)) ∨ (rCatL K x y H Q ∨ rCatF K x y H Q)
theorem op_addD : OpR X (binaryOp .Add) (rAdd X.G) := .or (.or op_add op_add_str) (.or op_catL op_catF)
theorem says_add : Says2 X.G oAdd (rAdd X.G) := by
  intro H Z v w d e Q hz hv hw ho
  have hm := million
  cases d with
  | int i =>
    cases e with
    | int j =>
      cases hv.int
      cases hw.int
      exact .inl (.inl ⟨i, j, rfl, rfl, (show OutOk X.G H Z Q (.d (.int (i + j))) from ho) _ (.int _)⟩)
    | _ => exact False.elim ho
  | str i =>
    cases e with
    | str j =>
      cases hv.str
      cases hw.str
      simp only [oAdd] at ho
      by_cases hc : i.length + j.length ≤ 2000000
      · rw [if_pos hc] at ho
        exact .inl (.inr ⟨i, j, rfl, rfl, by omega, ho _ (.str _)⟩)
      · rw [if_neg hc] at ho; exact ho.elim
    | _ => exact False.elim ho
  | list x =>
    cases e with
    | list y =>
      obtain ⟨l, xs, rfl, h1, h2⟩ := hv.list hz
      obtain ⟨b, ys, rfl, h3, h4⟩ := hw.list hz
      simp only [oAdd] at ho
      by_cases hc : x.length + y.length ≤ 2000000
      · rw [if_pos hc] at ho
        have e1 := dpa_length h2
        have e2 := dpa_length h4
        exact .inr (.inl ⟨l, b, xs, ys, rfl, rfl, h1, h3, by omega, fun p hp => ho p _ hp (dpa_append h2 h4)⟩)
      · rw [if_neg hc] at ho; exact ho.elim
    | _ => exact False.elim ho
  | tuple x =>
    cases e with
    | tuple y =>
      have hv0 := hv
      have hw0 := hw
      obtain ⟨l, xs, rfl, h1, h2⟩ := hv.tup hz
      obtain ⟨b, ys, rfl, h3, h4⟩ := hw.tup hz
      simp only [oAdd] at ho
      by_cases hc : x.length + y.length ≤ 2000000
      · rw [if_pos hc] at ho
        have e1 := dpa_length h2
        have e2 := dpa_length h4
        have dv : Dp X.G Z (.ref l) (.tuple x) := by rcases hv0 with z | ⟨a, _, z⟩; exact z; cases z
        have dw : Dp X.G Z (.ref b) (.tuple y) := by rcases hw0 with z | ⟨a, _, z⟩; exact z; cases z
        refine .inr (.inr ⟨l, b, xs, ys, rfl, rfl, h1, h3, by omega, fun z => ho.1 _ ?_, fun _ z => ho.1 _ ?_, fun _ _ p ob hp hc hd => ho.2 p _ ob hp hc hd (dpa_append h2 h4)⟩)
        · subst z
          cases h2
          exact dw
        · subst z
          cases h4
          rw [List.append_nil]
          exact dv
      · rw [if_neg hc] at ho; exact ho.elim
    | _ => exact False.elim ho
  | _ => exact False.elim ho
theorem ge_add (ha : GO T E X a p) (hb : GO T E X b q) : GE T E X (.BinOp a .Add b pos) (op2 oAdd p q) := ge_op2 ha hb (fun _ _ h1 h2 => pe_op op_addD h1 h2) says_add
def oSub := oInt (fun _ _ => true) (fun i j => i - j)
theorem ge_sub (ha : GO T E X a p) (hb : GO T E X b q) : GE T E X (.BinOp a .Sub b pos) (op2 oSub p q) := ge_op2 ha hb (fun _ _ h1 h2 => pe_op op_sub h1 h2) says_int0
def oDiv := oInt (fun i j => decide (0 < j ∧ j.natAbs.log2 < 9000)) (fun i j => i / j)
theorem ge_div (ha : GO T E X a p) (hb : GO T E X b q) : GE T E X (.BinOp a .FloorDiv b pos) (op2 oDiv p q) := ge_op2 ha hb (fun _ _ h1 h2 => pe_op op_fdivW h1 h2) (says_int fun i j h => by have h2 := of_decide_eq_true h; exact h2)
def oMod := oInt (fun i j => decide (0 < j)) (fun i j => i % j)
theorem ge_mod (ha : GO T E X a p) (hb : GO T E X b q) : GE T E X (.BinOp a .Mod b pos) (op2 oMod p q) := ge_op2 ha hb (fun _ _ h1 h2 => pe_op op_mod h1 h2) (says_int fun i j h => by have h2 := of_decide_eq_true h; exact h2)
def oPow := oInt (fun i j => decide (0 ≤ j ∧ j ≤ 1000000 ∧ i.natAbs < 2 ^ 64)) (fun i j => i ^ j.toNat)
theorem ge_pow (ha : GO T E X a p) (hb : GO T E X b q) : GE T E X (.BinOp a .Pow b pos) (op2 oPow p q) := ge_op2 ha hb (fun _ _ h1 h2 => pe_op op_pow h1 h2) (says_int fun i j h => by have h2 := of_decide_eq_true h; exact h2)
def oShr := oInt (fun i j => decide (0 ≤ j)) (fun i j => i / 2 ^ j.toNat)
theorem ge_shr (ha : GO T E X a p) (hb : GO T E X b q) : GE T E X (.BinOp a .RShift b pos) (op2 oShr p q) := ge_op2 ha hb (fun _ _ h1 h2 => pe_op op_shr h1 h2) (says_int fun i j h => by have h2 := of_decide_eq_true h; exact h2)
def oXor := oInt (fun _ _ => true) (fun i j => Builtin.bitXor i j)
theorem ge_xor (ha : GO T E X a p) (hb : GO T E X b q) : GE T E X (.BinOp a .BitXor b pos) (op2 oXor p q) := ge_op2 ha hb (fun _ _ h1 h2 => pe_op op_xor h1 h2) says_int0

abbrev CmpOk (X : Cx) (op : CmpOp) (f : PyData → PyData → Out) : Prop := ∃ r : R2, OpR X (compareOp op) r ∧ Says2 X.G f r
def oEq : PyData → PyData → Out := fun d e => if (SeqAt.shaped d && SeqAt.shaped e) = true then .d (.bool (PyData.eqv d e)) else .bad
def oNe : PyData → PyData → Out := fun d e => if (SeqAt.shaped d && SeqAt.shaped e) = true then .d (.bool (!PyData.eqv d e)) else .bad
theorem shaped_nodict {d : PyData} (h : SeqAt.shaped d = true) : ∀ kv, d ≠ .dict kv := fun kv e => by
  subst e
  have := SeqAt.canLay_of_shaped h
  simp [PyData.canLay0] at this
theorem shaped_nd {d : PyData} (h : SeqAt.shaped d = true) : nd d = true := nd_lay (SeqAt.canLay_of_shaped h)
theorem c_eq (hr : Room k X.A) : CmpOk X .Eq oEq := ⟨_, op_eqD hr.units, by
  intro H Z v w d e Q hz hv hw ho
  unfold oEq at ho
  by_cases hc : (SeqAt.shaped d && SeqAt.shaped e) = true
  · rw [if_pos hc] at ho
    rw [Bool.and_eq_true] at hc
    exact ⟨d, e, (hv.dp hz (shaped_nodict hc.1)).kit (shaped_nd hc.1), (hw.dp hz (shaped_nodict hc.2)).kit (shaped_nd hc.2), hc.1, hc.2, ho _ (.bl _)⟩
  · rw [if_neg hc] at ho; exact ho.elim⟩
theorem c_ne (hr : Room k X.A) : CmpOk X .NotEq oNe := ⟨_, op_neD hr.units, by
  intro H Z v w d e Q hz hv hw ho
  unfold oNe at ho
  by_cases hc : (SeqAt.shaped d && SeqAt.shaped e) = true
  · rw [if_pos hc] at ho
    rw [Bool.and_eq_true] at hc
    exact ⟨d, e, (hv.dp hz (shaped_nodict hc.1)).kit (shaped_nd hc.1), (hw.dp hz (shaped_nodict hc.2)).kit (shaped_nd hc.2), hc.1, hc.2, ho _ (.bl _)⟩
  · rw [if_neg hc] at ho; exact ho.elim⟩
def oOrd (g : Int → Int → Bool) (s : Str → Str → Bool) : PyData → PyData → Out
  | .int i, .int j => .d (.bool (g i j))
  | .str i, .str j => .d (.bool (s i j))
  | _, _ => .bad
theorem says_ord {g : Int → Int → Bool} {s : Str → Str → Bool} : Says2 X.G (oOrd g s) (fun x y H Q => rI0 (fun i j => .bl (g i j)) x y H Q ∨ ∃ i j, x = .str i ∧ y = .str j ∧ Q (.bl (s i j)) H) := by
  intro H Z v w d e Q hz hv hw ho
  cases d with
  | int i =>
    cases e with
    | int j =>
      cases hv.int
      cases hw.int
      exact .inl ⟨i, j, rfl, rfl, (show OutOk X.G H Z Q (.d (.bool (g i j))) from ho) _ (.bl _)⟩
    | _ => exact False.elim ho
  | str i =>
    cases e with
    | str j =>
      cases hv.str
      cases hw.str
      exact .inr ⟨i, j, rfl, rfl, (show OutOk X.G H Z Q (.d (.bool (s i j))) from ho) _ (.bl _)⟩
    | _ => exact False.elim ho
  | _ => exact False.elim ho
def sLt (i j : Str) : Bool := decide (i.cps.toList < j.cps.toList)
def oLt := oOrd (fun i j => decide (i < j)) (fun i j => sLt i j)
def oLe := oOrd (fun i j => decide (i ≤ j)) (fun i j => !sLt j i)
def oGt := oOrd (fun i j => decide (j < i)) (fun i j => sLt j i)
def oGe := oOrd (fun i j => decide (j ≤ i)) (fun i j => !sLt i j)
theorem c_lt : CmpOk X .Lt oLt := ⟨_, .or op_lt op_lt_str, says_ord⟩
theorem c_le : CmpOk X .LtE oLe := ⟨_, .or op_le op_le_str, says_ord⟩
theorem c_gt : CmpOk X .Gt oGt := ⟨_, .or op_gt op_gt_str, says_ord⟩
theorem c_ge : CmpOk X .GtE oGe := ⟨_, .or op_ge op_ge_str, says_ord⟩
/-- is: a truth value or none on the right -/
def oIs (n : Bool) : PyData → PyData → Out
  | .bool i, .bool j => .d (.bool (xor n (decide (i = j))))
  | .none, .none => .d (.bool (xor n true))
  | _, .none => .d (.bool (xor n false))
  | _, .bool _ => .d (.bool (xor n false))
  | _, _ => .bad
theorem top_non {K : Fg} {H Z : Hp} {v : V} {d : PyData} (h : Top K H Z v d) (n : d ≠ .none) : v ≠ .non := fun e => by
  subst e
  rcases h with h | ⟨a, e, _⟩
  · cases h; exact n rfl
  · cases e
/-- a value that is no truth value and no type -/
def NoBl (x : V) : Prop := x = .non ∨ (∃ i, x = .int i) ∨ (∃ z, x = .str z) ∨ ∃ a, x = .ref a
theorem nobl_rel {x : V} {v : Value} (h : NoBl x) (r : RelV x v) (j : Bool) : plainIs v (.bool j) = true ∧ v ≠ .bool j := by
  rcases h with rfl | ⟨i, rfl⟩ | ⟨z, rfl⟩ | ⟨a, rfl⟩
  · cases r; exact ⟨rfl, fun e => nomatch e⟩
  · obtain ⟨t, rfl⟩ := r; exact ⟨rfl, fun e => nomatch e⟩
  · obtain ⟨t, rfl⟩ := r; exact ⟨rfl, fun e => nomatch e⟩
  · cases r; exact ⟨rfl, fun e => nomatch e⟩
theorem op_isOth : OpR X (compareOp .Is) (fun x y H Q => ∃ j, NoBl x ∧ y = .bl j ∧ Q (.bl false) H) := by
  intro pins s σ H x y v u Q I rx ry h
  obtain ⟨j, nb, rfl, q⟩ := h
  obtain ⟨h1, h2⟩ := nobl_rel nb rx j
  cases (show u = Value.bool j from ry)
  exact wpAny_is_other h1 h2 ⟨.bl false, H, I, rfl, q⟩
theorem op_notOth : OpR X (compareOp .IsNot) (fun x y H Q => ∃ j, NoBl x ∧ y = .bl j ∧ Q (.bl true) H) := by
  intro pins s σ H x y v u Q I rx ry h
  obtain ⟨j, nb, rfl, q⟩ := h
  obtain ⟨h1, h2⟩ := nobl_rel nb rx j
  cases (show u = Value.bool j from ry)
  exact wpAny_isNot_other h1 h2 ⟨.bl true, H, I, rfl, q⟩
theorem nobl_top {K : Fg} {H Z : Hp} {v : V} {d : PyData} (h : Top K H Z v d) (n : ∀ b, d ≠ .bool b) : NoBl v := by
  rcases h with h | ⟨a, e, _⟩
  · cases h with
    | non => exact .inl rfl
    | bl b => exact absurd rfl (n b)
    | int i => exact .inr (.inl ⟨i, rfl⟩)
    | str z => exact .inr (.inr (.inl ⟨z, rfl⟩))
    | lst _ _ => exact .inr (.inr (.inr ⟨_, rfl⟩))
    | tup _ _ => exact .inr (.inr (.inr ⟨_, rfl⟩))
    | dct _ _ _ => exact .inr (.inr (.inr ⟨_, rfl⟩))
    | dcn _ _ _ _ _ => exact .inr (.inr (.inr ⟨_, rfl⟩))
  · exact .inr (.inr (.inr ⟨a, e⟩))
theorem says_is {n : Bool} : Says2 X.G (oIs n) (fun x y H Q => ((∃ a b, x = .bl a ∧ y = .bl b ∧ Q (.bl (xor n (decide (a = b)))) H) ∨ (y = .non ∧ Q (.bl (xor n (decide (x = .non)))) H)) ∨ ∃ j, NoBl x ∧ y = .bl j ∧ Q (.bl (xor n false)) H) := by
  intro H Z v w d e Q hz hv hw ho
  cases e with
  | none =>
    cases hw.none
    refine .inl (.inr ⟨rfl, ?_⟩)
    cases d with
    | none =>
      cases hv.none
      exact (show OutOk X.G H Z Q (.d (.bool (xor n true))) from ho) _ (.bl _)
    | bool _ => rw [decide_eq_false (top_non hv (fun e => by cases e))]; exact (show OutOk X.G H Z Q (.d (.bool (xor n false))) from ho) _ (.bl _)
    | int _ => rw [decide_eq_false (top_non hv (fun e => by cases e))]; exact (show OutOk X.G H Z Q (.d (.bool (xor n false))) from ho) _ (.bl _)
    | str _ => rw [decide_eq_false (top_non hv (fun e => by cases e))]; exact (show OutOk X.G H Z Q (.d (.bool (xor n false))) from ho) _ (.bl _)
    | list _ => rw [decide_eq_false (top_non hv (fun e => by cases e))]; exact (show OutOk X.G H Z Q (.d (.bool (xor n false))) from ho) _ (.bl _)
    | tuple _ => rw [decide_eq_false (top_non hv (fun e => by cases e))]; exact (show OutOk X.G H Z Q (.d (.bool (xor n false))) from ho) _ (.bl _)
    | dict _ => rw [decide_eq_false (top_non hv (fun e => by cases e))]; exact (show OutOk X.G H Z Q (.d (.bool (xor n false))) from ho) _ (.bl _)
  | bool j =>
    cases hw.bool
    cases d with
    | bool i =>
      cases hv.bool
      exact .inl (.inl ⟨i, j, rfl, rfl, (show OutOk X.G H Z Q (.d (.bool (xor n (decide (i = j))))) from ho) _ (.bl _)⟩)
    | none => exact .inr ⟨j, nobl_top hv (fun b e => by cases e), rfl, (show OutOk X.G H Z Q (.d (.bool (xor n false))) from ho) _ (.bl _)⟩
    | int _ => exact .inr ⟨j, nobl_top hv (fun b e => by cases e), rfl, (show OutOk X.G H Z Q (.d (.bool (xor n false))) from ho) _ (.bl _)⟩
    | str _ => exact .inr ⟨j, nobl_top hv (fun b e => by cases e), rfl, (show OutOk X.G H Z Q (.d (.bool (xor n false))) from ho) _ (.bl _)⟩
    | list _ => exact .inr ⟨j, nobl_top hv (fun b e => by cases e), rfl, (show OutOk X.G H Z Q (.d (.bool (xor n false))) from ho) _ (.bl _)⟩
    | tuple _ => exact .inr ⟨j, nobl_top hv (fun b e => by cases e), rfl, (show OutOk X.G H Z Q (.d (.bool (xor n false))) from ho) _ (.bl _)⟩
    | dict _ => exact .inr ⟨j, nobl_top hv (fun b e => by cases e), rfl, (show OutOk X.G H Z Q (.d (.bool (xor n false))) from ho) _ (.bl _)⟩
  | _ => cases d <;> exact False.elim ho
theorem c_is : CmpOk X .Is (oIs false) := ⟨_, .or (.or op_isBl op_isN) op_isOth, by
  intro H Z v w d e Q hz hv hw ho
  have h := says_is (n := false) H Z v w d e Q hz hv hw ho
  simp only [Bool.false_xor] at h
  exact h⟩
theorem c_isnot : CmpOk X .IsNot (oIs true) := ⟨_, .or (.or op_notBl op_notN) op_notOth, by
  intro H Z v w d e Q hz hv hw ho
  have h := says_is (n := true) H Z v w d e Q hz hv hw ho
  simp only [Bool.true_xor] at h
  exact h⟩
theorem op2_imp {f : PyData → PyData → Out} {r : R2} {p q : M Od} {sg : L2.St} {H : Hp} {Q : VK} (hf : Says2 X.G f r) (h : tV ⟨X.G, T⟩ E (op2 f p q) sg H Q) : tOp r (tO ⟨X.G, T⟩ E p) (tO ⟨X.G, T⟩ E q) sg H Q := by
  obtain ⟨en, Z, r0, q⟩ := h
  exact ⟨en, Z, r0, post_mono (post_bnd r0 q) fun x en1 H1 Z1 _ ⟨a1, q1⟩ v hv => ⟨en1, Z1, a1.rel, post_mono (post_bnd a1.rel q1) fun y en2 H2 Z2 _ ⟨a2, q2⟩ w hw => by
    cases hl : look en2 x with
    | none => simp only [hl] at q2; exact q2.elim
    | some d =>
      cases hl2 : look en2 y with
      | none => simp only [hl, hl2] at q2; exact q2.elim
      | some d2 =>
        simp only [hl, hl2] at q2
        exact hf H2 Z2 v w d d2 Q a2.rel.sub (top_of a2.rel (od_mono a2 hv) hl) (top_of a2.rel hw hl2) (out_ok (sg0 := sg) a2.rel (a1.trans a2 r0) q2)⟩⟩
theorem gt_cmp {op : CmpOp} {f : PyData → PyData → Out} (c : CmpOk X op f) (ha : GO T E X a p) (hb : GO T E X b q) (hm : behindInMarks op b = false := by first | exact nomark _ | (with_unfolding_all rfl)) : GT T E X (.Compare a [op] [b] pos) (tst (fz (op2 f p q))) := by
  obtain ⟨r, ho, hs⟩ := c
  exact pt_imp (pt_cmpR ho ha hb hm) fun sg H Q q => op2_imp hs (fz_vb (tst_ok q))
theorem ge_cmp {op : CmpOp} {f : PyData → PyData → Out} (c : CmpOk X op f) (ha : GO T E X a p) (hb : GO T E X b q) (hm : behindInMarks op b = false := by first | exact nomark _ | (with_unfolding_all rfl)) : GE T E X (.Compare a [op] [b] pos) (op2 f p q) := by
  obtain ⟨r, ho, hs⟩ := c
  exact ge_op2 ha hb (fun _ _ h1 h2 => pe_cmpR ho h1 h2 hm) hs
/-- a op b op' c: the middle is looked at once -/
def op2c (f g : PyData → PyData → Out) (p q w : M Od) : M Vl := bnd p fun x => bnd q fun y => fun en => match look en x, look en y with
  | some d, some e => (match f d e with
    | .d (.bool true) => bnd w (fun z => fun en => match look en y, look en z with
      | some e, some c => out (g e c) en
      | _, _ => .bad) en
    | .d (.bool false) => .ok (.sh (.bool false)) en
    | _ => .bad)
  | _, _ => .bad
theorem chain_imp {f g : PyData → PyData → Out} {r r' : R2} {w : M Od} {sg : L2.St} {H : Hp} {Q : VK} (hs : Says2 X.G f r) (hs' : Says2 X.G g r') (h : tV ⟨X.G, T⟩ E (op2c f g p q w) sg H Q) : tChain r r' (tO ⟨X.G, T⟩ E p) (tO ⟨X.G, T⟩ E q) (tO ⟨X.G, T⟩ E w) sg H Q := by
  obtain ⟨en, Z, r0, q⟩ := h
  refine ⟨en, Z, r0, post_mono (post_bnd r0 q) fun x en1 H1 Z1 _ ⟨a1, q1⟩ v hv => ⟨en1, Z1, a1.rel, post_mono (post_bnd a1.rel q1) fun y en2 H2 Z2 _ ⟨a2, q2⟩ u hu => ?_⟩⟩
  cases hl : look en2 x with
  | none => simp only [hl] at q2; exact q2.elim
  | some d =>
    cases hl2 : look en2 y with
    | none => simp only [hl, hl2] at q2; exact q2.elim
    | some d2 =>
      simp only [hl, hl2] at q2
      refine hs H2 Z2 v u d d2 _ a2.rel.sub (top_of a2.rel (od_mono a2 hv) hl) (top_of a2.rel hu hl2) ?_
      cases hf : f d d2 with
      | d o =>
        rw [hf] at q2
        cases o with
        | bool t =>
          intro z hz
          cases hz
          refine ⟨t, rfl, ?_⟩
          cases t with
          | true =>
            rw [if_pos rfl]
            refine ⟨en2, Z2, a2.rel, post_mono (post_bnd a2.rel q2) fun z en3 H3 Z3 _ ⟨a3, q3⟩ t ht => ?_⟩
            cases hl3 : look en3 y with
            | none => simp only [hl3] at q3; exact q3.elim
            | some d3 =>
              cases hl4 : look en3 z with
              | none => simp only [hl3, hl4] at q3; exact q3.elim
              | some d4 =>
                simp only [hl3, hl4] at q3
                exact hs' H3 Z3 u t d3 d4 Q a3.rel.sub (top_of a3.rel (od_mono a3 hu) hl3) (top_of a3.rel ht hl4) (out_ok (sg0 := sg) a3.rel ((a1.trans a2 r0).trans a3 r0) q3)
          | false =>
            rw [if_neg (by decide)]
            exact q2 H2 Z2 (Aft.refl a2.rel) (.bl false) (.bl false)
        | _ => exact False.elim q2
      | nl _ => rw [hf] at q2; exact False.elim q2
      | nt _ => rw [hf] at q2; exact False.elim q2
      | nd _ => rw [hf] at q2; exact False.elim q2
      | bad => rw [hf] at q2; exact False.elim q2
theorem ge_chain {op op' : CmpOp} {f g : PyData → PyData → Out} {c : Expr} {w : M Od} (c1 : CmpOk X op f) (c2 : CmpOk X op' g) (ha : GO T E X a p) (hb : GO T E X b q) (hc : GO T E X c w)
    (hm : lastMarks [op, op'] [b, c] = false := by with_unfolding_all rfl) : GE T E X (.Compare a [op, op'] [b, c] pos) (op2c f g p q w) := by
  obtain ⟨r, ho, hs⟩ := c1
  obtain ⟨r', ho', hs'⟩ := c2
  exact pe_imp (pe_chain ho ho' ha hb hc hm) fun sg H Q h => chain_imp hs hs' h
theorem gt_chain {op op' : CmpOp} {f g : PyData → PyData → Out} {c : Expr} {w : M Od} (c1 : CmpOk X op f) (c2 : CmpOk X op' g) (ha : GO T E X a p) (hb : GO T E X b q) (hc : GO T E X c w)
    (hm : lastMarks [op, op'] [b, c] = false := by with_unfolding_all rfl) : GT T E X (.Compare a [op, op'] [b, c] pos) (tst (fz (op2c f g p q w))) := by
  obtain ⟨r, ho, hs⟩ := c1
  obtain ⟨r', ho', hs'⟩ := c2
  exact pt_imp (pt_chain ho ho' ha hb hc hm) fun sg H Q h => chain_imp hs hs' (fz_vb (tst_ok h))
end
end ZD


namespace ZS
open PySem PySem.W PySem.Calls PyProof.Rows PySem.Spec

section
variable {prog : Program} {w : World} {A : Around} {E : Value → Shared → Prop} {s s1 : Shared} {vs : List Value} {ds : List PyData} {R : Value → PyData → Prop}
/-- the sort of a new list -/
theorem sort_new {Q : Value → Shared → Prop} (e : EachIs R vs ds) (er : EachIs (fun v d => ∃ as, Reads s1.heap v d as) vs ds) (hal : AllAlike ds) (hk : Sortable ds) (hL : ds.length ≤ sizeLine)
    (hu : ∀ d, d ∈ ds → A.units + 1 + d.depth < cLine) (h : ∀ out, out.length = ds.length → EachIs R out (ds.mergeSort (dataLe false fun d => d)) → Q .none { s1 with heap := sortedHeap (s1.heap.push (seqObj "list" vs.toArray 0)) s1.heap.objs.size vs (List.toArray out) }) :
    wpAny (model prog w) A (call (.builtin "list.sort") [.ref s1.heap.objs.size]) Q E { s1 with heap := s1.heap.push (seqObj "list" vs.toArray 0) } := by
  have eid : ds.map (fun d => d) = ds := List.map_id' ds
  have ho : (s1.heap.push (seqObj "list" vs.toArray 0)).get? s1.heap.objs.size = some (seqObj "list" vs.toArray 0) := Heap.get?_push_size _ rfl
  have er' : EachIs (fun v d => ∃ as, Reads (sortingHeap (s1.heap.push (seqObj "list" vs.toArray 0)) s1.heap.objs.size vs) v ((fun d => d) d) as) vs ds :=
    er.mono fun _ _ ⟨as, r⟩ => ⟨as, PyProof.Rows.Reads.keeps (fun b o q => sortingHeap_old (Nat.ne_of_lt (Heap.lt_size q)) (Heap.get?_push_of_some _ q)) r⟩
  refine wpAny_call_entry slot_list_sort ⟨_, ho, rfl⟩ entry_list_sort (list_sort_vals (κ := dataKind (sortingHeap (s1.heap.push (seqObj "list" vs.toArray 0)) s1.heap.objs.size vs) (ds.map fun d => d)) ho
    (SortsAt.data (s := { s1 with heap := sortingHeap (s1.heap.push (seqObj "list" vs.toArray 0)) s1.heap.objs.size vs }) (each_map (R := fun v d => ∃ as, Reads (sortingHeap (s1.heap.push (seqObj "list" vs.toArray 0)) s1.heap.objs.size vs) v d as) (fun d => d) er') (by rw [eid]; exact hal) (by rw [eid]; exact hk) (bound_map hu)) (by rw [e.length]; exact hL) ⟨.none, rfl, ?_⟩) (args_list_sort _)
  exact h _ (by rw [sortVals_length false rfl]; exact e.length) (sortVals_data false e er' (by rw [eid]; exact hal))
/-- sorted(v), v any thing whose items are collected -/
theorem sorted_of {v : Value} {Q : Value → Shared → Prop} {C : List Value → Shared → Prop} (hc : wpAny (model prog w) A.in1 (collect v) C E s) (hn : ∀ vs s1, C vs s1 → vs.length ≤ sizeLine)
    (h : ∀ vs s1, C vs s1 → wpAny (model prog w) A.in1 (call (.builtin "list.sort") [.ref s1.heap.objs.size]) (fun _ s' => Q (.ref s1.heap.objs.size) s') E { s1 with heap := s1.heap.push (seqObj "list" vs.toArray 0) }) :
    wpAny (model prog w) A (call (.builtin "sorted") [v]) Q E s := by
  refine call_function_entry kind_sorted plain_sorted entry_sorted (args_sorted1 _) ?_
  unfold Builtin.«sorted»
  refine wpAny_bind (m := checkCount "sorted" 1 1 _) (wpAny_pure ?_)
  refine wpAny_bind (wpAny_mono hc (fun vs s1 hv => ?_) fun _ _ e => e)
  refine wpAny_bind (wpAny_newList ?_ (hn vs s1 hv))
  refine wpAny_bind (wpAny_holding (wpAny_mono (h vs s1 hv) (fun _ s' x => ?_) fun _ _ e => e))
  exact wpAny_pure ⟨_, rfl, x⟩
end
end ZS

namespace ZD
open PySem PySem.Spec PyProof.Rows L2 GxR ZG
/-- trees that sorted() takes here -/
def sortOk (ds : List PyData) : Bool := (ds.all fun d => ds.all fun e => PySem.W.alike d e) && ((ds.all fun d => match d with | .tuple (_ :: _) => true | _ => false) || (ds.all fun d => match d with | .tuple _ => false | .none => false | _ => true)) && (ds.all fun d => decide (d.depth ≤ 64)) && decide (ds.length ≤ 2000000)
def sortD (ds : List PyData) : List PyData := ds.mergeSort (PySem.W.dataLe false fun d => d)
theorem sortOk_of {ds : List PyData} (h : sortOk ds = true) : PySem.W.AllAlike ds ∧ PySem.W.Sortable ds ∧ (∀ d ∈ ds, d.depth ≤ 64) ∧ ds.length ≤ 2000000 := by
  unfold sortOk at h
  simp only [Bool.and_eq_true, Bool.or_eq_true, List.all_eq_true, decide_eq_true_eq] at h
  obtain ⟨⟨⟨h1, h2⟩, h3⟩, h4⟩ := h
  refine ⟨fun d hd e he => h1 d hd e he, ?_, h3, h4⟩
  rcases h2 with h2 | h2
  · refine .inl fun d hd => ?_
    have := h2 d hd
    cases d with
    | tuple xs =>
      cases xs with
      | nil => cases this
      | cons x r => exact ⟨x, r, rfl⟩
    | _ => cases this
  · refine .inr fun d hd => ?_
    have := h2 d hd
    cases d with
    | tuple xs => cases this
    | none => cases this
    | _ => exact ⟨(fun e => by cases e), fun xs e => by cases e⟩
def ValDp (K : Fg) (Z : Hp) (u : Value) (d : PyData) : Prop := ∃ x, RelV x u ∧ Dp K Z x d
theorem each_of {K : Fg} {Z : Hp} : ∀ {vs : List V} {us : List Value} {ds : List PyData}, Vals vs us → DpAll K Z vs ds → PySem.W.EachIs (ValDp K Z) us ds
  | _, _, _, .nil, .nil => .nil
  | _, _, _, .cons r t, .cons h q => .cons ⟨_, r, h⟩ (each_of t q)
theorem of_each {K : Fg} {Z : Hp} : ∀ {us : List Value} {ds : List PyData}, PySem.W.EachIs (ValDp K Z) us ds → ∃ vs, Vals vs us ∧ DpAll K Z vs ds
  | _, _, .nil => ⟨[], .nil, .nil⟩
  | _, _, .cons ⟨x, r, h⟩ t => by
    obtain ⟨vs, h1, h2⟩ := of_each t
    exact ⟨x :: vs, .cons r h1, .cons h h2⟩
section
variable {X : Cx}
/-- sorted(xs) of a list or tuple -/
def rSortedD (K : Fg) : List V → Hp → VK → Prop := fun vs H Q => ∃ (a : Addr) (xs : List V) (ds : List PyData) (Z : Hp), (∀ a o, Z a = some o → H a = some o) ∧ vs = [V.ref a] ∧ (SqL K H a xs ∨ SqT K H a xs) ∧ DpAll K Z xs ds ∧ sortOk ds = true ∧
  ∀ (ys : List V) (p : Addr), DpAll K Z ys (sortD ds) → H p = none → Q (.ref p) (upd H p (.lst ys))
theorem cr_sortedD {k : Nat} (hr : Room k X.A) : CallR X (.builtin "sorted") (rSortedD X.G) := by
  intro pins s σ H vs us Q I r h
  obtain ⟨a, xs, ds, Z, hzh, rfl, hs, hd, hok, q⟩ := h
  rw [Vals.ref1 r]
  obtain ⟨hal, hk, hdep, hlen⟩ := sortOk_of hok
  have hmil : 2000000 ≤ sizeLine := by rw [sizeLine_eq]; decide
  obtain ⟨its, rv, hz, T, o, n, hT, ho, hc, hdat⟩ : ∃ its : List Value, Vals xs its ∧ xs.length ≤ sizeLine ∧ ∃ (T : String) (o : Obj) (n : Nat), (T = "list" ∨ T = "tuple") ∧ s.heap.get? a = some o ∧ o.cls = .type T ∧ o.data = .seq its.toArray n := by
    rcases hs with hs | hs
    · obtain ⟨its, rv, ⟨o, n, ho, hc, _, hdd⟩, hz⟩ := I.list hs
      exact ⟨its, rv, hz, "list", o, n, .inl rfl, ho, hc, hdd⟩
    · obtain ⟨its, rv, ⟨o, ho, hc, n, hdd⟩, hz⟩ := I.tuple hs
      exact ⟨its, rv, hz, "tuple", o, n, .inr rfl, ho, hc, hdd⟩
  have hln := rv.length
  have hu := hr.un
  refine ZS.sorted_of (C := fun vs s1 => vs = its ∧ ∃ h', s1 = { s with heap := h' } ∧ ∀ b o, s.heap.get? b = some o → h'.get? b = some o)
    (wpAny_collect_seq a hT ho hc hdat (fun h' kp => ⟨by simp, h', rfl, kp⟩) (by simp only [List.size_toArray]; omega)) (fun vs s1 hv => by rw [hv.1]; omega) fun vs s1 hv => ?_
  obtain ⟨rfl, h', rfl, kp⟩ := hv
  have I1 : Inv X pins σ H { s with heap := h' } := I.kept (t' := s.toks) kp
  obtain ⟨as, rd⟩ := L2.Dp.readsAll I1 ds xs vs (DpAll.kit (nds_all fun d hd => nd_alike (hal d hd d hd)) (dpAll_mono hzh hd)) rv
  have er : PySem.W.EachIs (fun v d => ∃ as, Reads h' v d as) vs ds := by
    have e := PySem.W.readsAll_each (fun d => d) (h := h') (vs := vs) (bs := ds) (as := as) (by rw [List.map_id']; exact rd)
    exact e
  refine ZS.sort_new (R := ValDp X.G Z) (each_of rv hd) er hal hk (by omega) (fun d hd' => ?_) fun out hol eo => ?_
  · have h1 := hdep d hd'
    show X.A.units + 1 + 1 + d.depth < cLine
    omega
  · obtain ⟨ys, y1, y2⟩ := of_each eo
    obtain ⟨ep, he⟩ := sortedHeap_at (h := h'.push (seqObj "list" vs.toArray 0)) (a := h'.objs.size) (vs := vs) (n := 0) (out := out.toArray) (Heap.get?_push_size _ rfl)
    have hyl : ys.length ≤ sizeLine := by rw [dpa_length y2]; unfold sortD at *; rw [List.length_mergeSort]; omega
    refine ⟨.ref h'.objs.size, upd H h'.objs.size (.lst ys), I1.laid (t' := s.toks) (fun b o e => ?_) (Nat.le_refl _) ⟨hyl, out, ep, y1, he⟩, rfl, q ys _ y2 (I1.hok.fresh (Nat.le_refl _))⟩
    have hb : b < h'.objs.size := Heap.lt_size e
    rw [sortedHeap_old (Nat.ne_of_lt hb) (by rw [size_push']; exact Nat.lt_succ_of_lt hb)]
    exact Heap.get?_push_of_some _ e
end
end ZD


namespace ZD
open PySem PySem.Spec PyProof.Rows L2 GxR ZG
def sameK (a b : PyData) : Bool := PyData.eqv a b
def putD (kvs : List (PyData × PyData)) (k v : PyData) : List (PyData × PyData) :=
  if (kvs.any fun kv => sameK kv.1 k) = true then kvs.map (fun kv => if sameK kv.1 k = true then (kv.1, v) else kv) else kvs ++ [(k, v)]
def valD (kvs : List (PyData × PyData)) (k : PyData) : Option PyData := (kvs.find? fun kv => sameK kv.1 k).map (·.2)
def mergeD (kvs more : List (PyData × PyData)) : List (PyData × PyData) := more.foldl (fun acc kv => putD acc kv.1 kv.2) kvs
/-- a key of the kinds that are served -/
def keyOfD : PyData → Option Key
  | .int i => some (.inl i)
  | .str x => some (.inr x)
  | _ => none
theorem keyOfD_eq {d : PyData} {k : Key} (h : keyOfD d = some k) : d = keyD k := by
  cases d with
  | int i => cases h; rfl
  | str x => cases h; rfl
  | _ => cases h
theorem sameK_key (a b : Key) : sameK (keyD a) (keyD b) = decide (a = b) := by
  unfold sameK
  cases a with
  | inl i => cases b with
    | inl j => simp [keyD, PyData.eqv]; rw [Bool.eq_iff_iff]; simp
    | inr j => simp [keyD, PyData.eqv]
  | inr i => cases b with
    | inl j => simp [keyD, PyData.eqv]
    | inr j => simp [keyD, PyData.eqv]; rw [Bool.eq_iff_iff]; simp
inductive DK (K : Fg) (Z : Hp) : List (Key × V) → List (PyData × PyData) → Prop
  | nil : DK K Z [] []
  | cons {k : Key} {v : V} {d : PyData} {kvs : List (Key × V)} {ds : List (PyData × PyData)} : Dp K Z v d → DK K Z kvs ds → DK K Z ((k, v) :: kvs) ((keyD k, d) :: ds)
section
variable {K : Fg} {Z : Hp}
theorem dk_of : ∀ {kvs : List (Key × V)} {ds : List (PyData × PyData)}, ds.map (·.1) = kvs.map (fun p => keyD p.1) → DpAll K Z (kvs.map (·.2)) (ds.map (·.2)) → DK K Z kvs ds
  | [], [], _, _ => .nil
  | [], _ :: _, h, _ => by cases h
  | _ :: _, [], h, _ => by cases h
  | (k, v) :: kvs, (d, e) :: ds, h, q => by
    rw [List.map_cons, List.map_cons] at h q
    have h1 : d = keyD k := (List.cons.inj h).1
    subst h1
    cases q with
    | cons q1 q2 => exact .cons q1 (dk_of (List.cons.inj h).2 q2)
theorem DK.keys : ∀ {kvs : List (Key × V)} {ds : List (PyData × PyData)}, DK K Z kvs ds → ds.map (·.1) = kvs.map (fun p => keyD p.1)
  | _, _, .nil => rfl
  | _, _, .cons _ t => by rw [List.map_cons, List.map_cons, t.keys]
theorem DK.vals : ∀ {kvs : List (Key × V)} {ds : List (PyData × PyData)}, DK K Z kvs ds → DpAll K Z (kvs.map (·.2)) (ds.map (·.2))
  | _, _, .nil => .nil
  | _, _, .cons h t => .cons h t.vals
theorem DK.length : ∀ {kvs : List (Key × V)} {ds : List (PyData × PyData)}, DK K Z kvs ds → kvs.length = ds.length
  | _, _, .nil => rfl
  | _, _, .cons h t => by rw [List.length_cons, List.length_cons, t.length]
theorem DK.mono {Z' : Hp} (hz : ∀ a o, Z a = some o → Z' a = some o) : ∀ {kvs : List (Key × V)} {ds : List (PyData × PyData)}, DK K Z kvs ds → DK K Z' kvs ds
  | _, _, .nil => .nil
  | _, _, .cons h t => .cons (dp_mono hz h) (t.mono hz)
theorem DK.any (k : Key) : ∀ {kvs : List (Key × V)} {ds : List (PyData × PyData)}, DK K Z kvs ds → (ds.any fun kv => sameK kv.1 (keyD k)) = (kvs.any fun kv => decide (kv.1 = k))
  | _, _, .nil => rfl
  | _, _, .cons h t => by rw [List.any_cons, List.any_cons, t.any k, sameK_key]
theorem DK.app : ∀ {kvs kvs' : List (Key × V)} {ds ds' : List (PyData × PyData)}, DK K Z kvs ds → DK K Z kvs' ds' → DK K Z (kvs ++ kvs') (ds ++ ds')
  | _, _, _, _, .nil, q => q
  | _, _, _, _, .cons h t, q => .cons h (t.app q)
theorem DK.map (k : Key) {v : V} {d : PyData} (hv : Dp K Z v d) : ∀ {kvs : List (Key × V)} {ds : List (PyData × PyData)}, DK K Z kvs ds → DK K Z (kvs.map fun kv => if kv.1 = k then (kv.1, v) else kv) (ds.map fun kv => if sameK kv.1 (keyD k) = true then (kv.1, d) else kv)
  | _, _, .nil => .nil
  | _, _, @DK.cons _ _ k' v' d' _ _ h t => by
    rw [List.map_cons, List.map_cons]
    simp only [sameK_key, decide_eq_true_eq]
    by_cases e : k' = k
    · rw [if_pos e, if_pos e]
      exact .cons hv (t.map k hv)
    · rw [if_neg e, if_neg e]
      exact .cons h (t.map k hv)
theorem DK.put {kvs : List (Key × V)} {ds : List (PyData × PyData)} (h : DK K Z kvs ds) (k : Key) {v : V} {d : PyData} (hv : Dp K Z v d) : DK K Z (putK kvs k v) (putD ds (keyD k) d) := by
  unfold putK putD
  rw [h.any k]
  by_cases e : (kvs.any fun kv => decide (kv.1 = k)) = true
  · rw [if_pos e, if_pos e]; exact h.map k hv
  · rw [if_neg e, if_neg e]; exact h.app (.cons hv .nil)
theorem DK.val (k : Key) : ∀ {kvs : List (Key × V)} {ds : List (PyData × PyData)}, DK K Z kvs ds → (∀ d, valD ds (keyD k) = some d → ∃ v, valV kvs k = some v ∧ Dp K Z v d) ∧ (valD ds (keyD k) = none → valV kvs k = none)
  | _, _, .nil => ⟨fun d h => (by cases h), fun _ => rfl⟩
  | _, _, @DK.cons _ _ k' v' d' _ _ h t => by
    have ih := t.val k
    unfold valD valV at ih ⊢
    rw [List.find?_cons, List.find?_cons, sameK_key]
    cases e : decide (k' = k) with
    | true => exact ⟨fun d hd => ⟨v', rfl, by cases hd; exact h⟩, fun z => by cases z⟩
    | false => exact ih
theorem DK.merge : ∀ {more : List (Key × V)} {md : List (PyData × PyData)} {kvs : List (Key × V)} {ds : List (PyData × PyData)}, DK K Z more md → DK K Z kvs ds → DK K Z (mergeK kvs more) (mergeD ds md)
  | _, _, _, _, .nil, q => q
  | _, _, _, _, @DK.cons _ _ k v d kvs2 ds2 h t, q => by
    have := t.merge (q.put k h)
    exact this
inductive DN (K : Fg) (Z : Hp) : List (NestedKey × Addr × V) → List (PyData × PyData) → Prop
  | nil : DN K Z [] []
  | cons {k : NestedKey} {q : Addr} {v : V} {j d : PyData} {xs : List (NestedKey × Addr × V)} {ds : List (PyData × PyData)} : Dp K Z (.ref q) j → keyT j = some k → Dp K Z v d → DN K Z xs ds → DN K Z ((k, q, v) :: xs) ((j, d) :: ds)
theorem dn_of : ∀ {xs : List (NestedKey × Addr × V)} {ds : List (PyData × PyData)}, DpAll K Z (xs.map fun x => V.ref x.2.1) (ds.map (·.1)) → ds.map (fun q => keyT q.1) = xs.map (fun x => some x.1) → DpAll K Z (xs.map (·.2.2)) (ds.map (·.2)) → DN K Z xs ds
  | [], [], _, _, _ => .nil
  | [], _ :: _, _, h, _ => by cases h
  | _ :: _, [], _, h, _ => by cases h
  | (k, q, v) :: xs, (j, d) :: ds, h1, h2, h3 => by
    rw [List.map_cons, List.map_cons] at h1 h2 h3
    cases h1 with
    | cons a1 a2 =>
      cases h3 with
      | cons b1 b2 => exact .cons a1 (List.cons.inj h2).1 b1 (dn_of a2 (List.cons.inj h2).2 b2)
theorem DN.ks : ∀ {xs : List (NestedKey × Addr × V)} {ds : List (PyData × PyData)}, DN K Z xs ds → DpAll K Z (xs.map fun x => V.ref x.2.1) (ds.map (·.1))
  | _, _, .nil => .nil
  | _, _, .cons h _ _ t => .cons h t.ks
theorem DN.kt : ∀ {xs : List (NestedKey × Addr × V)} {ds : List (PyData × PyData)}, DN K Z xs ds → ds.map (fun q => keyT q.1) = xs.map (fun x => some x.1)
  | _, _, .nil => rfl
  | _, _, .cons _ h _ t => by rw [List.map_cons, List.map_cons, h, t.kt]
theorem DN.vs : ∀ {xs : List (NestedKey × Addr × V)} {ds : List (PyData × PyData)}, DN K Z xs ds → DpAll K Z (xs.map (·.2.2)) (ds.map (·.2))
  | _, _, .nil => .nil
  | _, _, .cons _ _ h t => .cons h t.vs
theorem DN.length : ∀ {xs : List (NestedKey × Addr × V)} {ds : List (PyData × PyData)}, DN K Z xs ds → xs.length = ds.length
  | _, _, .nil => rfl
  | _, _, .cons _ _ _ t => by rw [List.length_cons, List.length_cons, t.length]
theorem DN.mono {Z' : Hp} (hz : ∀ a o, Z a = some o → Z' a = some o) : ∀ {xs : List (NestedKey × Addr × V)} {ds : List (PyData × PyData)}, DN K Z xs ds → DN K Z' xs ds
  | _, _, .nil => .nil
  | _, _, .cons h e g t => .cons (dp_mono hz h) e (dp_mono hz g) (t.mono hz)
theorem DN.app : ∀ {xs xs' : List (NestedKey × Addr × V)} {ds ds' : List (PyData × PyData)}, DN K Z xs ds → DN K Z xs' ds' → DN K Z (xs ++ xs') (ds ++ ds')
  | _, _, _, _, .nil, q => q
  | _, _, _, _, .cons h e g t, q => .cons h e g (t.app q)
theorem DN.key {H : Hp} (hz : ∀ a o, Z a = some o → H a = some o) : ∀ {xs : List (NestedKey × Addr × V)} {ds : List (PyData × PyData)}, DN K Z xs ds → ∀ x ∈ xs, KeyIs K H x.2.1 x.1
  | _, _, .nil, x, hx => nomatch hx
  | _, _, .cons h e _ t, x, hx => by
    rcases List.mem_cons.mp hx with rfl | hx
    · exact ⟨_, dp_mono hz h, e⟩
    · exact t.key hz x hx
theorem DN.val {j : PyData} {k : NestedKey} (hj : keyT j = some k) : ∀ {xs : List (NestedKey × Addr × V)} {ds : List (PyData × PyData)}, DN K Z xs ds → (∀ d, valD ds j = some d → ∃ v, valNk xs k = some v ∧ Dp K Z v d) ∧ (valD ds j = none → valNk xs k = none)
  | _, _, .nil => ⟨fun d h => (by cases h), fun _ => rfl⟩
  | _, _, @DN.cons _ _ k' q' v' j' d' _ _ h e g t => by
    have ih := t.val hj
    unfold valD valNk at ih ⊢
    rw [List.find?_cons, List.find?_cons, show sameK j' j = decide (k' = k) from eqv_T e hj]
    cases c : decide (k' = k) with
    | true => exact ⟨fun d hd => ⟨v', rfl, by cases hd; exact g⟩, fun z => by cases z⟩
    | false => exact ih
theorem DN.map {j : PyData} {k : NestedKey} (hj : keyT j = some k) {v : V} {d : PyData} (hv : Dp K Z v d) : ∀ {xs : List (NestedKey × Addr × V)} {ds : List (PyData × PyData)}, DN K Z xs ds → DN K Z (xs.map fun x => if x.1 = k then (x.1, x.2.1, v) else x) (ds.map fun kv => if sameK kv.1 j = true then (kv.1, d) else kv)
  | _, _, .nil => .nil
  | _, _, @DN.cons _ _ k' q' v' j' d' _ _ h e g t => by
    rw [List.map_cons, List.map_cons]
    dsimp only
    rw [show sameK j' j = decide (k' = k) from eqv_T e hj]
    by_cases c : k' = k
    · rw [if_pos c, decide_eq_true c, if_pos rfl]
      exact .cons h e hv (t.map hj hv)
    · rw [if_neg c, decide_eq_false c, if_neg Bool.false_ne_true]
      exact .cons h e g (t.map hj hv)
theorem valD_any (ds : List (PyData × PyData)) (j : PyData) : (valD ds j).isSome = ds.any fun kv => sameK kv.1 j := by
  unfold valD
  rw [Option.isSome_map, Bool.eq_iff_iff, List.find?_isSome, List.any_eq_true]
theorem DN.put {j : PyData} {k : NestedKey} {q : Addr} (hj : keyT j = some k) (hq : Dp K Z (.ref q) j) {xs : List (NestedKey × Addr × V)} {ds : List (PyData × PyData)} (h : DN K Z xs ds) {v : V} {d : PyData} (hv : Dp K Z v d) : DN K Z (putNk xs k q v) (putD ds j d) := by
  have e : (valNk xs k).isSome = ds.any fun kv => sameK kv.1 j := by
    rw [← valD_any]
    obtain ⟨z1, z2⟩ := h.val hj
    cases c : valD ds j with
    | none => rw [z2 c]; rfl
    | some d => obtain ⟨v, e1, _⟩ := z1 d c; rw [e1]; rfl
  unfold putNk putD
  rw [e]
  by_cases c : (ds.any fun kv => sameK kv.1 j) = true
  · rw [if_pos c, if_pos c]; exact h.map hj hv
  · rw [if_neg c, if_neg c]; exact h.app (.cons hq hj hv .nil)
theorem DN.merge {j : PyData} : True := trivial
def hdK (ds : List (PyData × PyData)) : Bool := match ds with
  | [] => true
  | q :: _ => (keyOfD q.1).isSome
def hdN (ds : List (PyData × PyData)) : Bool := match ds with
  | [] => true
  | q :: _ => (keyT q.1).isSome
/-- the key goes with the dict's keys -/
def kOk (ds : List (PyData × PyData)) (j : PyData) : Bool := (keyOfD j).isSome && hdK ds || (keyT j).isSome && hdN ds
theorem keyT_D (k : Key) : keyT (keyD k) = none := by cases k <;> rfl
theorem keyOfD_T {j : PyData} {k : NestedKey} (h : keyT j = some k) : keyOfD j = none := by
  obtain ⟨_, _, ds, rfl⟩ := keyT_N h
  rfl
/-- how a dict stands there -/
theorem top_dict {H : Hp} {v : V} {ds : List (PyData × PyData)} (hz : ∀ a o, Z a = some o → H a = some o) (h : Top K H Z v (.dict ds)) : ∃ a, v = .ref a ∧ ((∃ kvs, Rd H a (.dK kvs) ∧ DK K Z kvs ds) ∨ (ds ≠ [] ∧ ∃ xs, Rd H a (DNo K a xs) ∧ DN K Z xs ds)) := by
  rcases h with h | ⟨a, rfl, h⟩
  · cases h with
    | dct h1 h2 h3 => exact ⟨_, rfl, .inl ⟨_, .inr ⟨_, hz _ _ h1⟩, dk_of h2 h3⟩⟩
    | dcn h0 h1 h2 h3 h4 => exact ⟨_, rfl, .inr ⟨h0, _, .inr ⟨_, hz _ _ h1⟩, dn_of h2 h3 h4⟩⟩
  · cases h with
    | dct h1 h2 h3 => exact ⟨a, rfl, .inl ⟨_, .inl h1, dk_of h2 h3⟩⟩
    | dcn h0 h1 h2 h3 h4 => exact ⟨a, rfl, .inr ⟨h0, _, .inl h1, dn_of h2 h3 h4⟩⟩
theorem top_own {H : Hp} {a : Addr} {ds : List (PyData × PyData)} (h : Own K H Z a (.dict ds)) : (∃ kvs, H a = some (.dK kvs) ∧ DK K Z kvs ds) ∨ (ds ≠ [] ∧ ∃ xs, H a = some (DNo K a xs) ∧ DN K Z xs ds) := by
  cases h with
  | dct h1 h2 h3 => exact .inl ⟨_, h1, dk_of h2 h3⟩
  | dcn h0 h1 h2 h3 h4 => exact .inr ⟨h0, _, h1, dn_of h2 h3 h4⟩
theorem keyV {H : Hp} {v : V} {k : Key} (h : Top K H Z v (keyD k)) : v = kV k := by
  cases k with
  | inl i => exact h.int
  | inr x => exact h.str
theorem keyRef {H : Hp} {v : V} {j : PyData} {k : NestedKey} (h : Top K H Z v j) (e : keyT j = some k) : ∃ q, v = .ref q ∧ Dp K Z (.ref q) j := by
  obtain ⟨_, _, ds, rfl⟩ := keyT_N e
  rcases h with h | ⟨a, rfl, h⟩
  · cases h with
    | tup h1 h2 => exact ⟨_, rfl, .tup h1 h2⟩
  · cases h
theorem DN.noK {xs : List (NestedKey × Addr × V)} {ds : List (PyData × PyData)} (h : DN K Z xs ds) (n : ds ≠ []) : hdK ds = false := by
  cases h with
  | nil => exact (n rfl).elim
  | cons _ e _ _ => show (keyOfD _).isSome = false; rw [keyOfD_T e]; rfl
theorem DK.noN {kvs : List (Key × V)} {ds : List (PyData × PyData)} (h : DK K Z kvs ds) (n : hdN ds = true) : kvs = [] ∧ ds = [] := by
  cases h with
  | nil => exact ⟨rfl, rfl⟩
  | @cons k' _ _ _ _ _ _ =>
    have n : (keyT (keyD k')).isSome = true := n
    rw [keyT_D] at n; cases n
/-- a dict of ints and texts -/
theorem own_dkK {H : Hp} {v : V} {ds : List (PyData × PyData)} (hz : ∀ a o, Z a = some o → H a = some o) (h : Top K H Z v (.dict ds)) (hh : hdK ds = true) : ∃ a kvs, v = .ref a ∧ Rd H a (.dK kvs) ∧ DK K Z kvs ds := by
  obtain ⟨a, rfl, h'⟩ := top_dict hz h
  rcases h' with ⟨kvs, h1, h2⟩ | ⟨h0, xs, h1, h2⟩
  · exact ⟨a, kvs, rfl, h1, h2⟩
  · rw [h2.noK h0] at hh; cases hh
/-- what a dict holds at a key -/
theorem dgx_of {H : Hp} {v y : V} {ds : List (PyData × PyData)} {j : PyData} (hz : ∀ a o, Z a = some o → H a = some o) (hd : Top K H Z v (.dict ds)) (hj : Top K H Z y j) (ok : kOk ds j = true) :
    ∃ a o, v = .ref a ∧ DGx K H a y o ∧ (∀ d, valD ds j = some d → ∃ u, o = some u ∧ Dp K Z u d) ∧ (valD ds j = none → o = none) := by
  unfold kOk at ok
  rw [Bool.or_eq_true, Bool.and_eq_true, Bool.and_eq_true, Option.isSome_iff_exists, Option.isSome_iff_exists] at ok
  obtain ⟨a, rfl, hd'⟩ := top_dict hz hd
  rcases ok with ⟨⟨kk, hk⟩, hh⟩ | ⟨⟨kk, hk⟩, hh⟩
  · have ek := keyOfD_eq hk
    subst ek
    rcases hd' with ⟨kvs, h1, h2⟩ | ⟨h0, xs, h1, h2⟩
    · exact ⟨a, valV kvs kk, rfl, .inl (.inl ⟨kvs, kk, h1, keyV hj, rfl⟩), (h2.val kk).1, (h2.val kk).2⟩
    · rw [h2.noK h0] at hh; cases hh
  · obtain ⟨q, rfl, hq⟩ := keyRef hj hk
    rcases hd' with ⟨kvs, h1, h2⟩ | ⟨h0, xs, h1, h2⟩
    · obtain ⟨rfl, rfl⟩ := h2.noN hh
      exact ⟨a, none, rfl, .inr ⟨[], q, kk, ⟨.inr ⟨h1, rfl⟩, fun x hx => nomatch hx⟩, rfl, ⟨j, dp_mono hz hq, hk⟩, rfl⟩, fun d h => (by cases h), fun _ => rfl⟩
    · exact ⟨a, valNk xs kk, rfl, .inr ⟨xs, q, kk, ⟨.inl h1, h2.key hz⟩, rfl, ⟨j, dp_mono hz hq, hk⟩, rfl⟩, (h2.val hk).1, (h2.val hk).2⟩
/-- a store into one's own dict -/
theorem dpx_of {H : Hp} {a : Addr} {y v : V} {ds : List (PyData × PyData)} {j d : PyData} (hz : ∀ a o, Z a = some o → H a = some o) (hd : Own K H Z a (.dict ds)) (hj : Top K H Z y j) (hv : Dp K Z v d) (ok : kOk ds j = true) (hl : ds.length < sizeLine) :
    ∃ u, DPx K H a y v (upd H a u) ∧ (∀ ps, u ≠ .tbl ps) ∧ Own K (upd H a u) Z a (.dict (putD ds j d)) := by
  unfold kOk at ok
  rw [Bool.or_eq_true, Bool.and_eq_true, Bool.and_eq_true, Option.isSome_iff_exists, Option.isSome_iff_exists] at ok
  have hd := top_own hd
  rcases ok with ⟨⟨kk, hk⟩, hh⟩ | ⟨⟨kk, hk⟩, hh⟩
  · have ek := keyOfD_eq hk
    subst ek
    rcases hd with ⟨kvs, h1, h2⟩ | ⟨h0, xs, h1, h2⟩
    · have dk := h2.put kk hv
      exact ⟨_, .inl (.inl ⟨kvs, kk, h1, keyV hj, by rw [h2.length]; exact hl, rfl⟩), (fun _ e => by cases e), .dct upd_same dk.keys dk.vals⟩
    · rw [h2.noK h0] at hh; cases hh
  · obtain ⟨q, rfl, hq⟩ := keyRef hj hk
    have go : ∀ xs, (H a = some (DNo K a xs) ∨ H a = some (.dK []) ∧ xs = []) → DN K Z xs ds → ∃ u, DPx K H a (.ref q) v (upd H a u) ∧ (∀ ps, u ≠ .tbl ps) ∧ Own K (upd H a u) Z a (.dict (putD ds j d)) := fun xs h1 h2 => by
      have dn := h2.put hk hq hv
      refine ⟨DNo K a (putNk xs kk q v), .inr ⟨xs, q, kk, h1, h2.key hz, rfl, ⟨j, dp_mono hz hq, hk⟩, by rw [h2.length]; exact hl, rfl⟩, (fun _ e => by cases e), .dcn (fun e => ?_) upd_same dn.ks dn.kt dn.vs⟩
      have := valD_any (putD ds j d) j
      rw [e] at dn
      have e2 := dn.length
      have e3 : (putNk xs kk q v).length ≠ 0 := by
        unfold putNk
        split
        · rename_i c
          rw [List.length_map]
          intro z
          rw [List.eq_nil_of_length_eq_zero z] at c
          cases c
        · simp
      exact e3 e2
    rcases hd with ⟨kvs, h1, h2⟩ | ⟨h0, xs, h1, h2⟩
    · obtain ⟨rfl, rfl⟩ := h2.noN hh
      exact go [] (.inr ⟨h1, rfl⟩) .nil
    · exact go xs (.inl h1) h2
end
end ZD


namespace ZD
open PySem PySem.Spec PyProof.Rows L2 GxR ZG

theorem dpa_at {K : Fg} {Z : Hp} {vs : List V} {ds : List PyData} {i : Int} {d : PyData} (h : DpAll K Z vs ds) (e : atI ds i = some d) : ∃ v, atI vs i = some v ∧ Dp K Z v d := by
  unfold atI at e ⊢
  rw [dpa_length h]
  cases q : ixN ds.length i with
  | none => rw [q] at e; cases e
  | some j => rw [q] at e; exact dpa_get h e
def gotD : Option PyData → Out
  | some d => .d d
  | none => .bad
def oIx : PyData → PyData → Out
  | .list ds, .int i => gotD (atI ds i)
  | .tuple ds, .int i => gotD (atI ds i)
  | .str z, .int i => if z.length ≤ 2000000 then gotD ((atI z.cps.toList i).map fun c => .str ⟨#[c]⟩) else .bad
  | _, _ => .bad
section
variable {T : TL} {E : Wish} {X : Cx} {a b c : Expr} {pos : Pos} {p q w : M Od} {k : Nat}
theorem got_ok {K : Fg} {H Z : Hp} {Q : VK} {o : Option PyData} (h : OutOk K H Z Q (gotD o)) : ∃ d, o = some d ∧ ∀ v, Dp K Z v d → Q v H := by
  cases o with
  | none => exact False.elim h
  | some d => exact ⟨d, rfl, h⟩
theorem says_ix : Says2 X.G oIx (fun x y H Q => rIxL X.G x y H Q ∨ (rIxT X.G x y H Q ∨ rIxS x y H Q)) := by
  intro H Z v w d e Q hz hv hw ho
  have hm := million
  cases d with
  | list ds =>
    cases e with
    | int i =>
      obtain ⟨l, xs, rfl, h1, h2⟩ := hv.list hz
      cases hw.int
      obtain ⟨y, e1, q⟩ := got_ok (show OutOk X.G H Z Q (gotD (atI ds i)) from ho)
      obtain ⟨u, e2, hd⟩ := dpa_at h2 e1
      exact .inl ⟨l, xs, i, u, rfl, rfl, h1, e2, q u hd⟩
    | _ => exact False.elim ho
  | tuple ds =>
    cases e with
    | int i =>
      obtain ⟨l, xs, rfl, h1, h2⟩ := hv.tup hz
      cases hw.int
      obtain ⟨y, e1, q⟩ := got_ok (show OutOk X.G H Z Q (gotD (atI ds i)) from ho)
      obtain ⟨u, e2, hd⟩ := dpa_at h2 e1
      exact .inr (.inl ⟨l, xs, i, u, rfl, rfl, h1, e2, q u hd⟩)
    | _ => exact False.elim ho
  | str z =>
    cases e with
    | int i =>
      cases hv.str
      cases hw.int
      simp only [oIx] at ho
      by_cases hc : z.length ≤ 2000000
      · rw [if_pos hc] at ho
        obtain ⟨y, e1, q⟩ := got_ok ho
        obtain ⟨c, e2, rfl⟩ := Option.map_eq_some_iff.mp e1
        exact .inr (.inr ⟨z, i, c, rfl, rfl, by omega, e2, q _ (.str _)⟩)
      · rw [if_neg hc] at ho; exact ho.elim
    | _ => exact False.elim ho
  | _ => exact False.elim ho
theorem ge_ix (ha : GO T E X a p) (hb : GO T E X b q) (hs : PlainIx b := by intro _ _; rfl) : GE T E X (.Subscript a b pos) (op2 oIx p q) :=
  ge_op2 ha hb (fun _ _ h1 h2 => pe_ix (ix_list.or (ix_tup.or ix_str)) h1 h2 hs) says_ix

/-- f of a value and of a thing that is looked at -/
def opv2 (f : PyData → PyData → Out) (m : M Vl) (q : M Od) : M Vl := bnd m fun x => bnd q fun y => fun en => match look en y with
  | some e => out (f x.d e) en
  | none => .bad
theorem top_vl {k : Kx} {sg0 sg1 sg : L2.St} {H0 H1 H Z1 Z : Hp} {en0 en1 en : En} {v : V} {x : Vl} (r1 : Rel k sg1 H1 Z1 en1) (hv : VlOk k sg0 H0 en0 sg1 H1 Z1 en1 v x) (a : Aft k sg1 H1 Z1 en1 sg H Z en) : Top k.K H Z v x.d := by
  cases x with
  | sh d => exact .inl (dp_mono a.zz hv)
  | ow d =>
    obtain ⟨b, rfl, hz, ho, nm, _⟩ := hv
    obtain ⟨o, h1, h2, _⟩ := ho.here
    exact .inr ⟨b, rfl, ho.mono (fun o' q => a.keep q nm (by rw [h1] at q; cases q; exact h2)) a.zz⟩
theorem ge_opv2 {f : PyData → PyData → Out} {r : R2} {m : M Vl} {e : Expr} (ha : GE T E X a m) (hb : GO T E X b q) (hB : ∀ ta tb, PE X a ta → PE X b tb → PE X e (tOp r ta tb)) (hf : Says2 X.G f r) : GE T E X e (opv2 f m q) :=
  pe_imp (hB _ _ ha hb) fun sg H Q ⟨en, Z, r0, q⟩ => ⟨en, Z, r0, post_mono (post_bnd r0 q) fun x en1 H1 Z1 _ ⟨a1, q1⟩ v hv => ⟨en1, Z1, a1.rel, post_mono (post_bnd a1.rel q1) fun y en2 H2 Z2 _ ⟨a2, q2⟩ w hw => by
    cases hl2 : look en2 y with
    | none => simp only [hl2] at q2; exact q2.elim
    | some d2 =>
      simp only [hl2] at q2
      exact hf H2 Z2 v w x.d d2 Q a2.rel.sub (top_vl a1.rel hv a2) (top_of a2.rel hw hl2) (out_ok (sg0 := sg) a2.rel (a1.trans a2 r0) q2)⟩⟩
theorem ge_ixv {m : M Vl} (ha : GE T E X a m) (hb : GO T E X b q) (hs : PlainIx b := by intro _ _; rfl) : GE T E X (.Subscript a b pos) (opv2 oIx m q) :=
  ge_opv2 ha hb (fun _ _ h1 h2 => pe_ix (ix_list.or (ix_tup.or ix_str)) h1 h2 hs) says_ix

def cutD (xs : List PyData) (lo hi : Option Int) : List PyData := (xs.drop (HT.sIx xs.length 0 lo)).take (HT.sIx xs.length xs.length hi - HT.sIx xs.length 0 lo)
theorem dpa_cut {K : Fg} {Z : Hp} {vs : List V} {ds : List PyData} (lo hi : Option Int) (h : DpAll K Z vs ds) : DpAll K Z (cutV vs lo hi) (cutD ds lo hi) := by
  unfold cutV cutD
  rw [dpa_length h]
  exact dpa_take _ (dpa_drop _ h)
def oSl (lo hi : Option Int) : PyData → Out
  | .list ds => .nl (cutD ds lo hi)
  | .tuple ds => .nt (cutD ds lo hi)
  | .str z => if z.length ≤ 2000000 then .d (.str (cutS z lo hi)) else .bad
  | _ => .bad
def tP (k : Kx) (E : Wish) (m : M (Option Int)) : TO := fun sg H Q => ∃ en Z, Rel k sg H Z en ∧ Post k E sg H Z en (m en) fun x _ H' Z' => Q x H'
abbrev GP (T : TL) (E : Wish) (X : Cx) (e : Option Expr) (m : M (Option Int)) : Prop := PO X e (tP ⟨X.G, T⟩ E m)
theorem po_imp {X : Cx} {e : Option Expr} {t u : TO} (h : PO X e t) (i : ∀ sg H Q, u sg H Q → t sg H Q) : PO X e u := ⟨fun pins s sg H Q I q => h.run pins s sg H Q I (i _ _ _ q)⟩
def pno : M (Option Int) := ret none
def pso (p : M Od) : M (Option Int) := bnd p fun x => fun en => match look en x with
  | some (.int i) => .ok (some i) en
  | _ => .bad
theorem gp_no : GP T E X none pno := po_imp po_none fun sg H Q ⟨en, Z, r, q⟩ => post_ret r q
theorem gp_so (ha : GO T E X a p) : GP T E X (some a) (pso p) := po_imp (po_some ha) fun sg H Q ⟨en, Z, r, q⟩ => ⟨en, Z, r, post_mono (post_bnd r q) fun x en1 H1 Z1 _ ⟨a1, q1⟩ v hv => by
  cases hl : look en1 x with
  | none => simp only [hl] at q1; exact q1.elim
  | some d =>
    have ht := top_of a1.rel hv hl
    cases d with
    | int i => simp only [hl] at q1; exact ⟨i, ht.int, q1 H1 Z1 (Aft.refl a1.rel)⟩
    | _ => simp only [hl] at q1; exact q1.elim⟩
def mslice (p : M Od) (l u : M (Option Int)) : M Vl := bnd p fun x => bnd l fun lo => bnd u fun hi => fun en => match look en x with
  | some d => out (oSl lo hi d) en
  | none => .bad
def rSl (K : Fg) : V → Option Int → Option Int → Hp → VK → Prop := fun x lo hi H Q => rSlL K x lo hi H Q ∨ (rSlF K x lo hi H Q ∨ rSlS x lo hi H Q)
theorem says_sl {H Z : Hp} {v : V} {d : PyData} {Q : VK} {lo hi : Option Int} (hz : ∀ a o, Z a = some o → H a = some o) (hv : Top X.G H Z v d) (ho : OutOk X.G H Z Q (oSl lo hi d)) : rSl X.G v lo hi H Q := by
  have hm := million
  cases d with
  | list ds =>
    obtain ⟨l, xs, rfl, h1, h2⟩ := hv.list hz
    exact .inl ⟨l, xs, rfl, h1, fun p hp => ho p _ hp (dpa_cut lo hi h2)⟩
  | tuple ds =>
    have hv0 := hv
    obtain ⟨l, xs, rfl, h1, h2⟩ := hv.tup hz
    have dv : Dp X.G Z (.ref l) (.tuple ds) := by rcases hv0 with z | ⟨a, _, z⟩; exact z; cases z
    refine .inr (.inl ⟨l, xs, rfl, h1, fun z => ho.1 _ ?_, fun _ p ob hp hc hd => ho.2 p _ ob hp hc hd (dpa_cut lo hi h2)⟩)
    have e : cutD ds lo hi = ds := by
      have hl := dpa_length h2
      unfold cutD
      rw [← hl, z.1, z.2, List.drop_zero, Nat.sub_zero, hl, List.take_length]
    rw [e]
    exact dv
  | str z =>
    cases hv.str
    simp only [oSl] at ho
    by_cases hc : z.length ≤ 2000000
    · rw [if_pos hc] at ho
      exact .inr (.inr ⟨z, rfl, by omega, ho _ (.str _)⟩)
    · rw [if_neg hc] at ho; exact ho.elim
  | _ => exact False.elim ho
theorem ge_slice {l u : M (Option Int)} {lo hi : Option Expr} {p2 : Pos} (ha : GO T E X a p) (hl : GP T E X lo l) (hu : GP T E X hi u) : GE T E X (.Subscript a (.Slice lo hi none p2) pos) (mslice p l u) :=
  pe_imp (pe_slice (SlR.or sl_list (SlR.or sl_tupF sl_str)) ha hl hu) fun sg H Q ⟨en, Z, r0, q⟩ => ⟨en, Z, r0, post_mono (post_bnd r0 q) fun x en1 H1 Z1 _ ⟨a1, q1⟩ v hv => ⟨en1, Z1, a1.rel, post_mono (post_bnd a1.rel q1) fun lo en2 H2 Z2 _ ⟨a2, q2⟩ =>
    ⟨en2, Z2, a2.rel, post_mono (post_bnd a2.rel q2) fun hi en3 H3 Z3 _ ⟨a3, q3⟩ => by
    cases hl : look en3 x with
    | none => simp only [hl] at q3; exact q3.elim
    | some d =>
      simp only [hl] at q3
      exact says_sl a3.rel.sub (top_of a3.rel (od_mono a3 (od_mono a2 hv)) hl) (out_ok (sg0 := sg) a3.rel ((a1.trans a2 r0).trans a3 r0) q3)⟩⟩⟩

theorem ge_cb1 {x : Str} {px : Pos} {id : String} {f : PyData → Out} {r : List V → Hp → VK → Prop} (hc : CallR X (.builtin id) r) (hv : bootBuiltins x = some (.builtin id)) (hf : Says1 X.G f fun v H Q => r [v] H Q) (hg : Gl X x) (hm : X.mg x = none) (ha : GO T E X a p)
    (hn : x ≠ "__name__" := by decide) (hdb : (x == ("__debug__" : Str)) = false := by decide) (he : starEach [a] X.env = (false, eval a X.env) :: starEach [] X.env := by rfl) (hpl : (backTo pos (starEach [] X.env)).any (·.1) = false := by rfl) : GE T E X (.Call (.Name x px) [a] [] pos) (op1 f p) :=
  ge_op1 ha (fun ta h => pe_callB hc hg hm hv (pa_cons h pa_nil he) hn hdb he hpl) hf
theorem ge_ct1 {x : Str} {px : Pos} {id : String} {f : PyData → Out} {r : List V → Hp → VK → Prop} (hc : CallR X (.type id) r) (hv : bootBuiltins x = some (.type id)) (hf : Says1 X.G f fun v H Q => r [v] H Q) (hg : Gl X x) (hm : X.mg x = none) (ha : GO T E X a p)
    (hn : x ≠ "__name__" := by decide) (hdb : (x == ("__debug__" : Str)) = false := by decide) (he : starEach [a] X.env = (false, eval a X.env) :: starEach [] X.env := by rfl) (hpl : (backTo pos (starEach [] X.env)).any (·.1) = false := by rfl) : GE T E X (.Call (.Name x px) [a] [] pos) (op1 f p) :=
  ge_op1 ha (fun ta h => pe_callTy hc hg hm hv (pa_cons h pa_nil he) hn hdb he hpl) hf
theorem ge_cb2 {x : Str} {px : Pos} {id : String} {f : PyData → PyData → Out} {r : List V → Hp → VK → Prop} (hc : CallR X (.builtin id) r) (hv : bootBuiltins x = some (.builtin id)) (hf : Says2 X.G f fun v w H Q => r [v, w] H Q) (hg : Gl X x) (hm : X.mg x = none) (ha : GO T E X a p) (hb : GO T E X b q)
    (hn : x ≠ "__name__" := by decide) (hdb : (x == ("__debug__" : Str)) = false := by decide) (he : starEach [a, b] X.env = (false, eval a X.env) :: starEach [b] X.env := by rfl) (he2 : starEach [b] X.env = (false, eval b X.env) :: starEach [] X.env := by rfl) (hpl : (backTo pos (starEach [b] X.env)).any (·.1) = false := by rfl) : GE T E X (.Call (.Name x px) [a, b] [] pos) (op2 f p q) :=
  ge_op2 ha hb (fun ta tb h h2 => pe_callB hc hg hm hv (pa_cons h (pa_cons h2 pa_nil he2) he) hn hdb he hpl) hf

theorem boot_len : bootBuiltins "len" = some (.builtin "len") := by decide +kernel
theorem boot_tuple : bootBuiltins "tuple" = some (.type "tuple") := by decide +kernel
theorem boot_list : bootBuiltins "list" = some (.type "list") := by decide +kernel
theorem boot_int : bootBuiltins "int" = some (.type "int") := by decide +kernel
theorem boot_abs : bootBuiltins "abs" = some (.builtin "abs") := by decide +kernel
theorem boot_sorted : bootBuiltins "sorted" = some (.builtin "sorted") := by decide +kernel
theorem boot_sum : bootBuiltins "sum" = some (.builtin "sum") := by decide +kernel
theorem boot_max : bootBuiltins "max" = some (.builtin "max") := by decide +kernel
theorem boot_isinstance : bootBuiltins "isinstance" = some (.builtin "isinstance") := by decide +kernel

def oLen : PyData → Out
  | .list ds => .d (.int ds.length)
  | .tuple ds => .d (.int ds.length)
  | .str z => if z.length ≤ 2000000 then .d (.int z.length) else .bad
  | .dict kvs => .d (.int kvs.length)
  | _ => .bad
/-- len(d) -/
def rLenX (K : Fg) : List V → Hp → VK → Prop := fun xs H Q => ∃ a, xs = [V.ref a] ∧ ((∃ kvs, Rd H a (.dK kvs) ∧ Q (.int kvs.length) H) ∨ ∃ ys, RdN K H a ys ∧ Q (.int ys.length) H)
theorem call_lenX : CallR X (.builtin "len") (rLenX X.G) := by
  intro pins s σ H xs us Q I r h
  obtain ⟨a, rfl, h⟩ := h
  obtain ⟨u, rfl, ru⟩ := vals1 r
  cases ru
  rcases h with ⟨kvs, ha, q⟩ | ⟨ys, ha, q⟩
  · exact d_len I ha fun t s' I' => ⟨.int kvs.length, H, I', ⟨t, rfl⟩, q⟩
  · obtain ⟨z, hs, zs, rel, dd⟩ := dn_rd I ha
    have e : ys.length = zs.length := Paired.length rel
    refine call_len_dictH hs dd (by rw [sizeLine_eq] at z; omega) ?_
    rw [← e]
    exact ⟨.int ys.length, H, I.tok _, ⟨_, rfl⟩, q⟩
theorem says_len : Says1 X.G oLen fun v H Q => (fun xs H Q => (∃ x n, xs = [x] ∧ LenV X.G x H n ∧ Q (.int n) H) ∨ rLenX X.G xs H Q) [v] H Q := by
  intro H Z v d Q hz hv ho
  have hm := million
  cases d with
  | list ds =>
    obtain ⟨l, xs, rfl, h1, h2⟩ := hv.list hz
    refine .inl ⟨_, xs.length, rfl, .inl ⟨xs, h1, rfl⟩, ?_⟩
    rw [dpa_length h2]
    exact (show OutOk X.G H Z Q (.d (.int ds.length)) from ho) _ (.int _)
  | tuple ds =>
    obtain ⟨l, xs, rfl, h1, h2⟩ := hv.tup hz
    refine .inl ⟨_, xs.length, rfl, .inr ⟨xs, h1, rfl⟩, ?_⟩
    rw [dpa_length h2]
    exact (show OutOk X.G H Z Q (.d (.int ds.length)) from ho) _ (.int _)
  | str z =>
    cases hv.str
    simp only [oLen] at ho
    by_cases hc : z.length ≤ 2000000
    · rw [if_pos hc] at ho
      exact .inl ⟨_, z.length, rfl, ⟨by omega, rfl⟩, ho _ (.int _)⟩
    · rw [if_neg hc] at ho; exact ho.elim
  | dict ds =>
    have ho := (show OutOk X.G H Z Q (.d (.int ds.length)) from ho) _ (.int _)
    obtain ⟨a, rfl, h⟩ := top_dict hz hv
    refine .inr ⟨a, rfl, ?_⟩
    rcases h with ⟨kvs, h1, h2⟩ | ⟨_, xs, h1, h2⟩
    · exact .inl ⟨kvs, h1, by rw [h2.length]; exact ho⟩
    · exact .inr ⟨xs, ⟨.inl h1, h2.key hz⟩, by rw [h2.length]; exact ho⟩
  | _ => exact False.elim ho
theorem ge_len {px : Pos} (hg : Gl X "len") (hm : X.mg "len" = none) (ha : GO T E X a p) (he : starEach [a] X.env = (false, eval a X.env) :: starEach [] X.env := by rfl) (hpl : (backTo pos (starEach [] X.env)).any (·.1) = false := by rfl) : GE T E X (.Call (.Name "len" px) [a] [] pos) (op1 oLen p) :=
  ge_cb1 (CallR.or call_len call_lenX) boot_len says_len hg hm ha (by decide) (by decide) he hpl
def oTuple : PyData → Out
  | .list ds => .nt ds
  | .tuple ds => .d (.tuple ds)
  | _ => .bad
theorem says_tuple : Says1 X.G oTuple fun v H Q => rTupF X.K [v] H Q := by
  intro H Z v d Q hz hv ho
  cases d with
  | list ds =>
    obtain ⟨l, xs, rfl, h1, h2⟩ := hv.list hz
    exact ⟨l, xs, rfl, .inl ⟨h1, fun p ob hp hc hd => ho.2 p _ ob hp hc hd h2⟩⟩
  | tuple ds =>
    have hv0 := hv
    obtain ⟨l, xs, rfl, h1, h2⟩ := hv.tup hz
    have dv : Dp X.G Z (.ref l) (.tuple ds) := by rcases hv0 with z | ⟨a, _, z⟩; exact z; cases z
    exact ⟨l, xs, rfl, .inr ⟨h1, ho _ dv⟩⟩
  | _ => exact False.elim ho
theorem ge_tuple {px : Pos} (hg : Gl X "tuple") (hm : X.mg "tuple" = none) (ha : GO T E X a p) (he : starEach [a] X.env = (false, eval a X.env) :: starEach [] X.env := by rfl) (hpl : (backTo pos (starEach [] X.env)).any (·.1) = false := by rfl) : GE T E X (.Call (.Name "tuple" px) [a] [] pos) (op1 oTuple p) :=
  ge_ct1 call_tupF boot_tuple says_tuple hg hm ha (by decide) (by decide) he hpl
def oList : PyData → Out
  | .list ds => .nl ds
  | .tuple ds => .nl ds
  | _ => .bad
theorem says_list : Says1 X.G oList fun v H Q => (fun xs H Q => ∃ p ys, xs = [V.ref p] ∧ (SqL X.K H p ys ∨ SqT X.K H p ys) ∧ ∀ l, H l = none → Q (.ref l) (upd H l (.lst ys))) [v] H Q := by
  intro H Z v d Q hz hv ho
  cases d with
  | list ds =>
    obtain ⟨l, xs, rfl, h1, h2⟩ := hv.list hz
    exact ⟨l, xs, rfl, .inl h1, fun p hp => ho p _ hp h2⟩
  | tuple ds =>
    obtain ⟨l, xs, rfl, h1, h2⟩ := hv.tup hz
    exact ⟨l, xs, rfl, .inr h1, fun p hp => ho p _ hp h2⟩
  | _ => exact False.elim ho
theorem ge_list {px : Pos} (hg : Gl X "list") (hm : X.mg "list" = none) (ha : GO T E X a p) (he : starEach [a] X.env = (false, eval a X.env) :: starEach [] X.env := by rfl) (hpl : (backTo pos (starEach [] X.env)).any (·.1) = false := by rfl) : GE T E X (.Call (.Name "list" px) [a] [] pos) (op1 oList p) :=
  ge_ct1 call_list_of boot_list says_list hg hm ha (by decide) (by decide) he hpl
def oSorted : PyData → Out
  | .list ds => if sortOk ds = true then .nl (sortD ds) else .bad
  | .tuple ds => if sortOk ds = true then .nl (sortD ds) else .bad
  | _ => .bad
theorem says_sorted : Says1 X.G oSorted fun v H Q => rSortedD X.G [v] H Q := by
  intro H Z v d Q hz hv ho
  cases d with
  | list ds =>
    obtain ⟨l, xs, rfl, h1, h2⟩ := hv.list hz
    simp only [oSorted] at ho
    by_cases hc : sortOk ds = true
    · rw [if_pos hc] at ho
      exact ⟨l, xs, ds, Z, hz, rfl, .inl h1, h2, hc, fun ys p hd hp => ho p ys hp hd⟩
    · rw [if_neg hc] at ho; exact ho.elim
  | tuple ds =>
    obtain ⟨l, xs, rfl, h1, h2⟩ := hv.tup hz
    simp only [oSorted] at ho
    by_cases hc : sortOk ds = true
    · rw [if_pos hc] at ho
      exact ⟨l, xs, ds, Z, hz, rfl, .inr h1, h2, hc, fun ys p hd hp => ho p ys hp hd⟩
    · rw [if_neg hc] at ho; exact ho.elim
  | _ => exact False.elim ho
theorem ge_sorted {px : Pos} (hr : Room k X.A) (hg : Gl X "sorted") (hm : X.mg "sorted" = none) (ha : GO T E X a p) (he : starEach [a] X.env = (false, eval a X.env) :: starEach [] X.env := by rfl) (hpl : (backTo pos (starEach [] X.env)).any (·.1) = false := by rfl) : GE T E X (.Call (.Name "sorted" px) [a] [] pos) (op1 oSorted p) :=
  ge_cb1 (cr_sortedD hr) boot_sorted says_sorted hg hm ha (by decide) (by decide) he hpl
/-- f of a whole number (a truth value counts as one where b says so) -/
def oI1 (f : Int → Int) : PyData → Out
  | .int i => .d (.int (f i))
  | _ => .bad
theorem says_i1 {f : Int → Int} {r : V → Hp → VK → Prop} (h : ∀ i H Q, Q (.int (f i)) H → r (.int i) H Q) : Says1 X.G (oI1 f) r := by
  intro H Z v d Q hz hv ho
  cases d with
  | int i =>
    cases hv.int
    exact h _ _ _ ((show OutOk X.G H Z Q (.d (.int (f i))) from ho) _ (.int _))
  | _ => exact False.elim ho
def absI (i : Int) : Int := if i < 0 then -i else i
theorem ge_abs {px : Pos} (hg : Gl X "abs") (hm : X.mg "abs" = none) (ha : GO T E X a p) (he : starEach [a] X.env = (false, eval a X.env) :: starEach [] X.env := by rfl) (hpl : (backTo pos (starEach [] X.env)).any (·.1) = false := by rfl) : GE T E X (.Call (.Name "abs" px) [a] [] pos) (op1 (oI1 absI) p) :=
  ge_cb1 call_abs boot_abs (says_i1 fun i H Q q => ⟨i, rfl, q⟩) hg hm ha (by decide) (by decide) he hpl
theorem ge_int {px : Pos} (hg : Gl X "int") (hm : X.mg "int" = none) (ha : GO T E X a p) (he : starEach [a] X.env = (false, eval a X.env) :: starEach [] X.env := by rfl) (hpl : (backTo pos (starEach [] X.env)).any (·.1) = false := by rfl) : GE T E X (.Call (.Name "int" px) [a] [] pos) (op1 (oI1 fun i => i) p) :=
  ge_ct1 call_int1 boot_int (says_i1 fun i H Q q => .inl ⟨i, rfl, q⟩) hg hm ha (by decide) (by decide) he hpl
def tyN : PyData → String
  | .none => "NoneType" | .bool _ => "bool" | .int _ => "int" | .str _ => "str" | .list _ => "list" | .tuple _ => "tuple" | .dict _ => "dict"
theorem ty_seqL {K : Fg} {H : Hp} {a : Addr} {xs : List V} (h : SqL K H a xs) : TyX K H (.ref a) (.type "list") := by
  rcases h with (h | ⟨o, h⟩) | ⟨o, its, n, h1, h2, _⟩
  · exact .base (.lst h)
  · exact .base (.frz h)
  · exact .kList h1 h2
theorem ty_seqT {K : Fg} {H : Hp} {a : Addr} {xs : List V} (h : SqT K H a xs) : TyX K H (.ref a) (.type "tuple") := by
  rcases h with (h | ⟨o, h⟩) | ⟨o, its, n, h1, h2, _⟩
  · exact .base (.tup h)
  · exact .fTuple h
  · exact .kTuple h1 h2
inductive TyY (K : Fg) (H : Hp) : V → Value → Prop where
  | x {v : V} {t : Value} (h : TyX K H v t) : TyY K H v t
  | dn {a : Addr} {xs : List (NestedKey × Addr × V)} (h : RdN K H a xs) : TyY K H (.ref a) (.type "dict")
theorem kit_ofY {pins : List (Addr × Obj)} {σ : L2.St} {H : Hp} {s : Shared} {x : V} {u t : Value} (I : L2.Inv X pins σ H s) (rx : RelV x u) (ty : TyY X.G H x t) : ∃ P : Heap → Prop, PySem.W.KitX X.K u t P ∧ P s.heap ∧ u ≠ .builtin "__main__.__loader__#opaque" := by
  cases ty with
  | x h => exact kit_of I rx h
  | @dn a xs h =>
    cases (show u = Value.ref a from rx)
    obtain ⟨_, _, ys, _, o, es, ep, h1, h2, _⟩ := dn_rd I h
    exact ⟨_, PySem.W.kitx_dict, ⟨o, h1, h2.1⟩, fun z => nomatch z⟩
def rIsiY (K : Fg) : List V → Hp → VK → Prop := fun xs H Q => ∃ (x c : V) (t u : Value) (b : Bool), xs = [x, c] ∧ ClsV c u ∧ TyY K H x t ∧ PySem.W.kitOne K.K t u = some b ∧ Q (.bl b) H
theorem call_isiY : CallR X (.builtin "isinstance") (rIsiY X.G) := by
  intro pins s σ H xs us Q I r h
  obtain ⟨x, c, t, u, b, rfl, k, ty, e, q⟩ := h
  obtain ⟨u1, u2, rfl, r1, r2⟩ := vals2 r
  have e2 := k.eq r2
  subst e2
  obtain ⟨P, Z, p, hx⟩ := kit_ofY I r1 ty
  exact PySem.W.kia_one Z I.kIn p e hx fun tk => ⟨.bl b, H, I.tok tk, rfl, q⟩
theorem ty_top {K : Fg} {H Z : Hp} {v : V} {d : PyData} (hz : ∀ a o, Z a = some o → H a = some o) (h : Top K H Z v d) : TyY K H v (.type (tyN d)) := by
  cases d with
  | none => cases h.none; exact .x (.base .non)
  | bool b => cases h.bool; exact .x (.base (.bl b))
  | int i => cases h.int; exact .x (.base (.int i))
  | str z => cases h.str; exact .x (.base (.str z))
  | list ds => obtain ⟨a, xs, rfl, h1, _⟩ := h.list hz; exact .x (ty_seqL h1)
  | tuple ds => obtain ⟨a, xs, rfl, h1, _⟩ := h.tup hz; exact .x (ty_seqT h1)
  | dict ds =>
    obtain ⟨a, rfl, h'⟩ := top_dict hz h
    rcases h' with ⟨kvs, h1 | ⟨o, h1⟩, h2⟩ | ⟨_, xs, h1, h2⟩
    · exact .x (.base (.dK h1))
    · exact .x (.fDict h1)
    · exact .dn (xs := xs) ⟨.inl h1, h2.key hz⟩
theorem kitB_all (n : String) (a0 a1 a2 a3 a4 a5 a6 : Bool) (h : [kitB "NoneType" n, kitB "bool" n, kitB "int" n, kitB "str" n, kitB "list" n, kitB "tuple" n, kitB "dict" n] = [some a0, some a1, some a2, some a3, some a4, some a5, some a6]) (f : PyData → Bool)
    (h0 : f .none = a0) (h1 : ∀ b, f (.bool b) = a1) (h2 : ∀ b, f (.int b) = a2) (h3 : ∀ b, f (.str b) = a3) (h4 : ∀ b, f (.list b) = a4) (h5 : ∀ b, f (.tuple b) = a5) (h6 : ∀ b, f (.dict b) = a6) : ∀ d, kitB (tyN d) n = some (f d) := by
  simp only [List.cons.injEq, and_true] at h
  obtain ⟨k0, k1, k2, k3, k4, k5, k6⟩ := h
  intro d
  cases d with
  | none => rw [h0]; exact k0
  | bool b => rw [h1]; exact k1
  | int b => rw [h2]; exact k2
  | str b => rw [h3]; exact k3
  | list b => rw [h4]; exact k4
  | tuple b => rw [h5]; exact k5
  | dict b => rw [h6]; exact k6
def isiInt : PyData → Bool
  | .int _ => true | .bool _ => true | _ => false
def isiBool : PyData → Bool
  | .bool _ => true | _ => false
def isiStr : PyData → Bool
  | .str _ => true | _ => false
def isiList : PyData → Bool
  | .list _ => true | _ => false
def isiTup : PyData → Bool
  | .tuple _ => true | _ => false
def oTest (f : PyData → Bool) : PyData → Out := fun d => .d (.bool (f d))
/-- the type named x says of a tree whether it is one -/
structure IsiT (x : Str) (n : String) (f : PyData → Bool) : Prop where
  boot : bootBuiltins x = some (.type n)
  is : ∀ d, kitB (tyN d) n = some (f d)
theorem isi_int : IsiT "int" "int" isiInt := ⟨by decide +kernel, kitB_all _ _ _ _ _ _ _ _ (by decide +kernel) _ rfl (fun _ => rfl) (fun _ => rfl) (fun _ => rfl) (fun _ => rfl) (fun _ => rfl) (fun _ => rfl)⟩
theorem isi_bool : IsiT "bool" "bool" isiBool := ⟨by decide +kernel, kitB_all _ _ _ _ _ _ _ _ (by decide +kernel) _ rfl (fun _ => rfl) (fun _ => rfl) (fun _ => rfl) (fun _ => rfl) (fun _ => rfl) (fun _ => rfl)⟩
theorem isi_str : IsiT "str" "str" isiStr := ⟨by decide +kernel, kitB_all _ _ _ _ _ _ _ _ (by decide +kernel) _ rfl (fun _ => rfl) (fun _ => rfl) (fun _ => rfl) (fun _ => rfl) (fun _ => rfl) (fun _ => rfl)⟩
theorem isi_tup : IsiT "tuple" "tuple" isiTup := ⟨by decide +kernel, kitB_all _ _ _ _ _ _ _ _ (by decide +kernel) _ rfl (fun _ => rfl) (fun _ => rfl) (fun _ => rfl) (fun _ => rfl) (fun _ => rfl) (fun _ => rfl)⟩
theorem ge_isi {x : Str} {n : String} {f : PyData → Bool} {px p2 : Pos} (I : IsiT x n f) (hg : Gl X "isinstance") (hm : X.mg "isinstance" = none) (hg2 : Gl X x) (hm2 : X.mg x = none) (ha : GO T E X a p)
    (hn : x ≠ "__name__" := by decide) (hdb : (x == ("__debug__" : Str)) = false := by decide)
    (he : starEach [a, .Name x p2] X.env = (false, eval a X.env) :: starEach [.Name x p2] X.env := by rfl) (he2 : starEach [.Name x p2] X.env = (false, eval (.Name x p2) X.env) :: starEach [] X.env := by rfl) (hpl : (backTo pos (starEach [.Name x p2] X.env)).any (·.1) = false := by rfl) :
    GE T E X (.Call (.Name "isinstance" px) [a, .Name x p2] [] pos) (op1 (oTest f) p) :=
  ge_op1 (r := fun v H Q => rIsiY X.G [v, .ty n] H Q) ha (fun ta h => pe_callB call_isiY hg hm boot_isinstance (pa_cons h (pa_cons (pe_bltn (v := .ty n) hg2 hm2 I.boot rfl hn hdb) pa_nil he2) he) (by decide) (by decide) he hpl) fun H Z v d Q hz hv ho =>
    ⟨v, .ty n, .type (tyN d), .type n, f d, rfl, .ty n, ty_top hz hv, kit_ty (I.is d), ho _ (.bl _)⟩
end
end ZD


namespace ZD
open PySem PySem.Spec PyProof.Rows L2 GxR ZG

section
variable {k : Kx} {sg : L2.St} {H Z : Hp} {en : En} {E : Wish}
theorem aft_write {i : Nat} {a : Addr} {d0 d' : PyData} {o' : HO} {s : Sl} (mk : PyData → Sl) (r : Rel k sg H Z en) (he : en[i]? = some (mk d0)) (hmk : mk = Sl.ow ∨ mk = Sl.io) (hv : sg[i]? = some (some (V.ref a))) (ho : Own k.K (upd H a o') Z a d') :
    Aft k sg H Z en sg (upd H a o') Z (en.set i (mk d')) := by
  have own : isOwn (mk d0) = true := by rcases hmk with rfl | rfl <;> rfl
  have own' : isOwn (mk d') = true := by rcases hmk with rfl | rfl <;> rfl
  have hm : Mine H sg en a := ⟨i, _, he, own, .inl hv⟩
  obtain ⟨haz, oa, h1, h2, _, hfr⟩ := r.mine hm
  have hi : i < en.length := (List.getElem?_eq_some_iff.mp he).1
  have at_ : ∀ (l : Nat) (s : Sl), (en.set i (mk d'))[l]? = some s → (l = i ∧ s = mk d') ∨ (l ≠ i ∧ en[l]? = some s) := fun l s h => by
    by_cases e : l = i
    · rw [e, List.getElem?_set_self hi] at h; cases h; exact .inl ⟨e, rfl⟩
    · rw [List.getElem?_set_ne (Ne.symm e)] at h; exact .inr ⟨e, h⟩
  have one : ∀ (b : Addr) (dd : PyData), Pl (upd H a o') sg i (mk dd) b → sg[i]? = some (some (V.ref b)) := fun b dd h => by
    rcases hmk with rfl | rfl
    · exact pl_ow h
    · exact pl_io h
  have up : ∀ b o, b ≠ a → H b = some o → upd H a o' b = some o := fun b o ne h => by rw [upd_ne ne]; exact h
  have nb : ∀ (l : Nat) (s : Sl) (b : Addr), l ≠ i → en[l]? = some s → isOwn s = true → Pl H sg l s b → b ≠ a := fun l s b hl e ho hp z => hl (r.dis l i s _ a e he ho own (by rw [← z]; exact hp) (.inl hv))
  have pls : ∀ (l : Nat) (s : Sl) (b : Addr), l ≠ i → en[l]? = some s → isOwn s = true → Pl (upd H a o') sg l s b → Pl H sg l s b := fun l s b hl e ho hp => by
    rcases hp with hp | ⟨dd, rr, ws, rfl, g1, g2, g3⟩
    · exact .inl hp
    · rw [upd_ne (nb l _ rr hl e rfl (.inl g1))] at g2
      exact .inr ⟨dd, rr, ws, rfl, g1, g2, g3⟩
  have mset : ∀ b, Mine (upd H a o') sg (en.set i (mk d')) b → Mine H sg en b := fun b ⟨l, s, g1, g2, g3⟩ => by
    rcases at_ l s g1 with ⟨rfl, rfl⟩ | ⟨hl, e⟩
    · exact ⟨l, _, he, own, .inl (one b _ g3)⟩
    · exact ⟨l, s, e, g2, pls l s b hl e g2 g3⟩
  refine ⟨⟨fun b o h => up b o (fun e => by rw [e, haz] at h; cases h) (r.sub b o h), fun l s h => ?_, fun l1 l2 s t b g1 g2 g3 g4 g5 g6 => ?_, r.tab.mono (fun b o h c => up b o (fun e => by rw [e] at h; have z : H a = some o := h; rw [h1] at z; cases z; rcases c with ⟨ps, c⟩ | ⟨u, y, c⟩; exact h2 ps c; exact hfr u y c) h) fun _ _ _ h => h⟩, fun _ _ h => h, fun _ _ h => .inl h, fun b o h m => .inl (up b o (fun e => m (e ▸ hm)) h), fun b h => .inl (mset b h), fun l dd h => ?_, fun _ t => t.mono (fun b o h c => up b o (fun e => by rw [e] at h; have z : H a = some o := h; rw [h1] at z; cases z; rcases c with ⟨ps, c⟩ | ⟨u, y, c⟩; exact h2 ps c; exact hfr u y c) h) fun _ _ _ h => h⟩
  · rcases at_ l s h with ⟨rfl, rfl⟩ | ⟨hl, e⟩
    · refine ⟨_, hv, ?_⟩
      rcases hmk with rfl | rfl
      · exact ⟨a, rfl, haz, ho⟩
      · exact ⟨a, rfl, haz, ho⟩
    · obtain ⟨u, hu, hs⟩ := r.sl l s e
      exact ⟨u, hu, sl_mono hu hs (fun b ho hp o q => up b o (nb l s b hl e ho hp) q) (fun _ _ _ q => q) fun _ _ q => q⟩
  · rcases at_ l1 s g1 with ⟨rfl, rfl⟩ | ⟨n1, e1⟩
    · rcases at_ l2 t g2 with ⟨rfl, rfl⟩ | ⟨n2, e2⟩
      · rfl
      · exact r.dis l1 l2 _ t b he e2 own g4 (.inl (one b _ g5)) (pls l2 t b n2 e2 g4 g6)
    · rcases at_ l2 t g2 with ⟨rfl, rfl⟩ | ⟨n2, e2⟩
      · exact r.dis l1 l2 s _ b e1 he g3 own (pls l1 s b n1 e1 g3 g5) (.inl (one b _ g6))
      · exact r.dis l1 l2 s t b e1 e2 g3 g4 (pls l1 s b n1 e1 g3 g5) (pls l2 t b n2 e2 g4 g6)
  · by_cases hl : l = i
    · subst hl
      rw [he] at h
      rcases hmk with rfl | rfl
      · cases h
      · exact ⟨⟨d', List.getElem?_set_self hi⟩, rfl⟩
    · exact ⟨⟨dd, by rw [List.getElem?_set_ne (Ne.symm hl)]; exact h⟩, rfl⟩
/-- the thing of name i becomes what g says; a value comes out -/
def wr (i : Nat) (g : PyData → Option (PyData × PyData)) : M PyData := fun en => match en[i]? with
  | some (.ow d) => (match g d with
    | some (d', x) => .ok x (en.set i (.ow d'))
    | none => .bad)
  | some (.io d) => (match g d with
    | some (d', x) => .ok x (en.set i (.io d'))
    | none => .bad)
  | _ => .bad
theorem wr_ok {i : Nat} {g : PyData → Option (PyData × PyData)} {P : PyData → En → Hp → Hp → Prop} (r : Rel k sg H Z en) (h : Post k E sg H Z en (wr i g en) P) :
    ∃ (a : Addr) (d d' x : PyData) (en' : En), sg[i]? = some (some (V.ref a)) ∧ Own k.K H Z a d ∧ g d = some (d', x) ∧ ∀ o', Own k.K (upd H a o') Z a d' → P x en' (upd H a o') Z := by
  unfold wr at h
  cases he : en[i]? with
  | none => rw [he] at h; exact False.elim h
  | some s =>
    rw [he] at h
    obtain ⟨v, hv, hs⟩ := r.sl i s he
    cases s with
    | no => exact False.elim h
    | sh d => exact False.elim h
    | ow d =>
      obtain ⟨a, rfl, h1, h2⟩ := hs
      dsimp only at h
      cases hg : g d with
      | none => rw [hg] at h; exact False.elim h
      | some q =>
        obtain ⟨d', x⟩ := q
        rw [hg] at h
        exact ⟨a, d, d', x, _, hv, h2, hg, fun o' ho => h _ _ (aft_write (s := .no) .ow r he (.inl rfl) hv ho)⟩
    | io d =>
      obtain ⟨a, rfl, h1, h2⟩ := hs
      dsimp only at h
      cases hg : g d with
      | none => rw [hg] at h; exact False.elim h
      | some q =>
        obtain ⟨d', x⟩ := q
        rw [hg] at h
        exact ⟨a, d, d', x, _, hv, h2, hg, fun o' ho => h _ _ (aft_write (s := .no) .io r he (.inr rfl) hv ho)⟩
    | fz fz_d => exact False.elim h
end
/-- name i has a list (a dict) of its own -/
def isLs : Option Sl → Bool
  | some (.ow (.list _)) => true
  | some (.io (.list _)) => true
  | _ => false
def isDs : Option Sl → Bool
  | some (.ow (.dict _)) => true
  | some (.io (.dict _)) => true
  | _ => false
def chk {α : Type} (f : Option Sl → Bool) (i : Nat) (m : M α) : M α := fun en => if f en[i]? = true then m en else .bad
section
variable {T : TL} {E : Wish} {X : Cx} {a b c : Expr} {pos : Pos} {k : Nat} {i : Nat} {x : Str} {px : Pos}
theorem is_ls {kk : Kx} {sg : L2.St} {H Z : Hp} {en : En} (r : Rel kk sg H Z en) (h : isLs en[i]? = true) : ∃ a xs, sg[i]? = some (some (V.ref a)) ∧ H a = some (.lst xs) := by
  cases he : en[i]? with
  | none => rw [he] at h; cases h
  | some s =>
    rw [he] at h
    obtain ⟨v, hv, hs⟩ := r.sl i s he
    cases s with
    | no => cases h
    | sh d => cases h
    | ow d =>
      cases d with
      | list ds => obtain ⟨a, rfl, _, ho⟩ := hs; cases ho with | lst h1 _ => exact ⟨a, _, hv, h1⟩
      | _ => cases h
    | io d =>
      cases d with
      | list ds => obtain ⟨a, rfl, _, ho⟩ := hs; cases ho with | lst h1 _ => exact ⟨a, _, hv, h1⟩
      | _ => cases h
    | fz fz_d => cases h
theorem is_ds {kk : Kx} {sg : L2.St} {H Z : Hp} {en : En} (r : Rel kk sg H Z en) (h : isDs en[i]? = true) : ∃ a ds, sg[i]? = some (some (V.ref a)) ∧ Own kk.K H Z a (.dict ds) := by
  cases he : en[i]? with
  | none => rw [he] at h; cases h
  | some s =>
    rw [he] at h
    obtain ⟨v, hv, hs⟩ := r.sl i s he
    cases s with
    | no => cases h
    | sh d => cases h
    | ow d =>
      cases d with
      | dict ds => obtain ⟨a, rfl, _, ho⟩ := hs; exact ⟨a, _, hv, ho⟩
      | _ => cases h
    | io d =>
      cases d with
      | dict ds => obtain ⟨a, rfl, _, ho⟩ := hs; exact ⟨a, _, hv, ho⟩
      | _ => cases h
    | fz fz_d => cases h
def gSt (j : PyData) (y : PyData) : PyData → Option (PyData × PyData)
  | .list xs => match j with
    | .int z => (match ixN xs.length z with
      | some n => some (.list (xs.set n y), .none)
      | none => none)
    | _ => none
  | _ => none
def mstW (i : Nat) (g : PyData → PyData → PyData → Option (PyData × PyData)) (f : Option Sl → Bool) (m : M PyData) (j : M Od) : M Fl := bnd m fun y => chk f i (bnd j fun x => fun en => match look en x with
  | some z => bnd (wr i (g z y)) (fun _ => mnx) en
  | none => .bad)
def mst (i : Nat) (m : M PyData) (j : M Od) : M Fl := mstW i gSt isLs m j
theorem gs_store {m : M PyData} {j : M Od} {tpos : Pos} (hv : PE X (.Name x px) (tVar i)) (hj : GO T E X b j) (ha : GD T E X a m)
    (hs : swapsWithSole [.Subscript (.Name x px) b tpos] a pos.line X.env = pure false := by rfl) (hw : swappedStores [.Subscript (.Name x px) b tpos] a X.env = pure none := by rfl)
    (h1 : (assignEach [.Subscript (.Name x px) b tpos] X.env).map (·.2) = [assign (.Subscript (.Name x px) b tpos) X.env] := by rfl)
    (hsub : ∀ v, assign (.Subscript (.Name x px) b tpos) X.env v = (do
      let ov ← holding [v] (eval (.Name x px) X.env)
      let iv ← holding [v, ov] (eval b X.env)
      standAt tpos
      holding [v, ov, iv] (setItem ov iv v)
      release [v, ov, iv] []) := by intro _; rfl) :
    GS T E X (.Assign [.Subscript (.Name x px) b tpos] a pos) (mst i m j) :=
  ps_imp (ps_asg ha (pg_sub hv hj set_list hsub) hs hw h1) fun D sg H ⟨en, Z, r, q⟩ => ⟨en, Z, r, post_mono (post_bnd r (posts_post q)) fun y en1 H1 Z1 _ ⟨a1, q1⟩ v hv => by
    unfold chk at q1
    by_cases hc : isLs en1[i]? = true
    · rw [if_pos hc] at q1
      obtain ⟨l, xs, g1, g2⟩ := is_ls a1.rel hc
      refine ⟨_, g1, en1, Z1, a1.rel, post_mono (post_bnd a1.rel q1) fun z en2 H2 Z2 _ ⟨a2, q2⟩ w hw => ?_⟩
      cases hl : look en2 z with
      | none => simp only [hl] at q2; exact False.elim q2
      | some zd =>
        simp only [hl] at q2
        have ht := top_of a2.rel hw hl
        obtain ⟨a, d, d', u, en', f1, f2, f3, f4⟩ := wr_ok a2.rel (post_bnd a2.rel q2)
        rw [g1] at f1
        cases f1
        cases d with
        | list ds =>
          cases zd with
          | int jn =>
            simp only [gSt] at f3
            cases hx : ixN ds.length jn with
            | none => rw [hx] at f3; cases f3
            | some n =>
              rw [hx] at f3
              cases f3
              cases f2 with
              | lst e1 e2 =>
                refine ⟨l, _, jn, n, rfl, ht.int, e1, by rw [dpa_length e2]; exact hx, ?_⟩
                obtain ⟨a3, q3⟩ := f4 (.lst _) (.lst upd_same (dpa_set (dp_mono a2.zz hv) n e2))
                exact q3 _ _ (Aft.refl a3.rel)
          | _ => cases f3
        | _ => cases zd <;> cases f3
    · rw [if_neg hc] at q1; exact False.elim q1⟩
end
end ZD


namespace ZD
open PySem PySem.Spec PyProof.Rows L2 GxR ZG

/-- the name stands for a def that keeps this promise -/
def Has (P : Program) (w : World) (K : PySem.W.Frag) (mg : Str → Option Value) (base : Heap) (T : TL) (x : Str) (lv : Nat) (ps : List Str) (np : Nat) (F : Fn) : Prop :=
  ∃ fd, mg x = some (.ref (He.ga K x)) ∧ PySem.W.keepIn K (.ref (He.ga K x)) = true ∧ Binds K fd ps [] ∧ FnOk P w K mg base CX0 lv (He.ga K x) fd ps (spF ⟨⟨K, P, w⟩, T⟩ np F)
section
variable {P : Program} {w : World} {K : PySem.W.Frag} {mg : Str → Option Value} {base : Heap} {T : TL}
theorem fn_okD {x qual : Str} {st : Stmt} {f : Addr} {fd : FuncData} {N ps : List Str} {k : Nat} {m : M Fl} {dvs : List V} {kws : List (Str × V)} (F : FunD K x qual (defArgs st) (defBody st) (defScope st) dvs kws f fd) (S : FnScope N ps (defScope st))
    (hb : ∀ (cdv : Value) (A : Around) (outer : List Env) (s : Shared) (H : Hp) (E : XK), fd.code = cdv → Room k (A.deeper (envOfC qual (defScope st) s.heap.objs.size f cdv)) →
      GSs T W0 (cxOf CX0 P w K mg base N qual (defScope st) f cdv A outer s H E).nox (defBody st) m) :
    FnOk P w K mg base CX0 (k + 1) f fd ps (spF ⟨⟨K, P, w⟩, T⟩ ps.length (run N.length m)) := by
  obtain ⟨oc, od, dV, kV, doc, pm, an, cdv, ct, osl, rfl, lk, hcd, hdv, hkw⟩ := F.ex
  refine fn_of lk hcd S (fun vs H Q E h => h.1) fun A outer s H vs Q E hr hsp => ?_
  refine ⟨_, (hb cdv A outer s H E rfl hr).nox, ?_⟩
  obtain ⟨hl, pp, Z, hpl, hok, r, q⟩ := hsp
  have hN : vs.length ≤ N.length := by
    have e := congrArg List.length S.pre
    rw [List.length_take] at e
    omega
  have e1 : pp.length = vs.length := by omega
  refine ⟨_, Z, rel_start e1 hN r, ?_⟩
  unfold run at q
  cases hm : m (pp ++ List.replicate (N.length - pp.length) .no) with
  | bad => rw [hm] at q; exact q
  | err c en => rw [hm] at q; exact q.elim
  | ok fl en =>
    rw [hm] at q
    intro sg' H' Z' a
    obtain ⟨a2, mo⟩ := aft_out e1 hN hok r a
    cases fl with
    | nx => exact q .non H' Z' a2 .non
    | bk => exact q.elim
    | ct => exact q.elim
    | rt y =>
      intro v hv
      refine q v H' Z' a2 ?_
      cases y with
      | sh d => exact hv
      | ow d =>
        obtain ⟨p, h1, h2, h3, h4, h5⟩ := hv
        exact ⟨p, h1, h2, h3, fun z => h4 (mo p z), h5.imp id (mine_ps e1)⟩
theorem FnOk.up {CX : CXT} {j k : Nat} {f : Addr} {fd : FuncData} {ps : List Str} {sp : Sp} (h : FnOk P w K mg base CX j f fd ps sp) (hj : j ≤ k) : FnOk P w K mg base CX k f fd ps sp :=
  ⟨h.len, fun A outer s H a us vs Q E hr => h.run A outer s H a us vs Q E (hr.mono hj)⟩
end
section
variable {T : TL} {E : Wish} {X : Cx} {ps : List Str} {x : Str} {p pos : Pos} {e : Expr} {es : List Expr} {j k : Nat} {np : Nat} {F : Fn}
theorem ge_callH {ms : M (List PyData)} (G : Has X.prog X.w X.K X.mg X.base T x k ps np F) (hr : Room j X.A) (hk : k ≤ j) (hg : Gl X x)
    (ha : GA T E X (e :: es) ms) (hdb : (x == ("__debug__" : Str)) = false := by decide) (he : starEach (e :: es) X.env = (false, eval e X.env) :: starEach es X.env := by rfl) (hpl : (backTo pos (starEach es X.env)).any (·.1) = false := by rfl) :
    GE T E X (.Call (.Name x p) (e :: es) [] pos) (mcall np F ms) := by
  obtain ⟨fd, h1, h2, h3, h4⟩ := G
  exact ge_call h4 (hr.mono hk) hg h1 h2 h3 ha hdb he hpl
theorem ge_callHI {i : Nat} {y : Str} {py : Pos} {ms : M (List PyData)} (G : Has X.prog X.w X.K X.mg X.base T x k ps np F) (hr : Room j X.A) (hk : k ≤ j) (hg : Gl X x)
    (hv : PE X (.Name y py) (tVar i)) (ha : GA T E X es ms) (hdb : (x == ("__debug__" : Str)) = false := by decide) (he : starEach (.Name y py :: es) X.env = (false, eval (.Name y py) X.env) :: starEach es X.env := by rfl) (hpl : (backTo pos (starEach (.Name y py :: es) X.env)).any (·.1) = false := by rfl) :
    GE T E X (.Call (.Name x p) (.Name y py :: es) [] pos) (mcallI np F i ms) := by
  obtain ⟨fd, h1, h2, h3, h4⟩ := G
  exact ge_callI h4 (hr.mono hk) hg h1 h2 h3 hv ha hdb he hpl
end

/-- the value is such a tree, of what the top has written -/
def datB (K : PySem.W.Frag) : Nat → Value → PyData → Bool
  | _, .none, .none => true
  | _, .bool b, .bool c => b == c
  | _, .int i _, .int j => decide (i = j)
  | _, .str i _, .str j => decide (i = j)
  | n + 1, .ref a, .tuple ds => (match K.lookup a with
    | some ⟨.type c, none, .seq its _, _⟩ => decide (c = "tuple") && (decide (its.size ≤ sizeLine) && all2 K n its.toList ds)
    | _ => false)
  | n + 1, .ref a, .list ds => (match K.lookup a with
    | some ⟨.type c, none, .seq its _, _⟩ => decide (c = "list") && (decide (its.size ≤ sizeLine) && all2 K n its.toList ds)
    | _ => false)
  | _, _, _ => false
where all2 (K : PySem.W.Frag) (n : Nat) : List Value → List PyData → Bool
  | [], [] => true
  | u :: us, d :: ds => datB K n u d && all2 K n us ds
  | _, _ => false
theorem datB_ok {K : PySem.W.Frag} : ∀ (n : Nat) (u : Value) (d : PyData), datB K n u d = true → ∃ v, RelV v u ∧ ∀ (G : Fg), G.K = K → ∀ Z, Dp G Z v d := by
  have all : ∀ (n : Nat), (∀ (u : Value) (d : PyData), datB K n u d = true → ∃ v, RelV v u ∧ ∀ (G : Fg), G.K = K → ∀ Z, Dp G Z v d) → ∀ (us : List Value) (ds : List PyData), datB.all2 K n us ds = true → ∃ vs, Vals vs us ∧ ∀ (G : Fg), G.K = K → ∀ Z, DpAll G Z vs ds := by
    intro n ih us
    induction us with
    | nil =>
      intro ds h
      cases ds with
      | nil => exact ⟨[], .nil, fun _ _ _ => .nil⟩
      | cons d ds => unfold datB.all2 at h; cases h
    | cons u us ih2 =>
      intro ds h
      cases ds with
      | nil => unfold datB.all2 at h; cases h
      | cons d ds =>
        unfold datB.all2 at h
        obtain ⟨h1, h2⟩ := Bool.and_eq_true_iff.mp h
        obtain ⟨v, r1, q1⟩ := ih u d h1
        obtain ⟨vs, r2, q2⟩ := ih2 ds h2
        exact ⟨v :: vs, .cons r1 r2, fun G hG Z => .cons (q1 G hG Z) (q2 G hG Z)⟩
  intro n
  induction n with
  | zero =>
    intro u d h
    unfold datB at h
    split at h
    · exact ⟨.non, rfl, fun _ _ _ => .non⟩
    · rename_i b c
      have e : b = c := eq_of_beq h
      subst e
      exact ⟨.bl b, rfl, fun _ _ _ => .bl b⟩
    · rename_i i t j
      have e := of_decide_eq_true h
      subst e
      exact ⟨.int i, ⟨t, rfl⟩, fun _ _ _ => .int i⟩
    · rename_i i t j
      have e := of_decide_eq_true h
      subst e
      exact ⟨.str i, ⟨t, rfl⟩, fun _ _ _ => .str i⟩
    · rename_i e2; cases e2
    · rename_i e2; cases e2
    · cases h
  | succ n ih =>
    intro u d h
    unfold datB at h
    split at h
    · exact ⟨.non, rfl, fun _ _ _ => .non⟩
    · rename_i b c
      have e : b = c := eq_of_beq h
      subst e
      exact ⟨.bl b, rfl, fun _ _ _ => .bl b⟩
    · rename_i i t j
      have e := of_decide_eq_true h
      subst e
      exact ⟨.int i, ⟨t, rfl⟩, fun _ _ _ => .int i⟩
    · rename_i i t j
      have e := of_decide_eq_true h
      subst e
      exact ⟨.str i, ⟨t, rfl⟩, fun _ _ _ => .str i⟩
    · rename_i n' a ds en
      cases en
      split at h
      · rename_i c its nn sl q
        obtain ⟨h1, h2⟩ := Bool.and_eq_true_iff.mp h
        obtain ⟨h3, h4⟩ := Bool.and_eq_true_iff.mp h2
        have e := of_decide_eq_true h1
        subst e
        obtain ⟨vs, r, qv⟩ := all n ih _ _ h4
        exact ⟨.ref a, rfl, fun G hG Z => .tup (.inr ⟨_, its, nn, by rw [hG]; exact q, rfl, rfl, rfl, of_decide_eq_true h3, r⟩) (qv G hG Z)⟩
      · cases h
    · rename_i n' a ds en
      cases en
      split at h
      · rename_i c its nn sl q
        obtain ⟨h1, h2⟩ := Bool.and_eq_true_iff.mp h
        obtain ⟨h3, h4⟩ := Bool.and_eq_true_iff.mp h2
        have e := of_decide_eq_true h1
        subst e
        obtain ⟨vs, r, qv⟩ := all n ih _ _ h4
        exact ⟨.ref a, rfl, fun G hG Z => .lst (.inr ⟨_, its, nn, by rw [hG]; exact q, rfl, rfl, rfl, of_decide_eq_true h3, r⟩) (qv G hG Z)⟩
      · cases h
    · cases h
/-- the module's name x stands for the tree d -/
def gloB (K : PySem.W.Frag) (x : Str) (d : PyData) : Bool := match PySem.W.nsIn K mainGlobals x with
  | some (some u) => datB K 8 u d
  | _ => false
def Glo (K : PySem.W.Frag) (mg : Str → Option Value) (x : Str) (d : PyData) : Prop := ∃ u v, mg x = some u ∧ RelV v u ∧ ∀ (G : Fg), G.K = K → ∀ Z, Dp G Z v d
theorem glo_of {K : PySem.W.Frag} {h : Heap} {mg : Str → Option Value} (X : K.In h) (G : h.Ns mainGlobals mg) {x : Str} {d : PyData} (c : gloB K x d = true) : Glo K mg x d := by
  unfold gloB at c
  split at c
  · rename_i u e
    obtain ⟨v, r, q⟩ := datB_ok _ _ _ c
    exact ⟨u, v, PySem.W.mg_of X G e, r, q⟩
  · cases c
section
variable {T : TL} {E : Wish} {X : Cx} {a b : Expr} {pos px : Pos} {x : Str} {d : PyData} {q : M Od}
theorem gd_glo (g : Glo X.K X.mg x d) (hg : Gl X x) (hd : (x == ("__debug__" : Str)) = false := by decide) : GD T E X (.Name x pos) (cst d) := by
  obtain ⟨u, v, h1, h2, h3⟩ := g
  exact gd_c (pe_glob hg h1 h2 hd) (h3 _ rfl _)
end
end ZD


namespace ZD
open PySem PySem.Spec PyProof.Rows L2 GxR ZG

section
variable {k : Kx} {sg : L2.St} {H H2 Z Z2 : Hp} {en en2 : En} {E : Wish}
end
section
variable {T : TL} {E : Wish} {X : Cx} {a b : Expr} {pos : Pos}
end
end ZD
namespace ZD
open PySem PySem.Spec PyProof.Rows L2 GxR ZG
def blkB (N : List Str) (sc scope : Scope) (own : List (Str × Nat)) : Bool := decide (scope.kind = .function) && (scope.names.all fun y => decide (scope.names.lookup y.1 = some y.2)) && (own.all fun p => decide (N[p.2]? = some p.1)) &&
  (scope.names.all fun y => !decide (y.2 = .free) || (decide (sc.names.lookup y.1 = some .cell) || decide (sc.names.lookup y.1 = some .free))) && (scope.names.all fun y => !(decide (y.2 = .local) || decide (y.2 = .cell)) || (decide (y.1 ∈ own.map (·.1)) || !decide (y.1 ∈ N)))
theorem blk_of {N : List Str} {sc scope : Scope} {own : List (Str × Nat)} (h : blkB N sc scope own = true) : BlkOk N sc scope own := by
  unfold blkB at h
  simp only [Bool.and_eq_true, List.all_eq_true, decide_eq_true_eq, Bool.or_eq_true, Bool.not_eq_true', decide_eq_false_iff_not] at h
  obtain ⟨⟨⟨⟨h1, h2⟩, h3⟩, h4⟩, h5⟩ := h
  refine ⟨h1, h2, h3, fun y hy e => (h4 y hy).resolve_left (fun z => z e), fun y hy e => ?_⟩
  rcases h5 y hy with z | z
  · exfalso
    simp only [Bool.or_eq_false_iff, decide_eq_false_iff_not] at z
    rcases e with e | e
    · exact z.1 e
    · exact z.2 e
  · exact z
end ZD
namespace ZD
open PySem PySem.Spec PyProof.Rows L2 GxR ZG
theorem code_of {K : Fg} {p : He.Defn} {x q : Str} {pa : Arguments} {bd : List Stmt} {sc : Scope} {dvs : List V} {kws : List (Str × V)} {f : Addr} {fd : FuncData} (F : FunD K x q pa bd sc dvs kws f fd) (hf : f = He.fAd K p) : fd.code = .ref (He.codeOf K p) := by
  obtain ⟨oc, od, dV, kV, doc, pm, an, cdv, ct, osl, rfl, lk, hcd, _, _⟩ := F.ex
  obtain ⟨c, rfl⟩ := He.codeIn_ref hcd
  rw [He.codeOf_eq (c := c) (by rw [← hf]; exact lk) rfl]
end ZD


namespace ZD
open PySem PySem.Spec PyProof.Rows L2 GxR ZG

def scr (ns : List Int) : List Sl := [.sh (.list (ns.map .int))]
theorem dp_ints {K : Fg} {Z : Hp} : ∀ ns : List Int, DpAll K Z (ns.map V.int) (ns.map .int)
  | [] => .nil
  | n :: ns => .cons (.int n) (dp_ints ns)
theorem law_sp {K : Fg} {T : TL} {F : Fn} {ns : List Int} {en' : En} {H : Hp} {a : Addr} (hF : F (scr ns) = .ok (.sh (.bool true)) en') (hT : ∀ q ∈ T, q.1 = none ∧ H q.2 = some (.tbl #[])) (hS : SqL K H a (ns.map V.int)) :
    spF ⟨K, T⟩ 1 F [.ref a] H (fun v _ => v = .bl true) fun _ _ _ => False := by
  -- what is fixed: the script's list, where it is tracked
  obtain ⟨Z, hz, hs, ht⟩ : ∃ Z : Hp, (∀ b o, Z b = some o → H b = some o) ∧ SqL K Z a (ns.map V.int) ∧ ∀ q ∈ T, Z q.2 = none := by
    rcases hS with hS | hS
    · refine ⟨fun b => if b = a then H a else none, fun b o h => ?_, ?_, fun P hP => ?_⟩
      · by_cases e : b = a
        · simp only [e, if_true] at h; rw [e]; exact h
        · simp only [e, if_false] at h; cases h
      · rcases hS with h | ⟨o, h⟩
        · exact .inl (.inl (by simp only [if_true]; exact h))
        · exact .inl (.inr ⟨o, by simp only [if_true]; exact h⟩)
      · by_cases e : P.2 = a
        · exfalso
          have h1 := (hT P hP).2
          rw [e] at h1
          rcases hS with h | ⟨o, h⟩
          · rw [h1] at h; cases h
          · rw [h1] at h; cases h
        · simp only [e, if_false]
    · exact ⟨fun _ => none, (fun b o h => nomatch h), .inr hS, fun _ _ => rfl⟩
  refine ⟨rfl, scr ns, Z, rfl, rfl, ⟨hz, fun i s h => ?_, fun i j s t b h1 h2 h3 _ _ _ => ?_, ⟨fun a => ∃ q ∈ T, q.2 = a, fun q hq => ⟨⟨q, hq, rfl⟩, fun c e => by rw [(hT q hq).1] at e; cases e⟩, fun a ⟨q, hq, e⟩ => ⟨#[], e ▸ (hT q hq).2, e ▸ ht q hq, trivial, fun pos v e => by simp [codeAmong] at e⟩⟩⟩, ?_⟩
  · cases i with
    | zero =>
      cases h
      exact ⟨some (.ref a), rfl, .ref a, rfl, .lst hs (dp_ints ns)⟩
    | succ i => cases h
  · cases i with
    | zero => cases h1; cases h3
    | succ i => cases h1
  · rw [hF]
    intro v H' Z' _ hv
    have hv : Dp K Z' v (.bool true) := hv
    cases hv
    rfl
theorem tab_bl {base : Heap} {mg : Str → Option Value} {c P : Addr} (t : LamX.TabB base mg c P) : GxR.TabB base mg c P := ⟨t.code, t.bm, t.gP⟩
theorem ex_get {l : List Bool} (h : l.all (fun b => b) = true) (i : Nat) {b : Bool} (hi : l[i]? = some b := by rfl) : b = true := List.all_eq_true.mp h b (List.mem_of_getElem? hi)
/-- a law's end: F_law gives true at each script -/
theorem law_at {l : PySem.W.OpenLaw} {w : World} {K : PySem.W.Frag} {mg : Str → Option Value} {h : Heap} {fa : List He.Fa} {fn : List He.DefD} {ts : List He.Tab} {tf : List He.Defn} {ex : PySem.W.Frag → Bool} {F : Fn} {k : Nat} {f : Addr} {fd : FuncData} {n : Nat} {x : Str}
    (KX : K.In h) (c : He.SaysX fa fn ts tf ex w h K) (hb : ∀ (s : Shared) (u : Value), BindsTo s fd ⟨[u], []⟩ [(x, u)])
    (hF : ∀ ns : List Int, ns.length ≤ n → (∀ z ∈ ns, Builtin.Int.intBits z ≤ 1048576) → ∃ en', F (scr ns) = .ok (.sh (.bool true)) en')
    (hfn : ∀ base : Heap, K.In base → base.Ns mainGlobals mg → (∀ p ∈ tf, GxR.TabB base mg (He.cT K p).1 (He.cT K p).2) → FnOk l.prog w K mg base CX0 k f fd [x] (spF ⟨⟨K, l.prog, w⟩, tf.map fun p => (none, (He.cT K p).2)⟩ 1 F)) :
    LamX.LawAtS l w K CX0 k n x mg f h := by
  refine ⟨fd, tf.map (He.cT K), spF ⟨⟨K, l.prog, w⟩, tf.map fun p => (none, (He.cT K p).2)⟩ 1 F, fun p hp => ?_, fun p hp => ?_, fun p hp => ?_, hb, fun H a ns hl hbits hT hS => ?_, fun base X G TB => hfn base X G fun p hp => tab_bl (TB _ (List.mem_map.mpr ⟨p, hp, rfl⟩))⟩
  · obtain ⟨q, hq, rfl⟩ := List.mem_map.mp hp
    exact c.empty q hq
  · obtain ⟨q, hq, rfl⟩ := List.mem_map.mp hp
    exact c.out q hq
  · obtain ⟨q, hq, rfl⟩ := List.mem_map.mp hp
    exact PySem.W.codeHd_of_K KX (c.hd q hq)
  · obtain ⟨en', e⟩ := hF ns hl hbits
    refine law_sp e (fun P hP => ?_) hS
    obtain ⟨q, hq, rfl⟩ := List.mem_map.mp hP
    refine ⟨rfl, ?_⟩
    exact hT _ (List.mem_map.mpr ⟨q, hq, rfl⟩)
end ZD


namespace ZD
open PySem

theorem bnd_ok {α β : Type} {m : M α} {f : α → M β} {en en1 : En} {a : α} (h : m en = .ok a en1) : bnd m f en = f a en1 := by unfold bnd; rw [h]
/-- m comes through, and Q holds behind it -/
def WP {α : Type} (m : M α) (en : En) (Q : α → En → Prop) : Prop := ∃ a en', m en = .ok a en' ∧ Q a en'
section
variable {α β : Type} {en en1 : En}
theorem wp_eq {m : M α} {a : α} {Q : α → En → Prop} (h : m en = .ok a en1) (q : Q a en1) : WP m en Q := ⟨a, en1, h, q⟩
theorem wp_mono {m : M α} {Q Q' : α → En → Prop} (h : WP m en Q) (i : ∀ a en', Q a en' → Q' a en') : WP m en Q' := let ⟨a, e, h1, h2⟩ := h; ⟨a, e, h1, i _ _ h2⟩
theorem wp_ret {a : α} {Q : α → En → Prop} (q : Q a en) : WP (ret a) en Q := ⟨a, en, rfl, q⟩
theorem wp_bnd {m : M α} {f : α → M β} {Q : β → En → Prop} (h : WP m en fun a e => WP (f a) e Q) : WP (bnd m f) en Q := by
  obtain ⟨a, e, h1, b, e2, h2, h3⟩ := h
  exact ⟨b, e2, by rw [bnd_ok h1]; exact h2, h3⟩
theorem wp_mseq {m n : M Fl} {Q : Fl → En → Prop} (h : WP m en fun fl e => match fl with
    | .nx => WP n e Q
    | f => Q f e) : WP (mseq m n) en Q := wp_bnd (wp_mono h fun fl e q => by
  cases fl with
  | nx => exact q
  | rt x => exact wp_ret q
  | bk => exact wp_ret q
  | ct => exact wp_ret q)
/-- a def, from its body -/
theorem run_wp {n : Nat} {m : M Fl} {ps : List Sl} {Q : Vl → En → Prop} (h : WP m (ps ++ List.replicate (n - ps.length) .no) fun fl e => match fl with
    | .rt x => Q x e
    | .nx => Q (.sh .none) e
    | _ => False) : ∃ x e, run n m ps = .ok x e ∧ Q x e := by
  obtain ⟨fl, e, h1, h2⟩ := h
  unfold run
  rw [h1]
  cases fl with
  | rt x => exact ⟨x, e, rfl, h2⟩
  | nx => exact ⟨_, e, rfl, h2⟩
  | bk => exact h2.elim
  | ct => exact h2.elim
end
end ZD


namespace ZD
open PySem PySem.Spec PyProof.Rows L2 GxR ZG

section
variable {P : Program} {w : World} {K : PySem.W.Frag} {mg : Str → Option Value} {base : Heap} {T : TL}
theorem Has.up {x : Str} {j k np : Nat} {ps : List Str} {F : Fn} (h : Has P w K mg base T x j ps np F) (hj : j ≤ k) : Has P w K mg base T x k ps np F := by
  obtain ⟨fd, h1, h2, h3, h4⟩ := h
  exact ⟨fd, h1, h2, h3, FnOk.up h4 hj⟩
end

section
variable {T : TL} {E : Wish} {X : Cx} {a b e : Expr} {p p2 pos pos2 : Pos} {m q : M PyData}
end

theorem dpa_app {K : Fg} {Z : Hp} : ∀ {vs : List V} {ds : List PyData} {ws : List V} {es : List PyData}, DpAll K Z vs ds → DpAll K Z ws es → DpAll K Z (vs ++ ws) (ds ++ es)
  | _, _, _, _, .nil, h => h
  | _, _, _, _, .cons a b, h => .cons a (dpa_app b h)
theorem dpa_rep {K : Fg} {Z : Hp} {vs : List V} {ds : List PyData} (h : DpAll K Z vs ds) : ∀ n : Nat, DpAll K Z (List.replicate n vs).flatten (List.replicate n ds).flatten
  | 0 => .nil
  | n + 1 => by
    rw [List.replicate_succ, List.replicate_succ, List.flatten_cons, List.flatten_cons]
    exact dpa_app h (dpa_rep h n)
section
variable {T : TL} {E : Wish} {X : Cx} {a b : Expr} {pos : Pos} {p q : M Od}
end
end ZD


namespace ZZ
open PySem PySem.Spec PyProof.Rows L2 RT
section
variable {prog : Program} {w : World} {A : Around} {E : Value → Shared → Prop} {s : Shared}
end
section
variable {X : Cx}
end
end ZZ


namespace ZD
open PySem PySem.Spec PyProof.Rows L2 GxR ZG

section
variable {prog : Program} {w : World} {A : Around} {E : Value → Shared → Prop} {s : Shared}
end
section
variable {X : Cx}
end
section
variable {T : TL} {E : Wish} {X : Cx} {a b e : Expr} {p p2 pos pos2 : Pos} {m : M Od}
end
end ZD


namespace ZD
open PySem PySem.Spec PyProof.Rows L2 GxR ZG

def pairE (i : Nat) (d : PyData) : PyData := .tuple [.int (i : Nat), d]
def enumD (ds : List PyData) : List PyData := ds.mapIdx pairE
section
variable {T : TL} {E : Wish} {X : Cx} {a : Expr} {p pos tpos : Pos} {elts : List Expr} {kk : Nat}
end
end ZD


namespace ZD
open PySem PySem.Spec PyProof.Rows L2 GxR ZG
open AutoSeq1 (wpAny_loadPart')

section
variable {prog : Program} {w : World} {A : Around} {E : Value → Shared → Prop} {s : Shared}
end
section
variable {X : Cx} {e : Expr} {te : L2.St → Hp → (Int → Int → Hp → Prop) → Prop} {p p2 pos pos2 : Pos}
end
section
variable {T : TL} {E : Wish} {X : Cx} {a : Expr} {p p2 p3 pos pos2 pos3 : Pos} {m : M PyData}
end
end ZD


namespace ZD
open PySem PySem.Spec PyProof.Rows L2 GxR ZG
def oMulX := oInt (fun i j => decide (i.natAbs.log2 + j.natAbs.log2 < 100000000 ∨ i.natAbs < 2 ^ 64 ∨ j.natAbs < 2 ^ 64)) (fun i j => i * j)
section
variable {T : TL} {E : Wish} {X : Cx} {a b : Expr} {pos : Pos} {p q : M Od}
/-- one factor of 64 bits at most, or both not too wide -/
def CMulY (i j : Int) : Prop := CMulX i j ∨ Builtin.Int.intBits i ≤ 64 ∨ Builtin.Int.intBits j ≤ 64
theorem CMulY.ok {i j : Int} (h : CMulY i j) : IntMulOk i j := by
  rcases h with h | h | h
  · exact h.ok
  · intro z
    rw [Bool.and_eq_true, Bool.and_eq_true] at z
    have := of_decide_eq_true z.1.1
    rw [PySem.shortFactorBits] at this
    omega
  · intro z
    rw [Bool.and_eq_true, Bool.and_eq_true] at z
    have := of_decide_eq_true z.1.2
    rw [PySem.shortFactorBits] at this
    omega
theorem op_mulY : OpR X (binaryOp .Mult) (rI CMulY fun i j => .int (i * j)) := opI fun _ _ _ _ _ _ _ hc q => mul_int q hc.ok
theorem mulX_of {i j : Int} (h : i.natAbs.log2 + j.natAbs.log2 < 100000000 ∨ i.natAbs < 2 ^ 64 ∨ j.natAbs < 2 ^ 64) : CMulY i j := by
  rcases h with h | h | h
  · exact .inl (mulx_ok (a := i.natAbs.log2 + 1) (b := j.natAbs.log2 + 1) Nat.lt_log2_self Nat.lt_log2_self (by omega))
  · exact .inr (.inl (PyProof.Rows.intBits_le h))
  · exact .inr (.inr (PyProof.Rows.intBits_le h))
end
end ZD


namespace ZZ
open PySem PySem.Spec PyProof.Rows L2
def Sq (b : Bool) (h : Heap) (l : Addr) (xs : Array Value) : Prop := bif b then h.IsTuple l xs else h.IsList l xs
def Si (b : Bool) (h : Heap) (a l : Addr) (i : Nat) : Prop := bif b then h.IsTupleIter a l i else h.IsListIter a l i
def nmI (b : Bool) : String := bif b then "tuple_iterator" else "list_iterator"
theorem Sq.ext {t : Bool} {h h' : Heap} {a b : Addr} {items : Array Value} (x : Sq t h a items) (hs : Heap.ExtBut b h h') (hab : a ≠ b) : Sq t h' a items := by
  cases t with
  | true => exact Heap.IsTuple.extBut x hs hab
  | false => exact Heap.IsList.extBut x hs hab
theorem Si.ext {t : Bool} {h h' : Heap} {a b l : Addr} {i : Nat} (x : Si t h a l i) (hs : Heap.ExtBut b h h') (hab : a ≠ b) : Si t h' a l i := by
  cases t with
  | true => exact Heap.IsTupleIter.extBut x hs hab
  | false => exact Heap.IsListIter.extBut x hs hab
theorem Si.at {t : Bool} {h h' : Heap} {a l : Addr} {i : Nat} (x : Si t h a l i) (e : ∀ o, h.get? a = some o → h'.get? a = some o) : Si t h' a l i := by
  cases t with
  | true => exact Heap.IsTupleIter.at x e
  | false => exact Heap.IsListIter.at x e
theorem Si.obj {t : Bool} {h : Heap} {a l : Addr} {i : Nat} (x : Si t h a l i) : ∃ o, h.get? a = some o ∧ o.cls = .type (nmI t) ∧ o.data = .fields #[.ref l, .int i 0] := by
  cases t with
  | true => exact x
  | false => exact x
section
variable {prog : Program} {w : World} {A : Around} {E : Value → Shared → Prop} {s : Shared}
end
def oI (t : Bool) (l : Addr) : Obj := { cls := .type (nmI t), data := .fields #[.ref l, .int 0 0] }
abbrev q1 (t1 : Bool) (h : Heap) (l1 : Addr) : Heap := h.push (oI t1 l1)
abbrev q2 (t1 t2 : Bool) (h : Heap) (l1 l2 : Addr) : Heap := (q1 t1 h l1).push (oI t2 l2)
abbrev q3 (t1 t2 : Bool) (h : Heap) (l1 l2 : Addr) : Heap := (q2 t1 t2 h l1 l2).push { cls := .type "tuple", data := .seq #[.ref h.objs.size, .ref (q1 t1 h l1).objs.size] }
abbrev q4 (t1 t2 : Bool) (h : Heap) (l1 l2 : Addr) : Heap := (q3 t1 t2 h l1 l2).push { cls := .type "tuple", data := .seq #[.none, .none] }
abbrev q5 (t1 t2 : Bool) (h : Heap) (l1 l2 : Addr) : Heap := (q4 t1 t2 h l1 l2).push { cls := .type "zip", data := .fields #[.none, .bool false, .bool false, .ref (q2 t1 t2 h l1 l2).objs.size, .ref (q3 t1 t2 h l1 l2).objs.size] }
section
variable {prog : Program} {w : World} {A : Around} {E : Value → Shared → Prop} {s : Shared}
end
end ZZ


namespace PySem
open Sem (wp)
theorem CmpOf.strs_gt {prog : Program} {w : World} {A : Around} {P : Nat → Value → Prop} (val : Nat → Str) (hval : ∀ i v, P i v → ∃ t, v = .str (val i) t) :
    CmpOf prog w A .Gt P (fun i j => decide ((val j).cps.toList < (val i).cps.toList)) := fun i j vi vj s Q E hi hj h => by
  obtain ⟨t, rfl⟩ := hval i vi hi
  obtain ⟨u, rfl⟩ := hval j vj hj
  exact richCompare_gives (op := .Gt) (typeIs_str s _ t) (typeIs_str s _ u) F.slot_str_gt F.entry_str_gt (F.args_str_gt_2 _ _) (gives_str_gt _ _ t u) (fun x => nomatch x) h
section
variable {prog : Program} {w : World} {A : Around} {E : Value → Shared → Prop} {s : Shared}
def twoS (a b : Str) (i : Nat) : Str := if i = 0 then a else b
theorem twoS_at {a b : Str} {t u : Tok} {i : Nat} {v : Value} (h : (#[Value.str a t, Value.str b u] : Array Value)[i]? = some v) : ∃ t, v = .str (twoS a b i) t := by
  match i, h with
  | 0, h => exact ⟨t, (Option.some.inj h).symm⟩
  | 1, h => exact ⟨u, (Option.some.inj h).symm⟩
  | i + 2, h => simp at h
theorem max_two_strs {a b : Str} {t u : Tok} {Q : Value → Shared → Prop} (hh : A.handled = none)
    (h : ∀ h' tk, (∀ c o, s.heap.get? c = some o → h'.get? c = some o) → Q (if a.cps.toList < b.cps.toList then .str b u else .str a t) { s with heap := h', toks := tk }) :
    wpAny (model prog w) A (call (.builtin "max") [.str a t, .str b u]) Q E s := by
  have hT : (s.heap.push { cls := .type "tuple", data := .seq #[.str a t, .str b u] }).IsTuple s.heap.objs.size #[.str a t, .str b u] := ⟨_, Heap.get?_push_size _ rfl, rfl, 0, rfl⟩
  refine call_max_two (wpAny_pyIter_tuple hT ?_)
  have hsz : (s.heap.push { cls := .type "tuple", data := .seq #[.str a t, .str b u] }).objs.size = s.heap.objs.size + 1 := Heap.size_push ..
  refine ⟨_, [_, s.heap.objs.size], [_], _, _, _, _, rfl, Walks.tuple (A := A.in1) hh _ s.heap.objs.size (by rw [hsz]; exact Nat.ne_of_lt (Nat.lt_succ_self _)) #[.str a t, .str b u],
    ⟨⟨_, Heap.get?_push_size _ rfl, rfl, rfl⟩, hT.push _⟩, fun c hc => ?_, by simp, CmpOf.strs_gt (twoS a b) (fun _ _ q => twoS_at q), fun v h' tk hP hk => ?_⟩
  · show c < ((s.heap.push _).push _).objs.size
    rw [Heap.size_push, hsz]
    rcases List.mem_cons.mp hc with rfl | hc
    · rw [hsz]; exact Nat.lt_succ_self _
    · rcases List.mem_cons.mp hc with rfl | hc
      · exact Nat.lt_succ_of_lt (Nat.lt_succ_self _)
      · cases hc
  · have hold : ∀ c o, s.heap.get? c = some o → h'.get? c = some o := fun c o e => by
      refine hk c o (fun hm => ?_) (Heap.get?_push_of_some _ (Heap.get?_push_of_some _ e))
      rcases List.mem_cons.mp hm with e1 | hm
      · have := Heap.lt_size e; rw [e1, hsz] at this; exact Nat.lt_irrefl _ (Nat.lt_of_succ_lt this)
      · cases hm
    have := h h' tk hold
    have hv : v = if a.cps.toList < b.cps.toList then Value.str b u else Value.str a t := by
      have hP' : (#[Value.str a t, Value.str b u] : Array Value)[argBest (fun i j => decide ((twoS a b j).cps.toList < (twoS a b i).cps.toList)) 1]? = some v := hP
      by_cases hba : a.cps.toList < b.cps.toList
      · have e : argBest (fun i j => decide ((twoS a b j).cps.toList < (twoS a b i).cps.toList)) 1 = 1 := by simp [argBest, twoS, hba]
        rw [e] at hP'
        rw [if_pos hba]; exact (Option.some.inj hP').symm
      · have e : argBest (fun i j => decide ((twoS a b j).cps.toList < (twoS a b i).cps.toList)) 1 = 0 := by simp [argBest, twoS, hba]
        rw [e] at hP'
        rw [if_neg hba]; exact (Option.some.inj hP').symm
    rw [hv]; exact this
end
end PySem
namespace L2
open PySem PySem.Spec PyProof.Rows
theorem call_max2S {X : Cx} (hc : X.calm = true) : CallR X (.builtin "max") (fun xs H Q => ∃ a b, xs = [V.str a, V.str b] ∧ Q (V.str (if a.cps.toList < b.cps.toList then b else a)) H) := by
  intro pins s σ H xs us Q I r h
  obtain ⟨a, b, rfl, q⟩ := h
  obtain ⟨u, w', rfl, ⟨t, rfl⟩, ⟨t', rfl⟩⟩ := vals2 r
  refine max_two_strs (I.ok.hd hc) fun h' tk k => ⟨_, H, I.kept k, ?_, q⟩
  by_cases hj : a.cps.toList < b.cps.toList
  · rw [if_pos hj, if_pos hj]; exact ⟨_, rfl⟩
  · rw [if_neg hj, if_neg hj]; exact ⟨_, rfl⟩
end L2


namespace ZD
open PySem PySem.Spec PyProof.Rows L2 GxR ZG
def intsOf : List PyData → Option (List Int)
  | [] => some []
  | .int i :: ds => (intsOf ds).map (i :: ·)
  | _ => none
theorem dpa_ints {K : Fg} {Z : Hp} : ∀ {vs : List V} {ds : List PyData} {ns : List Int}, DpAll K Z vs ds → intsOf ds = some ns → vs = ns.map V.int
  | _, [], ns, h, e => by
    cases e
    cases h
    rfl
  | _, d :: ds, ns, h, e => by
    cases h with
    | cons h1 h2 =>
      cases d with
      | int i =>
        cases hr : intsOf ds with
        | none => simp only [intsOf, hr] at e; cases e
        | some ms =>
          simp only [intsOf, hr, Option.map_some] at e
          cases e
          cases h1
          rw [dpa_ints h2 hr]; rfl
      | _ => cases e
def oSum : PyData → Out
  | .list ds => match intsOf ds with
    | some ns => .d (.int ns.sum)
    | none => .bad
  | .tuple ds => match intsOf ds with
    | some ns => .d (.int ns.sum)
    | none => .bad
  | _ => .bad
section
variable {T : TL} {E : Wish} {X : Cx} {a b : Expr} {pos : Pos} {p q : M Od}
/-- sum(xs) of a tuple of ints -/
def rSumT (K : PySem.W.Frag) : List V → Hp → VK → Prop := fun vs H Q => ∃ (a : Addr) (ns : List Int), vs = [V.ref a] ∧ SqT K H a (ns.map V.int) ∧ Q (.int ns.sum) H
theorem sum_rawT {prog : Program} {w : World} {A : Around} {E : Value → Shared → Prop} {s : Shared} {l : Addr} {its : List Value} {ns : List Int} {Q : Value → Shared → Prop} (hh : A.handled = none) (hl : s.heap.IsTuple l its.toArray) (hi : PyProof.Rows.IntsAre its ns)
    (h : ∀ h' tk t', (∀ b o, s.heap.get? b = some o → h'.get? b = some o) → Q (.int ns.sum t') { s with heap := h', toks := tk }) : wpAny (model prog w) A (call (.builtin "sum") [.ref l]) Q E s := by
  obtain ⟨xs, e⟩ := hi.allInts.items
  have hn : numsOf (intItems xs).toList = ns := by rw [← e]; exact hi.numsOf
  rw [nums_intItems] at hn
  rw [e] at hl
  refine PySem.W.ktm_sumG hh hl fun h' tk t' hk => ?_
  have := h h' tk t' hk
  rw [preSum_eq, List.take_of_length_le (by simp), hn]; exact this
theorem cr_sumT (hc : X.calm = true) : CallR X (.builtin "sum") (rSumT X.K) := by
  intro pins s σ H vs us Q I r h
  obtain ⟨a, ns, rfl, hs, q⟩ := h
  obtain ⟨its, rv, hl, _⟩ := I.tuple hs
  rw [Vals.ref1 r]
  exact sum_rawT (I.ok.hd hc) hl rv.ints fun h' tk t' hk => ⟨.int _, H, I.kept hk, ⟨_, rfl⟩, q⟩
theorem says_sum : Says1 X.G oSum fun v H Q => (fun vs H Q => rSum X.G vs H Q ∨ rSumT X.G vs H Q) [v] H Q := by
  intro H Z v d Q hz hv ho
  cases d with
  | list ds =>
    obtain ⟨l, xs, rfl, h1, h2⟩ := hv.list hz
    cases hi : intsOf ds with
    | none => simp only [oSum, hi] at ho; exact ho.elim
    | some ns =>
      simp only [oSum, hi] at ho
      refine .inl ⟨l, ns, rfl, ?_, ho _ (.int _)⟩
      rw [← dpa_ints h2 hi]; exact h1
  | tuple ds =>
    obtain ⟨l, xs, rfl, h1, h2⟩ := hv.tup hz
    cases hi : intsOf ds with
    | none => simp only [oSum, hi] at ho; exact ho.elim
    | some ns =>
      simp only [oSum, hi] at ho
      refine .inr ⟨l, ns, rfl, ?_, ho _ (.int _)⟩
      rw [← dpa_ints h2 hi]; exact h1
  | _ => exact False.elim ho
theorem ge_sum {px : Pos} (hc : X.calm = true) (hg : Gl X "sum") (hm : X.mg "sum" = none) (ha : GO T E X a p) (he : starEach [a] X.env = (false, eval a X.env) :: starEach [] X.env := by rfl) (hpl : (backTo pos (starEach [] X.env)).any (·.1) = false := by rfl) : GE T E X (.Call (.Name "sum" px) [a] [] pos) (op1 oSum p) :=
  ge_cb1 ((cr_sum hc).or (cr_sumT hc)) PyProof.Rows.boot_sum says_sum hg hm ha (by decide) (by decide) he hpl
def oMax2 : PyData → PyData → Out
  | .int i, .int j => .d (.int (if j > i then j else i))
  | .str a, .str b => .d (.str (if a.cps.toList < b.cps.toList then b else a))
  | _, _ => .bad
theorem says_max2 : Says2 X.G oMax2 fun v w H Q => (fun xs H Q => (∃ i j, xs = [V.int i, V.int j] ∧ Q (V.int (if j > i then j else i)) H) ∨ ∃ a b, xs = [V.str a, V.str b] ∧ Q (V.str (if a.cps.toList < b.cps.toList then b else a)) H) [v, w] H Q := by
  intro H Z v w d e Q hz hv hw ho
  cases d with
  | int i =>
    cases e with
    | int j =>
      cases hv.int
      cases hw.int
      exact .inl ⟨i, j, rfl, ho _ (.int _)⟩
    | _ => exact False.elim ho
  | str a =>
    cases e with
    | str b =>
      cases hv.str
      cases hw.str
      exact .inr ⟨a, b, rfl, ho _ (.str _)⟩
    | _ => exact False.elim ho
  | _ => exact False.elim ho
theorem ge_max2 {px : Pos} (hc : X.calm = true) (hg : Gl X "max") (hm : X.mg "max" = none) (ha : GO T E X a p) (hb : GO T E X b q) (he : starEach [a, b] X.env = (false, eval a X.env) :: starEach [b] X.env := by rfl) (he2 : starEach [b] X.env = (false, eval b X.env) :: starEach [] X.env := by rfl) (hpl : (backTo pos (starEach [b] X.env)).any (·.1) = false := by rfl) : GE T E X (.Call (.Name "max" px) [a, b] [] pos) (op2 oMax2 p q) :=
  ge_cb2 ((call_max2 hc).or (call_max2S hc)) PyProof.Rows.boot_max says_max2 hg hm ha hb (by decide) (by decide) he he2 hpl
end
end ZD


namespace ZD
open PySem PySem.Spec PyProof.Rows L2 GxR ZG
inductive OdsOk (k : Kx) (sg : L2.St) (Z : Hp) : List V → List Od → Prop
  | nil : OdsOk k sg Z [] []
  | cons {v : V} {vs : List V} {x : Od} {xs : List Od} : OdOk k sg Z v x → OdsOk k sg Z vs xs → OdsOk k sg Z (v :: vs) (x :: xs)
section
variable {T : TL} {E : Wish} {X : Cx} {f : Addr} {fd : FuncData} {ps : List Str} {x : Str} {p pos : Pos} {a e : Expr} {es : List Expr} {k : Nat} {np : Nat} {F : Fn}
end
end ZD


namespace ZD
open PySem PySem.Spec PyProof.Rows L2 GxR ZG
theorem tuple_mul1 (l : Addr) (items : Array Value) (n : Nat) (dd : Option Addr) (sl : Array (Option Value)) (x : Int) (u : Tok) (c0 : (decide (x < -(2 ^ 63)) || decide (x ≥ 2 ^ 63)) = false) (c1 : (items.isEmpty || x == 1) = true) :
    Meets (Builtin.«tuple.__mul__» ⟨[.ref l, .int x u], []⟩) (fun _ R s => s.heap.get? l = some { cls := .type "tuple", dict := dd, data := .seq items n, slots := sl } ∧
      R (.ok (.ret (Value.ref l))) s) :=
  .of_wp fun prog w A R s h => by
    obtain ⟨hp, g, d, tk, os⟩ := s
    obtain ⟨hl, h⟩ := h
    have f1 := AutoSeq1.idx_int
    wp_walk using wpAny_loadPart' hl
    repeat (first
      | (refine wpAny_ite_false (decide_eq_false (by rw [c0]; exact Bool.false_ne_true)) ?_; wp_walk using wpAny_loadPart' hl)
      | (refine wpAny_ite_true (decide_eq_true c1) ?_; wp_walk using wpAny_loadPart' hl))
    exact ⟨_, rfl, h⟩
theorem tuple_mul0 (l : Addr) (items : Array Value) (n : Nat) (dd : Option Addr) (sl : Array (Option Value)) (x : Int) (u : Tok) (c0 : (decide (x < -(2 ^ 63)) || decide (x ≥ 2 ^ 63)) = false) (c1 : (items.isEmpty || x == 1) = false) (c2 : (decide (x ≤ 0) || items.isEmpty) = true) :
    Meets (Builtin.«tuple.__mul__» ⟨[.ref l, .int x u], []⟩) (fun _ R s => s.heap.get? l = some { cls := .type "tuple", dict := dd, data := .seq items n, slots := sl } ∧
      R (.ok (.ret (Value.ref s.heap.objs.size))) { s with heap := s.heap.push { cls := Value.type "tuple", data := Data.seq #[] }, toks := s.toks }) :=
  .of_wp fun prog w A R s h => by
    obtain ⟨hp, g, d, tk, os⟩ := s
    obtain ⟨hl, h⟩ := h
    have f1 := AutoSeq1.idx_int
    wp_walk using wpAny_loadPart' hl
    repeat (first
      | (refine wpAny_ite_false (decide_eq_false (by rw [c0]; exact Bool.false_ne_true)) ?_; wp_walk using wpAny_loadPart' hl)
      | (refine wpAny_ite_false (decide_eq_false (by rw [c1]; exact Bool.false_ne_true)) ?_; wp_walk using wpAny_loadPart' hl)
      | (refine wpAny_ite_true (decide_eq_true c2) ?_; wp_walk using wpAny_loadPart' hl))
    exact ⟨_, rfl, h⟩
def rRepT1 (K : Fg) : R2 := fun x y H Q => ∃ l k xs, x = .ref l ∧ y = .int k ∧ SqT K H l xs ∧ (xs = [] ∨ k = 1) ∧ -1000 ≤ k ∧ k ≤ 1000 ∧ Q (.ref l) H
def rRepT0 (K : Fg) : R2 := fun x y H Q => ∃ l k xs, x = .ref l ∧ y = .int k ∧ SqT K H l xs ∧ xs ≠ [] ∧ -1000 ≤ k ∧ k ≤ 0 ∧ NTp H Q []
section
variable {X : Cx}
theorem op_repT1 : OpR X (binaryOp .Mult) (rRepT1 X.G) := by
  intro pins s σ H x y v u Q I rx ry h
  obtain ⟨l, k, xs, rfl, rfl, hT, hne, h1, h2, q⟩ := h
  cases rx
  obtain ⟨t, rfl⟩ := ry
  obtain ⟨its, r, ⟨⟨cls, dd, data, sl⟩, ho, hc, n, hd⟩, hs⟩ := I.tuple hT
  simp only at hc hd
  subst hc hd
  have c0 : (decide (k < -(2 ^ 63)) || decide (k ≥ 2 ^ 63)) = false := by
    rw [decide_eq_false (by omega), decide_eq_false (by omega)] <;> rfl
  have c1 : (its.toArray.isEmpty || k == 1) = true := by
    rcases hne with e | e
    · have hle : its.length = xs.length := r.length.symm
      rw [e] at hle
      rw [List.eq_nil_of_length_eq_zero hle]; rfl
    · rw [e]; simp
  refine wpAny_binaryOp_repeat_ref (T := "tuple") (U := "int") (by decide) ⟨_, ho, rfl⟩ (fun s' => typeIs_int s' k t) noFill_tuple_mul F.fills_int_mul F.slot_int_rmul repeat_tuple F.slot_int_index.lookup
    (call_meets F.slot_int_rmul (typeIs_int s k t) F.entry_int_rmul (F.args_int_rmul_2 _ _) (int_rmul_tuple k t l its.toArray n dd sl)
      ⟨ho, rfl, ⟨_, ho, rfl⟩, call_meets F.slot_tuple_mul ⟨_, ho, rfl⟩ F.entry_tuple_mul (F.args_tuple_mul_2 _ _) (tuple_mul1 l its.toArray n dd sl k t c0 c1) ⟨ho, ?_⟩⟩)
  exact ⟨.ref l, H, I, rfl, q⟩
theorem op_repT0 : OpR X (binaryOp .Mult) (rRepT0 X.G) := by
  intro pins s σ H x y v u Q I rx ry h
  obtain ⟨l, k, xs, rfl, rfl, hT, hne, h1, h2, q⟩ := h
  cases rx
  obtain ⟨t, rfl⟩ := ry
  obtain ⟨its, r, ⟨⟨cls, dd, data, sl⟩, ho, hc, n, hd⟩, hs⟩ := I.tuple hT
  simp only at hc hd
  subst hc hd
  have hle : its.length = xs.length := r.length.symm
  have hn : its ≠ [] := fun e => hne (by
    rw [e] at hle
    exact List.eq_nil_of_length_eq_zero hle.symm)
  have hi : its.toArray.isEmpty = false := by
    cases its with
    | nil => exact absurd rfl hn
    | cons a b => rfl
  have c0 : (decide (k < -(2 ^ 63)) || decide (k ≥ 2 ^ 63)) = false := by
    rw [decide_eq_false (by omega), decide_eq_false (by omega)] <;> rfl
  have c1 : (its.toArray.isEmpty || k == 1) = false := by
    rw [hi, Bool.false_or]
    exact beq_eq_false_iff_ne.mpr (by omega)
  have c2 : (decide (k ≤ 0) || its.toArray.isEmpty) = true := by rw [decide_eq_true h2]; rfl
  refine wpAny_binaryOp_repeat_ref (T := "tuple") (U := "int") (by decide) ⟨_, ho, rfl⟩ (fun s' => typeIs_int s' k t) noFill_tuple_mul F.fills_int_mul F.slot_int_rmul repeat_tuple F.slot_int_index.lookup
    (call_meets F.slot_int_rmul (typeIs_int s k t) F.entry_int_rmul (F.args_int_rmul_2 _ _) (int_rmul_tuple k t l its.toArray n dd sl)
      ⟨ho, rfl, ⟨_, ho, rfl⟩, call_meets F.slot_tuple_mul ⟨_, ho, rfl⟩ F.entry_tuple_mul (F.args_tuple_mul_2 _ _) (tuple_mul0 l its.toArray n dd sl k t c0 c1 c2) ⟨ho, ?_⟩⟩)
  exact laidT (t' := s.toks) I .nil (by rw [sizeLine_eq]; decide) q
end
def oMulU : PyData → PyData → Out
  | .tuple ds, .int n => if (decide (-1000 ≤ n) && decide (n ≤ 1000) && decide (ds.length ≤ 1000)) = true then (if (ds.isEmpty || n == 1) = true then .d (.tuple ds) else .nt (List.replicate n.toNat ds).flatten) else .bad
  | d, e => oMulX d e
section
variable {T : TL} {E : Wish} {X : Cx} {a b : Expr} {pos : Pos} {p q : M Od}
theorem says_mulU : Says2 X.G oMulU fun x y H Q => rI CMulY (fun i j => .int (i * j)) x y H Q ∨ (rRepT1 X.G x y H Q ∨ (rRepT0 X.G x y H Q ∨ rRepF X.G x y H Q)) := by
  intro H Z v w d e Q hz hv hw ho
  by_cases ht : ∃ ds n, d = .tuple ds ∧ e = .int n
  · obtain ⟨ds, n, rfl, rfl⟩ := ht
    obtain ⟨l, xs, rfl, h1, h2⟩ := hv.tup hz
    cases hw.int
    simp only [oMulU] at ho
    have hl := dpa_length h2
    by_cases hc : (decide (-1000 ≤ n) && decide (n ≤ 1000) && decide (ds.length ≤ 1000)) = true
    · rw [if_pos hc] at ho
      simp only [Bool.and_eq_true, decide_eq_true_eq] at hc
      by_cases h3 : (ds.isEmpty || n == 1) = true
      · rw [if_pos h3] at ho
        have hd : Dp X.G Z (.ref l) (.tuple ds) := by
          rcases hv with hv | ⟨_, _, hv⟩
          · exact hv
          · cases hv
        refine .inr (.inl ⟨l, n, xs, rfl, rfl, h1, ?_, hc.1.1, hc.1.2, ho _ hd⟩)
        simp only [Bool.or_eq_true, List.isEmpty_iff, beq_iff_eq] at h3
        rcases h3 with e | e
        · rw [e] at hl; exact .inl (List.eq_nil_of_length_eq_zero hl)
        · exact .inr e
      · rw [if_neg h3] at ho
        have h3' : ds.isEmpty = false ∧ ¬ n = 1 := by simpa using h3
        have hne : xs ≠ [] := fun e => by
          rw [e] at hl
          have : ds = [] := List.eq_nil_of_length_eq_zero (by simpa using hl.symm)
          rw [this] at h3'
          cases h3'.1
        by_cases h4 : n ≤ 0
        · refine .inr (.inr (.inl ⟨l, n, xs, rfl, rfl, h1, hne, hc.1.1, h4, fun y ob hy hyc hyd => ?_⟩))
          have e : n.toNat = 0 := by omega
          have ho2 := ho.2
          rw [e] at ho2
          exact ho2 y _ ob hy hyc hyd .nil
        · exact .inr (.inr (.inr ⟨l, n, xs, rfl, rfl, h1, hne, by omega, hc.1.2, by omega, fun y ob hy hyc hyd => ho.2 y _ ob hy hyc hyd (dpa_rep h2 _)⟩))
    · rw [if_neg hc] at ho; exact ho.elim
  · have e0 : oMulU d e = oMulX d e := by
      unfold oMulU
      split
      · rename_i ds n
        exact absurd ⟨ds, n, rfl, rfl⟩ ht
      · rfl
    rw [e0] at ho
    exact .inl (says_int (X := X) (fun i j h => mulX_of (of_decide_eq_true h)) H Z v w d e Q hz hv hw ho)
theorem ge_mulU (ha : GO T E X a p) (hb : GO T E X b q) : GE T E X (.BinOp a .Mult b pos) (op2 oMulU p q) := ge_op2 ha hb (fun _ _ h1 h2 => pe_op (op_mulY.or (op_repT1.or (op_repT0.or op_repF))) h1 h2) says_mulU
end
end ZD


namespace ZD
open PySem PySem.Spec PyProof.Rows L2 GxR ZG
section
variable {T : TL} {E : Wish} {X : Cx} {a b : Expr} {pos px py pt pt2 : Pos} {kt k2 : Nat} {i j : Nat} {x y : Str} {ms : M (List PyData)}
end
end ZD


namespace ZD
open PySem PySem.Spec PyProof.Rows L2 GxR ZG
section
variable {X : Cx}
end
section
variable {T : TL} {E : Wish} {X : Cx} {a b c : Expr} {pos : Pos} {k : Nat} {i : Nat} {x : Str} {px : Pos}
end
section
variable {X : Cx}
end
end ZD


namespace ZD
open PySem PySem.Spec PyProof.Rows L2 GxR ZG
section
variable {X : Cx}
end
section
variable {T : TL} {E : Wish} {X : Cx} {a b : Expr} {pos : Pos} {p q : M Od} {k : Nat}
end
end ZD


namespace ZK
open PySem PySem.Spec PyProof.Rows L2
section
variable {X : Cx}
end
end ZK


namespace ZD
open PySem PySem.Spec PyProof.Rows L2 GxR ZG ZK

instance decKey (c : Key) (ks : List Key) : Decidable (c ∈ ks) := decidable_of_iff (ks.any (fun j => decide (j = c)) = true) (by simp)
def addU (ks : List Key) (c : Key) : List Key := if c ∈ ks then ks else ks ++ [c]
def uniq (ks : List Key) : List Key := ks.foldl addU []
section
variable {T : TL} {E : Wish} {X : Cx} {elt tg iter : Expr} {ifs : List Expr} {scope : Scope} {pos : Pos}
variable {own : List (Str × Nat)} {L : List Nat} {m : M (List PyData)} {f : TgF} {t : M Bool} {e : M PyData} {px cpos : Pos}
end
end ZD


namespace ZD
open PySem PySem.Spec PyProof.Rows L2 GxR ZG
section
variable {T : TL} {E : Wish} {X : Cx} {a b c o e f : Expr} {pos apos cpos : Pos} {k i : Nat} {p q : M Od} {w : M PyData} {x : Str} {px : Pos}
def dctE : Option PyData → Bool
  | some (.dict _) => true
  | _ => false
theorem dctE_some {o : Option PyData} (h : dctE o = true) : ∃ ds, o = some (.dict ds) := by
  cases o with
  | none => cases h
  | some d => cases d <;> first | exact ⟨_, rfl⟩ | cases h
def getF (ds : List (PyData × PyData)) (y z : PyData) : Option PyData := if kOk ds y = true then some ((valD ds y).getD z) else none
def mget2 (p q : M Od) (w : M PyData) : M PyData := bnd p fun x => fun en => if dctE (look en x) = true then (bnd q fun y => bnd w fun z => fun en => match look en x, look en y with
  | some (.dict ds), some j => (match getF ds j z with
    | some r => .ok r en
    | none => .bad)
  | _, _ => .bad) en else .bad
/-- the dict is one that is read -/
def IsDx (K : Fg) (H : Hp) (a : Addr) : Prop := (∃ kvs, Rd H a (.dK kvs)) ∨ ∃ xs, RdN K H a xs
theorem isDx_at {pins : List (Addr × Obj)} {σ : L2.St} {H : Hp} {s : Shared} {a : Addr} (I : L2.Inv X pins σ H s) (d : IsDx X.G H a) :
    s.TypeIs (.ref a) "dict" ∧ (∀ b, Value.ref a = .ref b → ∃ ob, s.heap.get? b = some ob ∧ ob.dict = none) ∧ (a == sysModules) = false := by
  rcases d with ⟨kvs, e⟩ | ⟨xs, e⟩
  · exact isD_at I (.inl ⟨kvs, e⟩)
  · obtain ⟨_, hd, ys, _, o, es, ep, h1, h2, _⟩ := dn_rd I e
    exact ⟨⟨o, h1, h2.1⟩, fun b e => by cases e; exact ⟨o, h1, h2.2.1⟩, hd⟩
theorem top_isDx {K : Fg} {H Z : Hp} {v : V} {ds : List (PyData × PyData)} (hz : ∀ a o, Z a = some o → H a = some o) (h : Top K H Z v (.dict ds)) : ∃ a, v = .ref a ∧ IsDx K H a := by
  obtain ⟨a, rfl, h'⟩ := top_dict hz h
  rcases h' with ⟨kvs, h1, _⟩ | ⟨_, xs, h1, h2⟩
  · exact ⟨a, rfl, .inl ⟨kvs, h1⟩⟩
  · exact ⟨a, rfl, .inr ⟨xs, .inl h1, h2.key hz⟩⟩
theorem x_get2 {pins : List (Addr × Obj)} {σ : L2.St} {H : Hp} {s : Shared} {a : Addr} {y z : V} {u uz : Value} {r : Option V} {A : Around} {E : Value → Shared → Prop} {Q : Value → Shared → Prop} (hu : A.units + 10 < cLine) (I : L2.Inv X pins σ H s) (g : DGx X.G H a y r) (ry : RelV y u) (rz : RelV z uz)
    (h : ∀ w' s', L2.Inv X pins σ H s' → RelV (r.getD z) w' → Q w' s') : wpAny (model X.prog X.w) A (call (.builtin "dict.get") [.ref a, u, uz]) Q E s := by
  rcases g with g | ⟨xs, q, k, hd, rfl, hk, l⟩
  · exact d_get2 (by omega) I g ry rz h
  · cases (show u = Value.ref q from ry)
    obtain ⟨_, hs, ys, rel, dd⟩ := dn_rd I hd
    refine getOr_keyed (knd := nestedKind X.prog X.w) (kvs := pairsH ys) (by show A.units + 1 + 8 < cLine; omega) (hk.is I) hs ⟨ys, dd, rfl⟩ ?_
    rw [valueAt_pairsH]
    have q := rel.val k
    rw [show (xs.find? fun x => decide (x.1 = k)).map (·.2.2) = r from l.symm] at q
    refine h _ _ (I.tok _) ?_
    cases hr : r with
    | none =>
      rw [hr] at q
      rw [RelO.none_of q]
      exact rz
    | some v =>
      rw [hr] at q
      obtain ⟨w', e, r'⟩ := RelO.some_of q
      rw [e]
      exact r'
def tDGx2 (K : Fg) (td ty tx : TE) : TE := fun σ H Q => td σ H fun x H1 => ∃ a, x = .ref a ∧ IsDx K H1 a ∧ ty σ H1 fun y H2 => tx σ H2 fun z H3 => ∃ o, DGx K H3 a y o ∧ Q (o.getD z) H3
theorem pe_dgx2 {td ty tx : TE} (hu : X.A.units + 10 < cLine) (ho : PE X o td) (he : PE X e ty) (hf : PE X f tx) (m : M2 X o "get" apos e f cpos) : PE X (.Call (.Attribute o "get" apos) [e, f] [] cpos) (tDGx2 X.G td ty tx) := by
  refine ⟨fun pins s σ H Q I h => ?_⟩
  refine wpAny_Call_method m.base m.few m.line PySem.F.plainAttrs_dict PySem.F.slot_dict_get PySem.F.type_dict_get (thn (ho.run pins s σ H _ I h) fun u s1 ⟨x, H1, I1, rx, a, ex, d, q1⟩ => ?_)
  subst ex
  obtain rfl : u = Value.ref a := rx
  obtain ⟨t1, t2, _⟩ := isDx_at I1 d
  refine ⟨t1, t2, ?_⟩
  rw [m.trees]
  refine Calls.callWith_builtin rfl (Calls.evalArgs_plain (Calls.spliced_cons (thn (he.run pins s1 σ H1 _ I1 q1) fun iv s2 ⟨y, H2, I2, ry, q2⟩ =>
    Calls.spliced_cons (thn (hf.run pins s2 σ H2 _ I2 q2) fun fv s3 ⟨z, H3, I3, rz, ov, g, q3⟩ => Calls.spliced_nil ?_))))
  exact x_get2 hu I3 g ry rz fun w' s4 I4 rw' => ⟨_, H3, I4, rw', q3⟩
theorem get_ok {K : Fg} {H Z : Hp} {v y z : V} {ds : List (PyData × PyData)} {j zd r : PyData} {Q : VK} (hzh : ∀ a o, Z a = some o → H a = some o) (hd : Top K H Z v (.dict ds)) (hj : Top K H Z y j) (hz : Dp K Z z zd) (g : getF ds j zd = some r) (hQ : ∀ u, Dp K Z u r → Q u H) : ∃ a o, v = .ref a ∧ DGx K H a y o ∧ Q (o.getD z) H := by
  unfold getF at g
  by_cases hk : kOk ds j = true
  · rw [if_pos hk] at g
    cases g
    obtain ⟨a, o, rfl, h1, h2, h3⟩ := dgx_of hzh hd hj hk
    refine ⟨a, o, rfl, h1, hQ _ ?_⟩
    cases hv : valD ds j with
    | none => rw [h3 hv]; exact hz
    | some d =>
      obtain ⟨u, rfl, q⟩ := h2 d hv
      exact q
  · rw [if_neg hk] at g; cases g
theorem gd_get2 (hr : Room k X.A) (ho : GO T E X o p) (he : GO T E X e q) (hf : GD T E X f w) (m : M2 X o "get" apos e f cpos) : GD T E X (.Call (.Attribute o "get" apos) [e, f] [] cpos) (mget2 p q w) :=
  pe_imp (pe_dgx2 (by have := hr.un; omega) ho he hf m) fun sg H Q ⟨en, Z, r, q⟩ => ⟨en, Z, r, post_mono (post_bnd r q) fun x en1 H1 Z1 _ ⟨a1, q1⟩ v hv => by
    by_cases hc : dctE (look en1 x) = true
    · rw [if_pos hc] at q1
      obtain ⟨ds1, hl1⟩ := dctE_some hc
      obtain ⟨a, rfl, h1⟩ := top_isDx a1.rel.sub (top_of a1.rel hv hl1)
      refine ⟨a, rfl, h1, en1, Z1, a1.rel, post_mono (post_bnd a1.rel q1) fun y en2 H2 Z2 _ ⟨a2, q2⟩ yv hy => ⟨en2, Z2, a2.rel, post_mono (post_bnd a2.rel q2) fun z en3 H3 Z3 _ ⟨a3, q3⟩ zv hz => ?_⟩⟩
      cases hl : look en3 x with
      | none => simp only [hl] at q3; exact q3.elim
      | some d =>
        cases hl2 : look en3 y with
        | none => simp only [hl, hl2] at q3; cases d <;> exact q3.elim
        | some j =>
          simp only [hl, hl2] at q3
          cases d with
          | dict ds =>
            cases hg : getF ds j z with
            | none => simp only [hg] at q3; exact q3.elim
            | some rr =>
              simp only [hg] at q3
              obtain ⟨a', o, e1, g, qq⟩ := get_ok (Q := Q) a3.rel.sub (top_of a3.rel (od_mono a3 (od_mono a2 hv)) hl) (top_of a3.rel (od_mono a3 hy) hl2) hz hg fun u hu => q3 H3 Z3 (Aft.refl a3.rel) u hu
              cases e1
              exact ⟨o, g, qq⟩
          | _ => exact q3.elim
    · rw [if_neg hc] at q1; exact q1.elim⟩
def gDSt (j : PyData) (y : PyData) : PyData → Option (PyData × PyData)
  | .dict kvs => if (kOk kvs j && decide (kvs.length < 2000000)) = true then some (.dict (putD kvs j y), .none) else none
  | _ => none
def mdst (i : Nat) (m : M PyData) (j : M Od) : M Fl := mstW i gDSt isDs m j
theorem gs_dstore {m : M PyData} {j : M Od} {tpos : Pos} (hr : Room k X.A) (hv : PE X (.Name x px) (tVar i)) (hj : GO T E X b j) (ha : GD T E X a m)
    (hs : swapsWith a (some (.Subscript (.Name x px) b tpos)) pos.line X.env = pure false := by rfl) :
    GS T E X (.Assign [.Subscript (.Name x px) b tpos] a pos) (mdst i m j) :=
  ps_imp (ps_dpx (by have := hr.un; omega) hv hj ha hs) fun D sg H ⟨en, Z, r, q⟩ => ⟨en, Z, r, post_mono (post_bnd r (posts_post q)) fun y en1 H1 Z1 _ ⟨a1, q1⟩ v hv => by
    unfold chk at q1
    by_cases hc : isDs en1[i]? = true
    · rw [if_pos hc] at q1
      obtain ⟨l, kvs0, g1, g2⟩ := is_ds a1.rel hc
      refine ⟨_, g1, en1, Z1, a1.rel, post_mono (post_bnd a1.rel q1) fun z en2 H2 Z2 _ ⟨a2, q2⟩ w hw => ?_⟩
      cases hl : look en2 z with
      | none => simp only [hl] at q2; exact False.elim q2
      | some zd =>
        simp only [hl] at q2
        have ht := top_of a2.rel hw hl
        obtain ⟨a, d, d', u, en', f1, f2, f3, f4⟩ := wr_ok a2.rel (post_bnd a2.rel q2)
        rw [g1] at f1
        cases f1
        cases d with
        | dict ds =>
          simp only [gDSt] at f3
          by_cases hc : (kOk ds zd && decide (ds.length < 2000000)) = true
          · rw [if_pos hc] at f3
            cases f3
            rw [Bool.and_eq_true, decide_eq_true_eq] at hc
            have hm := million
            obtain ⟨u', k1, k2, k3⟩ := dpx_of a2.rel.sub f2 ht (dp_mono a2.zz hv) hc.1 (by omega)
            refine ⟨l, _, rfl, k1, ?_⟩
            obtain ⟨a3, q3⟩ := f4 u' k3
            exact q3 _ _ (Aft.refl a3.rel)
          · rw [if_neg hc] at f3; cases f3
        | _ => cases f3
    · rw [if_neg hc] at q1; exact False.elim q1⟩
end
end ZD


namespace ZD
open PySem PySem.Spec PyProof.Rows L2 GxR ZG
section
variable {T : TL} {E : Wish} {X : Cx} {a b c o e f : Expr} {pos apos cpos : Pos} {k i : Nat} {p q : M Od} {x : Str} {px : Pos}
end
end ZD


namespace ZD
open PySem PySem.Spec PyProof.Rows L2 GxR ZG
section
variable {T : TL} {E : Wish} {X : Cx} {o e : Expr} {apos cpos : Pos} {k : Nat} {p q : M Od}
end
end ZD


namespace ZD
open PySem PySem.Spec PyProof.Rows L2 GxR ZG

/-- the class object of that name -/
def eA (K : PySem.W.Frag) (c : String) : Addr := He.ga K (Str.ofString c)
section
variable {P : Program} {w : World} {K : PySem.W.Frag} {mg : Str → Option Value} {base : Heap} {T : TL}
end

section
variable {T : TL} {E : Wish} {X : Cx} {f : Addr} {fd : FuncData} {ps : List Str} {x : Str} {p pos : Pos} {e : Expr} {es : List Expr} {j k : Nat} {np : Nat} {F : Fn}
end

/-- what a class of errors of the row is to say -/
structure Ec (K : PySem.W.Frag) (mg : Str → Option Value) (C : String) : Prop where
  gm : mg (Str.ofString C) = some (.ref (eA K C))
  q : PySem.W.excIn K (eA K C) He.veBase "ValueError.__new__" = true
  kp : PySem.W.keepIn K (.ref (eA K C)) = true
  sb : PySem.W.subIn K (.ref (eA K C)) (.type "BaseException") = some true
  ty : PySem.W.typeIn K (.ref (eA K C)) = some (.type "type")
end ZD


namespace ZD
open PySem PySem.Spec PyProof.Rows L2 GxR ZG

section
variable {X : Cx} {p : Addr × Obj}
end
end ZD


namespace ZD
open PySem PySem.Spec PyProof.Rows L2 GxR ZG

section
variable {T : TL} {E : Wish} {X : Cx} {e : Expr} {es : List Expr} {pos : Pos} {p : Addr × Obj} {a : Addr} {oe : Obj}
end
end ZD


namespace ZD
open PySem PySem.Spec PyProof.Rows L2 GxR ZG

section
variable {P : Program} {w : World} {K : PySem.W.Frag} {mg : Str → Option Value} {base : Heap} {T : TL}
end
section
variable {X : Cx} {T : TL} {a : Addr} {oe : Obj} {x y n : Str} {i lv j : Nat} {D : String} {F : Fn} {d : PyData} {pn : List (Addr × Obj)} {p1 p2 p3 : Pos}
end

/-- a slot that holds nothing of one's own -/
def bare : Option Sl → Bool
  | some .no => true
  | some (.sh _) => true
  | _ => false
section
variable {X : Cx} {T : TL} {E : Wish} {x y n : Str} {i lv j : Nat} {p1 p2 p3 p4 np pos pos' : Pos} {body : List Stmt} {m : M Fl} {Fs : String → Fn}
end
end ZD


namespace ZD
open PySem PySem.Spec PyProof.Rows L2 GxR ZG

structure Errs (K : PySem.W.Frag) (mg : Str → Option Value) (cs : List String) : Prop where
  fe : mg "FirstError" = some (.ref (eA K "FirstError"))
  ec : ∀ D ∈ cs, Ec K mg D
  xc : ∀ D ∈ cs, ExcC K (eA K D)
  xm : ∀ D ∈ cs, PySem.W.exmOne K (.ref (eA K D)) (.ref (eA K "FirstError")) = some true
  kt : ∀ D ∈ cs, ∀ C ∈ cs, PySem.W.kitOne K (.ref (eA K D)) (.ref (eA K C)) = some (decide (D = C))
section
variable {T : TL} {E : Wish} {X : Cx} {a : Addr} {oe : Obj} {D : String} {y : Str}
end
end ZD
namespace ZD
open PySem PySem.Spec PyProof.Rows L2 GxR ZG
end ZD


namespace ZD
open PySem PySem.Spec PyProof.Rows L2 GxR ZG
section
variable {T : TL} {E : Wish} {X : Cx} {e e1 e2 : Expr} {i : Nat} {a : Addr} {oe : Obj} {pos p1 p2 pf : Pos} {n m : Int} {d : PyData}
end
section
variable {T : TL} {E : Wish} {X : Cx} {i : Nat} {n : Str} {body : List Stmt} {m : M Fl} {np p4 pos' pos : Pos}
end
end ZD


namespace ZD
open PySem PySem.Spec PyProof.Rows L2 GxR ZG
section
variable {T : TL} {E : Wish} {X : Cx} {a b c : Expr} {es : List Expr} {pos p1 p2 p3 : Pos} {k i : Nat} {p q : M Od} {ms : M (List PyData)} {x : Str} {px : Pos}
end
end ZD


namespace ZD
open PySem PySem.Spec PyProof.Rows L2 GxR ZG
section
variable {k : Kx} {sg sg0 : L2.St} {H H0 H1 Z Z0 Z1 : Hp} {en en0 en1 : En} {E : Wish}
def Dist (v : V) (x : Vl) (w : V) (y : Vl) : Prop := ∀ p d d', x = .ow d → y = .ow d' → v = .ref p → w ≠ .ref p
inductive VlsOk (k : Kx) (sg : L2.St) (H : Hp) (en : En) (sg' : L2.St) (H' Z' : Hp) (en' : En) : List V → List Vl → Prop
  | nil : VlsOk k sg H en sg' H' Z' en' [] []
  | cons {v : V} {x : Vl} {vs : List V} {xs : List Vl} : VlOk k sg H en sg' H' Z' en' v x → (∀ q ∈ vs.zip xs, Dist v x q.1 q.2) → VlsOk k sg H en sg' H' Z' en' vs xs → VlsOk k sg H en sg' H' Z' en' (v :: vs) (x :: xs)
end
section
variable {T : TL} {E : Wish} {X : Cx} {a b c : Expr} {es : List Expr} {pos px py pz pt pt2 : Pos} {kt k2 : Nat} {i j l : Nat} {x y z : Str} {ms : M (List Vl)} {m : M Vl}
end
end ZD


namespace ZD
open PySem PySem.Spec PyProof.Rows L2 GxR ZG
section
variable {k : Kx} {E : Wish} {sg sg' : L2.St} {H H' Z Z' : Hp} {en en' : En} {i : Nat} {d : PyData}
end
section
variable {T : TL} {E : Wish} {X : Cx} {tg iter : Expr} {body : List Stmt} {pos py : Pos} {y : Str} {i : Nat}
end
end ZD


namespace ZD
open PySem PySem.Spec PyProof.Rows L2 GxR ZG
section
variable {k : Kx} {E : Wish} {sg : L2.St} {H Z : Hp} {en : En} {i : Nat} {α : Type}
end
section
variable {T : TL} {E : Wish} {X : Cx} {elt tg iter : Expr} {ifs : List Expr} {scope : Scope} {pos py : Pos} {y : Str} {i0 : Nat} {own : List (Str × Nat)} {f : TgF} {t : M Bool} {e : M PyData} {L : List Nat}
end
end ZD


namespace ZD
open PySem PySem.Spec PyProof.Rows L2 GxR ZG
section
variable {X : Cx} {k : Nat}
end
theorem sp_up {K : Fg} {T : TL} {q : Option Addr × Addr} {np : Nat} {F : Fn} {vs : List V} {H : Hp} {Q : VK} {E : XK} (h : spF ⟨K, q :: T⟩ np F vs H Q E) : spF ⟨K, T⟩ np F vs H Q E := by
  obtain ⟨e, ps, Z, g1, g2, r, g4⟩ := h
  refine ⟨e, ps, Z, g1, g2, ⟨r.sub, r.sl, r.dis, r.tab.tail⟩, ?_⟩
  cases hF : F ps with
  | bad => rw [hF] at g4; exact g4
  | err c en => rw [hF] at g4; exact g4
  | ok x en =>
    rw [hF] at g4
    exact fun v H' Z' a hv => g4 v H' Z' ⟨⟨a.rel.sub, a.rel.sl, a.rel.dis, a.tb _ r.tab⟩, a.zz, a.new, a.kp, a.own, a.io, a.tb⟩ hv
theorem has_up {P : Program} {w : World} {K : PySem.W.Frag} {mg : Str → Option Value} {base : Heap} {T : TL} {q : Option Addr × Addr} {x : Str} {lv : Nat} {ps : List Str} {np : Nat} {F : Fn} (h : Has P w K mg base T x lv ps np F) : Has P w K mg base (q :: T) x lv ps np F := by
  obtain ⟨fd, h1, h2, h3, h4⟩ := h
  exact ⟨fd, h1, h2, h3, h4.imp fun vs H Q E z => sp_up z⟩
end ZD


namespace ZD
open PySem PySem.Spec PyProof.Rows L2 GxR ZG
section
variable {T : TL} {E : Wish} {X : Cx} {a b c o e f tg : Expr} {pos apos cpos p0 : Pos} {k i : Nat} {p q : M Od} {w : M PyData} {m : M Vl} {x : Str} {px : Pos}
def mget2v (m : M Vl) (q : M Od) (w : M PyData) : M PyData := bnd m fun x => match x with
  | .ow (.dict ds) => bnd q fun y => bnd w fun z => fun en => match look en y with
    | some j => (match getF ds j z with
      | some r => .ok r en
      | none => .bad)
    | none => .bad
  | _ => fail
theorem gd_get2v (hr : Room k X.A) (ho : GE T E X o m) (he : GO T E X e q) (hf : GD T E X f w) (mm : M2 X o "get" apos e f cpos) : GD T E X (.Call (.Attribute o "get" apos) [e, f] [] cpos) (mget2v m q w) :=
  pe_imp (pe_dgx2 (by have := hr.un; omega) ho he hf mm) fun sg H Q ⟨en, Z, r, q⟩ => ⟨en, Z, r, post_mono (post_bnd r q) fun x en1 H1 Z1 _ ⟨a1, q1⟩ v hv => by
    cases x with
    | sh d => exact q1.elim
    | ow d =>
      cases d with
      | dict ds =>
        obtain ⟨a, rfl, h1⟩ := top_isDx a1.rel.sub (top_vl a1.rel hv (Aft.refl a1.rel))
        refine ⟨a, rfl, h1, en1, Z1, a1.rel, post_mono (post_bnd a1.rel q1) fun y en2 H2 Z2 _ ⟨a2, q2⟩ yv hy => ⟨en2, Z2, a2.rel, post_mono (post_bnd a2.rel q2) fun z en3 H3 Z3 _ ⟨a3, q3⟩ zv hz => ?_⟩⟩
        cases hl2 : look en3 y with
        | none => simp only [hl2] at q3; exact q3.elim
        | some j =>
          simp only [hl2] at q3
          cases hg : getF ds j z with
          | none => simp only [hg] at q3; exact q3.elim
          | some rr =>
            simp only [hg] at q3
            obtain ⟨a', o, e1, g, qq⟩ := get_ok (Q := Q) a3.rel.sub (top_vl a1.rel hv (a2.trans a3 a1.rel)) (top_of a3.rel (od_mono a3 hy) hl2) hz hg fun u hu => q3 H3 Z3 (Aft.refl a3.rel) u hu
            cases e1
            exact ⟨o, g, qq⟩
      | _ => exact q1.elim⟩
def tL (k : Kx) (E : Wish) (m : M PyData) : TE := fun sg H Q => ∃ en Z, Rel k sg H Z en ∧ Post k E sg H Z en (m en) fun d en' H' Z' => ∀ v, Top k.K H' Z' v d → Q v H'
abbrev GL (T : TL) (E : Wish) (X : Cx) (e : Expr) (m : M PyData) : Prop := PE X e (tL ⟨X.G, T⟩ E m)
def dV (m : M Vl) : M PyData := bnd m fun x => ret x.d
def lkO (p : M Od) : M PyData := bnd p fun x => fun en => match look en x with
  | some d => .ok d en
  | none => .bad
theorem gl_o (h : GO T E X e p) : GL T E X e (lkO p) := pe_imp h fun sg H Q ⟨en, Z, r, q⟩ => ⟨en, Z, r, post_mono (post_bnd r q) fun x en1 H1 Z1 _ ⟨a1, q1⟩ v hv => by
  cases hl : look en1 x with
  | none => simp only [hl] at q1; exact q1.elim
  | some d =>
    simp only [hl] at q1
    exact q1 H1 Z1 (Aft.refl a1.rel) v (top_of a1.rel hv hl)⟩
def pairP (p : PyData × PyData) : PyData := .tuple [p.1, p.2]
/-- the pairs, each a known tuple -/
def KnT (H : Hp) (t : Addr) (q : Key × V) : Prop := ∃ ob : Obj, H t = some (.frz ob (.tup [kV q.1, q.2])) ∧ ob.cls = .type "tuple" ∧ ob.dict = none
def putG (f : Addr → Obj) : Hp → List Addr → List (Key × V) → Hp
  | H, a :: as, q :: kvs => putG f (upd H a (.frz (f a) (.tup [kV q.1, q.2]))) as kvs
  | H, _, _ => H
theorem putG_off {f : Addr → Obj} {b : Addr} : ∀ (as : List Addr) (kvs : List (Key × V)) (H : Hp), b ∉ as → putG f H as kvs b = H b
  | [], _, _, _ => rfl
  | _ :: _, [], _, _ => rfl
  | a :: as, q :: kvs, H, h => (putG_off as kvs _ fun z => h (List.mem_cons_of_mem _ z)).trans (upd_ne fun z => h (by rw [z]; exact List.mem_cons_self))
theorem putG_at {f : Addr → Obj} : ∀ (as : List Addr) (kvs : List (Key × V)) (H : Hp), as.length = kvs.length → as.Nodup → Paired (fun (t : Addr) (q : Key × V) => putG f H as kvs t = some (.frz (f t) (.tup [kV q.1, q.2]))) as kvs
  | [], [], _, _, _ => .nil
  | [], _ :: _, _, h, _ => by cases h
  | _ :: _, [], _, h, _ => by cases h
  | a :: as, q :: kvs, H, h, hn => .cons ((putG_off as kvs _ (List.nodup_cons.mp hn).1).trans upd_same) (putG_at as kvs _ (Nat.succ.inj h) (List.nodup_cons.mp hn).2)
theorem paired_mp {α β : Type} {F F' : α → β → Prop} (h : ∀ a b, F a b → F' a b) : ∀ {xs : List α} {ys : List β}, Paired F xs ys → Paired F' xs ys
  | _, _, .nil => .nil
  | _, _, .cons q t => .cons (h _ _ q) (paired_mp h t)
theorem paired_and {α β : Type} {F : α → β → Prop} {G : α → Prop} : ∀ {xs : List α} {ys : List β}, Paired F xs ys → (∀ x ∈ xs, G x) → Paired (fun x y => F x y ∧ G x) xs ys
  | _, _, .nil, _ => .nil
  | _, _, .cons h t, g => .cons ⟨h, g _ List.mem_cons_self⟩ (paired_and t fun x hx => g x (List.mem_cons_of_mem _ hx))
theorem knT_of {f : Addr → Obj} {H : Hp} {as : List Addr} {kvs : List (Key × V)} (h : Paired (fun (t : Addr) (q : Key × V) => H t = some (.frz (f t) (.tup [kV q.1, q.2]))) as kvs) (g : ∀ t ∈ as, (f t).cls = .type "tuple" ∧ (f t).dict = none) : Paired (KnT H) as kvs :=
  paired_mp (fun t q ⟨h1, h2, h3⟩ => ⟨f t, h1, h2, h3⟩) (paired_and h g)
/-- what lies at a -/
def objA (h : Heap) (a : Addr) : Obj := (h.get? a).getD { cls := .none, data := .fields #[] }
theorem objA_of {h : Heap} {a : Addr} {o : Obj} (e : h.get? a = some o) : objA h a = o := by unfold objA; rw [e]; rfl
open LiI in
theorem items_known {X : Cx} {pins : List (Addr × Obj)} {σ : L2.St} {H : Hp} {s : Shared} {h' : Heap} {tk : Nat} {kvs : List (Key × V)} {vs : List (Key × Value)} {as : List Addr} (I : Inv X pins σ H s) (kv : KV kvs vs) (lo : Addr) (hlo : s.heap.objs.size ≤ lo)
    (kp : ∀ b o, s.heap.get? b = some o → h'.get? b = some o) (hl : as.length = vs.length) (hG : PySem.W.KdxG (mixKind X.prog X.w) vs lo h' as) :
    Inv X pins σ (putG (objA h') H as kvs) { s with heap := h', toks := tk } ∧ Paired (KnT (putG (objA h') H as kvs)) as kvs ∧ (∀ t ∈ as, H t = none) ∧ as.Nodup ∧ ∀ t ∈ as, (objA h' t).cls = .type "tuple" ∧ (objA h' t).dict = none := by
  have lk : kvs.length = vs.length := Paired.length kv
  have nd : as.Nodup := List.Pairwise.imp (fun {a b} (h : a < b) => Nat.ne_of_lt h) hG.rise
  have new : ∀ t ∈ as, H t = none := fun t ht => I.hok.fresh (Nat.le_of_lt (Nat.lt_of_le_of_lt hlo (hG.above t ht)))
  have atP := putG_at (f := objA h') as kvs H (by omega) nd
  have off : ∀ b, b ∉ as → putG (objA h') H as kvs b = H b := fun b h1 => putG_off as kvs _ h1
  have kpH : ∀ b u, H b = some u → putG (objA h') H as kvs b = some u := fun b u e => by
    rw [off b (fun z => by rw [new b z] at e; cases e)]; exact e
  have low : ∀ b o, s.heap.get? b = some o → b ∉ as := fun b o e z => absurd (Heap.lt_size e) (Nat.not_lt.mpr (Nat.le_of_lt (Nat.lt_of_le_of_lt hlo (hG.above b z))))
  have obj : ∀ t ∈ as, (objA h' t).cls = .type "tuple" ∧ (objA h' t).dict = none := fun t ht => by
    obtain ⟨j, hj⟩ := List.mem_iff_getElem?.mp ht
    obtain ⟨key, k, x, _, _, f3⟩ := hG.pairs j t hj
    rw [objA_of f3]
    exact ⟨rfl, rfl⟩
  refine ⟨?_, knT_of atP obj, new, nd, obj⟩
  refine I.call' (ch := []) rfl ⟨fun b o q _ _ _ => kp b o q, fun b o q _ _ _ => ⟨o.slots, kp b o q⟩, fun b o q n _ => ?_, fun b o q _ => ⟨o, kp b o q⟩, fun b xs q => kpH b _ q, fun b o u q => kpH b _ q, fun b ps q => ⟨#[], by rw [kpH b _ q]; simp⟩⟩ (fun b u q => ?_) I.bare fun b z => by simp at z
  · rw [off b (low b o q)]; exact n
  · by_cases hb : b ∈ as
    · obtain ⟨j, pk, e1, e2, e3⟩ := paired_ix atP hb
      rw [e3] at q
      cases q
      obtain ⟨key, k, x, f1, f2, f3⟩ := hG.pairs j b e1
      obtain ⟨qv, g1, g2, g3⟩ := LiI.paired_get kv e2
      rw [f1] at g1
      cases g1
      have rk : RelV (kV pk.1) key := by
        rw [g2]
        exact relV_key (show keyIs k key = true from f2)
      rw [objA_of f3]
      exact okT (us := [key, x]) f3 rfl rfl (.cons rk (.cons g3 .nil)) (by show 2 ≤ sizeLine; decide)
    · rw [off b hb] at q
      exact (I.hok b u q).stay (fun d v _ y => kp d v y) (fun d y => kpH d _ y) fun d xs y => kpH d _ y
open LiI in
theorem dpa_putT {K : Fg} {Z : Hp} : ∀ (as : List Addr) (kvs : List (Key × V)) (ds : List (PyData × PyData)), as.length = kvs.length → as.Nodup → (∀ t ∈ as, Z t = none) → ds.map (·.1) = kvs.map (fun p => keyD p.1) → DpAll K Z (kvs.map (·.2)) (ds.map (·.2)) → ∀ Z', (∀ b o, Z b = some o → Z' b = some o) → Paired (KnT Z') as kvs → DpAll K Z' (as.map V.ref) (ds.map pairP)
  | [], [], [], _, _, _, _, _, _, _, _ => .nil
  | [], [], _ :: _, _, _, _, h, _, _, _, _ => by cases h
  | [], _ :: _, _, h, _, _, _, _, _, _, _ => by cases h
  | _ :: _, [], _, h, _, _, _, _, _, _, _ => by cases h
  | _ :: _, _ :: _, [], _, _, _, h, _, _, _, _ => by cases h
  | a :: as, p :: kvs, d :: ds, h, hn, hf, hk, hv, Z', hz, hp => by
    cases hp with
    | cons h1 h2 =>
      cases hv with
      | cons v1 v2 =>
        have e1 : d.1 = keyD p.1 := by simpa using congrArg List.head? hk
        refine .cons (.tup (.inl h1) (.cons ?_ (.cons (dp_mono hz v1) .nil))) (dpa_putT as kvs ds (Nat.succ.inj h) (List.nodup_cons.mp hn).2 (fun t ht => hf t (List.mem_cons_of_mem _ ht)) (by simpa using congrArg List.tail hk) v2 Z' hz h2)
        rw [e1]
        cases p.1 with
        | inl i => exact .int i
        | inr x => exact .str x
/-- a heap that has more, some of it shared -/
theorem aft_ext {kk : Kx} {sg : L2.St} {H Z H' Z' : Hp} {en : En} (r : Rel kk sg H Z en) (h1 : ∀ b u, H b = some u → H' b = some u) (h2 : ∀ b u, Z b = some u → Z' b = some u) (h3 : ∀ b u, Z' b = some u → H' b = some u) (h4 : ∀ b u, Z' b = some u → Z b = some u ∨ H b = none) : Aft kk sg H Z en sg H' Z' en := by
  have zn : ∀ a u, H a = some u → Z a = none → Z' a = none := fun a u hu hz => by
    cases e : Z' a with
    | none => rfl
    | some v =>
      rcases h4 a v e with q | q
      · rw [hz] at q; cases q
      · rw [hu] at q; cases q
  have hu : ∀ a, Mine H sg en a → ∀ o, H a = some o → H' a = some o := fun a _ u h => h1 a u h
  refine ⟨⟨h3, fun i s h => ?_, fun i j s t b g1 g2 g3 g4 g5 g6 => r.dis i j s t b g1 g2 g3 g4 (pl_mono r hu g1 g5) (pl_mono r hu g2 g6), r.tab.mono (fun a u h _ => h1 a u h) fun a ps h hz => zn a _ h hz⟩, h2, fun a u h => ?_, fun a u h _ => .inl (h1 a u h), fun _ h => .inl (mine_mono r hu h), fun i d h => ⟨⟨d, h⟩, rfl⟩, fun _ t => t.mono (fun a u h _ => h1 a u h) fun a ps h hz => zn a _ h hz⟩
  · obtain ⟨v, hv, q⟩ := r.sl i s h
    exact ⟨v, hv, sl_mono hv q (fun a _ _ => h1 a) (fun a ho hp hz => by
      obtain ⟨u, g⟩ := r.here h ho hp
      exact zn a u g hz) h2⟩
  · rcases h4 a u h with q | q
    · exact .inl q
    · exact .inr (.inl q)
/-- what list(d.items()), sorted(d.items()) give -/
def rItX (K : Fg) (F : List PyData → Option (List PyData)) : V → Hp → VK → Prop := fun x H Q => ∃ (d : Addr) (kvs : List (Key × V)) (ds : List (PyData × PyData)) (Z : Hp) (res : List PyData), (∀ b u, Z b = some u → H b = some u) ∧ x = .ref d ∧ Rd H d (.dK kvs) ∧ ds.map (·.1) = kvs.map (fun p => keyD p.1) ∧ DpAll K Z (kvs.map (·.2)) (ds.map (·.2)) ∧ F (ds.map pairP) = some res ∧
  ∀ (H' Z' : Hp) (p : Addr) (ys : List V), (∀ b u, H b = some u → H' b = some u) → (∀ b u, Z b = some u → Z' b = some u) → (∀ b u, Z' b = some u → H' b = some u) → (∀ b u, Z' b = some u → Z b = some u ∨ H b = none) → H p = none → Z' p = none → H' p = some (.lst ys) → DpAll K Z' ys res → Q (.ref p) H'
def mItX (F : List PyData → Option (List PyData)) (m : M PyData) : M Vl := bnd m fun d => match d with
  | .dict ds => if hdK ds = true then (match F (ds.map pairP) with
    | some res => ret (.ow (.list res))
    | none => fail) else fail
  | _ => fail
theorem ge_itx {F : List PyData → Option (List PyData)} {w : M PyData} (ha : GL T E X a w) (hB : ∀ ta, PE X a ta → PE X e fun sg H Q => ta sg H fun x H1 => rItX X.G F x H1 Q) : GE T E X e (mItX F w) :=
  pe_imp (hB _ ha) fun sg H Q ⟨en, Z, r0, q⟩ => ⟨en, Z, r0, post_mono (post_bnd r0 q) fun d en1 H1 Z1 _ ⟨a1, q1⟩ v hv => by
    cases d with
    | dict ds =>
      by_cases hh : hdK ds = true
      · dsimp only at q1
        rw [if_pos hh] at q1
        cases hF : F (ds.map pairP) with
        | none => simp only [hF] at q1; exact q1.elim
        | some res =>
        simp only [hF] at q1
        obtain ⟨a, kvs, rfl, g1, dk⟩ := own_dkK a1.rel.sub hv hh
        have g2 := dk.keys
        have g3 := dk.vals
        refine ⟨a, kvs, ds, Z1, res, a1.rel.sub, rfl, g1, g2, g3, hF, fun H' Z' p ys h1 h2 h3 h4 hp hz hl hd => ?_⟩
        have nm : ¬ Mine H1 sg en1 p := fun m => by
          obtain ⟨u, hu, _⟩ := mine_there a1.rel m
          rw [hp] at hu; cases hu
        exact q1 _ _ (aft_ext a1.rel h1 h2 h3 h4) (.ref p) ⟨p, rfl, hz, .lst hl hd, fun m => nm (mine_mono a1.rel (fun a _ u h => h1 a u h) m), free_back a1 hp⟩
      · dsimp only at q1
        rw [if_neg hh] at q1; exact q1.elim
    | _ => exact q1.elim⟩
def srtF (ds : List PyData) : Option (List PyData) := if sortOk ds = true then some (sortD ds) else none
open LiI in
theorem pe_its {te : TE} (hr : Room k X.A) (hc : X.calm = true) (he : PE X e te) (hg : Gl X "sorted") (hm : X.mg "sorted" = none) (hbase : attributeBase e "items" X.env (eval e X.env) = eval e X.env := by rfl) (hline : (apos.endLine == cpos.line) = true := by rfl)
    (hs : starEach [.Call (.Attribute e "items" apos) [] [] cpos] X.env = (false, eval (.Call (.Attribute e "items" apos) [] [] cpos) X.env) :: starEach [] X.env := by rfl)
    (hpl : (backTo pos (starEach [] X.env)).any (·.1) = false := by rfl) :
    PE X (.Call (.Name "sorted" p0) [.Call (.Attribute e "items" apos) [] [] cpos] [] pos) fun sg H Q => te sg H fun x H1 => rItX X.G srtF x H1 Q := by
  refine ⟨fun pins s σ H Q I hq => ?_⟩
  refine wpAny_Call_Name_kw (ld_blt I hg hm boot_sorted ?_)
  refine PyProof.Rows.callWith_builtin1 ?_ hs hpl
  rw [hs]
  show wpAny _ _ (spliced ((false, eval (.Call (.Attribute e "items" apos) [] [] cpos) X.env) :: backTo pos (starEach [] X.env))) _ _ s
  refine Calls.spliced_cons ?_
  refine wpAny_Call_method (T := "dict") (id := "dict.items") hbase rfl hline F.plainAttrs_dict F.slot_dict_items F.type_dict_items (thn (he.run pins s σ H _ I hq) fun u s1 ⟨x, H1, I1, rx, d, kvs, ds, Z, res, hzh, ex, hd, hk1, hv1, hF, q⟩ => ?_)
  subst ex
  obtain rfl : u = Value.ref d := rx
  obtain ⟨hz, hs0, vs, kv, hdo⟩ := dk_rd I1.hok hd
  obtain ⟨ep, hat⟩ := hdo.dictAt
  have lk : kvs.length = vs.length := Paired.length kv
  have I2 : Inv X pins σ H1 { s1 with heap := s1.heap.push { cls := .type "dict_items", data := .fields #[.ref d] } } := I1.kept (t' := s1.toks) fun b ob q => Heap.get?_push_of_some _ q
  refine ⟨hdo.typeIs, hdo.mapOf.noDict, ?_⟩
  show wpAny _ _ (callWith cpos (.builtin "dict.items") [.ref d] [] []) _ X.xe s1
  refine method_meetsIn F.slot_dict_items F.entry_dict_items rfl (PySem.evalArgs_none ⟨rfl, hdo.typeIs, F.args_dict_items_1 _, _, meets_dict_items (mixKind X.prog X.w) d hs0, ⟨vs, hdo⟩, ?_⟩)
  refine Calls.spliced_nil ?_
  unfold srtF at hF
  by_cases hok : sortOk (ds.map pairP) = true
  case neg => rw [if_neg hok] at hF; cases hF
  rw [if_pos hok] at hF
  cases hF
  obtain ⟨hal, hk, hdep, hlen⟩ := sortOk_of hok
  have hmil : 2000000 ≤ sizeLine := by rw [sizeLine_eq]; decide
  have hu := hr.un
  have ldk : ds.length = kvs.length := by have := congrArg List.length hk1; simpa using this
  refine ZS.sorted_of (C := fun vs' s2 => ∃ (h' : Heap) (tk : Nat) (as : List Addr), (∀ b o, (s1.heap.push { cls := .type "dict_items", data := .fields #[.ref d] }).get? b = some o → h'.get? b = some o) ∧ as.length = vs.length ∧ PySem.W.KdxG (mixKind X.prog X.w) vs (s1.heap.push { cls := .type "dict_items", data := .fields #[.ref d] }).objs.size h' as ∧ vs' = as.map Value.ref ∧ s2 = { s1 with heap := h', toks := tk })
    (PySem.W.kdx_collect (knd := mixKind X.prog X.w) (kvs := vs) (ep := ep) (I1.ok.hd hc) ⟨_, Heap.get?_push_size _ rfl, rfl, rfl⟩ (hat.push _) (by omega) fun h' tk as hk hl hG => ⟨h', tk, as, hk, hl, hG, rfl, rfl⟩) (fun vs' s2 ⟨h', tk, as, _, hl, _, e, _⟩ => by rw [e, List.length_map]; omega) fun vs' s2 ⟨h', tk, as, kp, hl, hG, e1, e2⟩ => ?_
  subst e1 e2
  obtain ⟨J, kn, new, nd, obj⟩ := items_known (tk := tk) I2 kv _ (Nat.le_refl _) kp hl hG
  have atP := putG_at (f := objA h') as kvs H1 (by omega) nd
  have off : ∀ b, b ∉ as → putG (objA h') H1 as kvs b = H1 b := fun b h1 => putG_off as kvs _ h1
  have kpH : ∀ b u, H1 b = some u → (putG (objA h') H1 as kvs) b = some u := fun b u e => by
    rw [off b (fun z => by rw [new b z] at e; cases e)]; exact e
  have zt : ∀ t, t ∈ as → Z t = none := fun t ht => by
    cases e : Z t with
    | none => rfl
    | some u => have := hzh t u e; rw [new t ht] at this; cases this
  have dp := dpa_putT (K := X.G) (Z := Z) as kvs ds (by omega) nd zt hk1 hv1 (putG (objA h') Z as kvs) (fun b o hb => by
    rw [putG_off as kvs _ (fun z => by rw [zt b z] at hb; cases hb)]; exact hb) (knT_of (putG_at as kvs Z (by omega) nd) obj)
  have zsub : ∀ b u, putG (objA h') Z as kvs b = some u → putG (objA h') H1 as kvs b = some u := fun b u hb => by
    by_cases c : b ∈ as
    · obtain ⟨j, pk, f1, f2, f3⟩ := paired_ix atP c
      obtain ⟨pk', f4, f5⟩ := LiI.paired_get (putG_at (f := objA h') as kvs Z (by omega) nd) f1
      rw [f2] at f4; cases f4
      rw [f5] at hb; cases hb
      exact f3
    · rw [putG_off as kvs _ c] at hb; rw [off b c]; exact hzh b u hb
  obtain ⟨rs, rd⟩ := L2.Dp.readsAll J (ds.map pairP) (as.map V.ref) (as.map Value.ref) (DpAll.kit (nds_all fun d hd => nd_alike (hal d hd d hd)) (dpAll_mono zsub dp)) (LiI.vals_refs as)
  have er : PySem.W.EachIs (fun v d => ∃ as, Reads h' v d as) (as.map Value.ref) (ds.map pairP) := by
    have e := PySem.W.readsAll_each (fun d => d) (h := h') (vs := as.map Value.ref) (bs := ds.map pairP) (as := rs) (by rw [List.map_id']; exact rd)
    exact e
  refine ZS.sort_new (R := ValDp X.G (putG (objA h') Z as kvs)) (each_of (LiI.vals_refs as) dp) er hal hk (by omega) (fun d hd' => ?_) fun out hol eo => ?_
  · have h1 := hdep d hd'
    show X.A.units + 1 + 1 + d.depth < cLine
    omega
  · obtain ⟨ys, y1, y2⟩ := of_each eo
    obtain ⟨ep2, he2⟩ := sortedHeap_at (h := h'.push (seqObj "list" (as.map Value.ref).toArray 0)) (a := h'.objs.size) (vs := as.map Value.ref) (n := 0) (out := out.toArray) (Heap.get?_push_size _ rfl)
    have hyl : ys.length ≤ sizeLine := by rw [dpa_length y2]; unfold sortD at *; rw [List.length_mergeSort]; omega
    have pn : putG (objA h') H1 as kvs h'.objs.size = none := J.hok.fresh (Nat.le_refl _)
    have pna : h'.objs.size ∉ as := fun z => by
      obtain ⟨j, pk, _, _, f3⟩ := paired_ix atP z
      rw [pn] at f3; cases f3
    have pn1 : H1 h'.objs.size = none := by rw [← off _ pna]; exact pn
    refine ⟨.ref h'.objs.size, upd (putG (objA h') H1 as kvs) h'.objs.size (.lst ys), J.laid (t' := tk) (fun b o e => ?_) (Nat.le_refl _) ⟨hyl, out, ep2, y1, he2⟩, rfl, q _ (putG (objA h') Z as kvs) _ ys (fun b u hb => ?_) (fun b u hb => ?_) (fun b u hb => ?_) (fun b u hb => ?_) pn1 ?_ upd_same y2⟩
    · have hb : b < h'.objs.size := Heap.lt_size e
      rw [sortedHeap_old (Nat.ne_of_lt hb) (by rw [size_push']; exact Nat.lt_succ_of_lt hb)]
      exact Heap.get?_push_of_some _ e
    · rw [upd_ne (fun z => by rw [z, pn1] at hb; cases hb)]; exact kpH b u hb
    · rw [putG_off as kvs _ (fun z => by rw [zt b z] at hb; cases hb)]; exact hb
    · have := zsub b u hb
      rw [upd_ne (fun z => by rw [z, pn] at this; cases this)]; exact this
    · by_cases c : b ∈ as
      · exact .inr (new b c)
      · rw [putG_off as kvs _ c] at hb; exact .inl hb
    · rw [putG_off as kvs _ pna]
      cases e : Z h'.objs.size with
      | none => rfl
      | some u => have := hzh _ u e; rw [pn1] at this; cases this
/-- sorted(e.items()) -/
theorem ge_sitems {w : M PyData} (hr : Room k X.A) (hc : X.calm = true) (ha : GL T E X e w) (hg : Gl X "sorted") (hm : X.mg "sorted" = none) (hbase : attributeBase e "items" X.env (eval e X.env) = eval e X.env := by rfl) (hline : (apos.endLine == cpos.line) = true := by rfl)
    (hs : starEach [.Call (.Attribute e "items" apos) [] [] cpos] X.env = (false, eval (.Call (.Attribute e "items" apos) [] [] cpos) X.env) :: starEach [] X.env := by rfl)
    (hpl : (backTo pos (starEach [] X.env)).any (·.1) = false := by rfl) :
    GE T E X (.Call (.Name "sorted" p0) [.Call (.Attribute e "items" apos) [] [] cpos] [] pos) (mItX srtF w) := ge_itx ha fun ta ht => pe_its hr hc ht hg hm hbase hline hs hpl
end
end ZD


namespace ZD
open PySem PySem.Spec PyProof.Rows L2 GxR ZG
section
variable {T : TL} {E : Wish} {X : Cx} {a b c o e f tg : Expr} {pos apos cpos p0 : Pos} {k : Kx} {sg : L2.St} {H Z : Hp} {en : En} {m : M Vl}
end
end ZD


namespace ZD
open PySem PySem.Spec PyProof.Rows L2 GxR ZG
section
variable {T : TL} {E : Wish} {X : Cx} {a b c o e f tg : Expr} {pos apos cpos p0 : Pos} {k : Nat} {sg : L2.St} {H Z : Hp} {en : En} {m : M Vl} {p q : M Od} {w : M PyData}
def op1L (f : PyData → Out) (m : M PyData) : M Vl := bnd m fun d => out (f d)
theorem ge_op1L {f : PyData → Out} {r : V → Hp → VK → Prop} (ha : GL T E X a w) (hB : ∀ ta, PE X a ta → PE X e fun sg H Q => ta sg H fun x H1 => r x H1 Q) (hf : Says1 X.G f r) : GE T E X e (op1L f w) :=
  pe_imp (hB _ ha) fun sg H Q ⟨en, Z, r0, q⟩ => ⟨en, Z, r0, post_mono (post_bnd r0 q) fun d en1 H1 Z1 _ ⟨a1, q1⟩ v hv => hf H1 Z1 v d Q a1.rel.sub hv (out_ok (sg0 := sg) a1.rel a1 q1)⟩
theorem ge_ct1L {x : Str} {px : Pos} {id : String} {f : PyData → Out} {r : List V → Hp → VK → Prop} (hc : CallR X (.type id) r) (hv : bootBuiltins x = some (.type id)) (hf : Says1 X.G f fun v H Q => r [v] H Q) (hg : Gl X x) (hm : X.mg x = none) (ha : GL T E X a w)
    (hn : x ≠ "__name__" := by decide) (hdb : (x == ("__debug__" : Str)) = false := by decide) (he : starEach [a] X.env = (false, eval a X.env) :: starEach [] X.env := by rfl) (hpl : (backTo pos (starEach [] X.env)).any (·.1) = false := by rfl) : GE T E X (.Call (.Name x px) [a] [] pos) (op1L f w) :=
  ge_op1L ha (fun ta h => pe_callTy hc hg hm hv (pa_cons h pa_nil he) hn hdb he hpl) hf
theorem boot_dict : bootBuiltins "dict" = some (.type "dict") := by decide +kernel
def pairsOf : List PyData → Option (List (PyData × PyData))
  | [] => some []
  | .tuple [k, v] :: ds => (match keyOfD k with
    | some _ => (pairsOf ds).map ((k, v) :: ·)
    | none => none)
  | _ => none
def oDictP : PyData → Out
  | .list ds => (match pairsOf ds with
    | some kvs => .nd (mergeD [] kvs)
    | none => .bad)
  | .tuple ds => (match pairsOf ds with
    | some kvs => .nd (mergeD [] kvs)
    | none => .bad)
  | _ => .bad
/-- dict(a tuple of pairs) -/
def rDictT (K : PySem.W.Frag) : List V → Hp → VK → Prop := fun xs H Q => ∃ (a : Addr) (ps : List Addr) (kvs : List (Key × V)), xs = [.ref a] ∧ TupX K H a (ps.map V.ref) ∧ Paired (fun p kv => SqT K H p [kV kv.1, kv.2]) ps kvs ∧
    ∀ p, H p = none → Q (.ref p) (upd H p (.dK (mergeK [] kvs)))
theorem pairs_val {X : Cx} {pins : List (Addr × Obj)} {sg : L2.St} {H : Hp} {s : Shared} (I : Inv X pins sg H s) : ∀ {ps : List Addr} {kvs : List (Key × V)}, Paired (fun p kv => SqT X.K H p [kV kv.1, kv.2]) ps kvs →
    ∃ (prs : List (Key × Value)) (vv : List (Value × Value)), KV kvs prs ∧ prs.length = ps.length ∧ vv.length = ps.length ∧ ∀ (j : Nat) (b : Addr), ps[j]? = some b → ∃ (kk : Key) (u y : Value), prs[j]? = some (kk, y) ∧ vv[j]? = some (u, y) ∧ IsTup s.heap b #[u, y] ∧ keyIs kk u = true
  | _, _, .nil => ⟨[], [], .nil, rfl, rfl, fun j b e => by simp at e⟩
  | _, _, .cons (a := p) (b := kv) h t => by
    obtain ⟨prs, vv, r, l1, l2, g⟩ := pairs_val I t
    obtain ⟨its, rv, ht, _⟩ := I.tuple h
    obtain ⟨u, y, ei, ru, ry⟩ := vals2 rv
    subst ei
    refine ⟨(kv.1, y) :: prs, (u, y) :: vv, .cons ⟨rfl, ry⟩ r, by simp [l1], by simp [l2], fun j b e => ?_⟩
    cases j with
    | zero =>
      cases Option.some.inj e
      exact ⟨kv.1, u, y, rfl, rfl, ht, kV_is (P := X.prog) (w := X.w) ru⟩
    | succ j =>
      obtain ⟨kk, u', y', g1, g2, g3⟩ := g j b (by simpa using e)
      exact ⟨kk, u', y', by simpa using g1, by simpa using g2, g3⟩
theorem call_dictT (hcalm : X.calm = true) : CallR X (.type "dict") (rDictT X.K) := by
  intro pins s sg H xs us Q I r hh
  obtain ⟨a, ps, kvs, rfl, ha, hp, q⟩ := hh
  obtain ⟨u, rfl, ru⟩ := vals1 r
  cases ru
  obtain ⟨o, its, n, ho, hc, hd, hdat, rv⟩ := ha.at I
  obtain ⟨_, _, _, hz⟩ := I.tuple ha.sqt
  have ei := refs_at rv
  rw [List.length_map] at hz
  obtain ⟨prs, vv, rel, l1, l2, g⟩ := pairs_val I hp
  have hm : (s.heap.objs.size == sysModules) = false := beq_eq_false_iff_ne.mpr (Nat.ne_of_gt I.big)
  have hsz : its.size = ps.length := by rw [← Array.length_toList, ei, List.length_map]
  have hfit : (mergeK [] kvs).length ≤ sizeLine := by
    have h1 := length_mergeK kvs []
    have h2 : kvs.length = prs.length := Paired.length rel
    rw [List.length_nil] at h1
    omega
  have atJ : ∀ (j : Nat) (k v : Value), vv[j]? = some (k, v) → ∃ b kk, ps[j]? = some b ∧ its[j]? = some (.ref b) ∧ prs[j]? = some (kk, v) ∧ IsTup s.heap b #[k, v] ∧ keyIs kk k = true := fun j k v e => by
    have hj : j < ps.length := by have := (List.getElem?_eq_some_iff.mp e).1; omega
    obtain ⟨kk, u, y, g1, g2, g3, g4⟩ := g j _ (List.getElem?_eq_getElem hj)
    rw [g2] at e
    cases e
    refine ⟨_, kk, List.getElem?_eq_getElem hj, ?_, g1, g3, g4⟩
    rw [← Array.getElem?_toList, ei, List.getElem?_map, List.getElem?_eq_getElem hj]; rfl
  refine PySem.call_dict_pairs (knd := mixKind X.prog X.w) (kvs := prs) (PairArg.tuple a its (fun j => ps.getD j 0) vv) (I.ok.hd hcalm) ⟨⟨o, n, ho, hc, hd, hdat⟩, by omega, fun j k v e => ?_⟩ ⟨by omega, fun j k v e => ?_⟩ (by omega) fun h' tk hd' k => ?_
  · obtain ⟨b, kk, g1, g2, _, g3, _⟩ := atJ j k v e
    have eb : ps.getD j 0 = b := by rw [List.getD_eq_getElem?_getD, g1]; rfl
    simp only [eb]
    exact ⟨g2, .inl g3⟩
  · obtain ⟨b, kk, _, _, g1, _, g4⟩ := atJ j k v e
    exact ⟨kk, g1, g4⟩
  · exact ⟨.ref s.heap.objs.size, upd H s.heap.objs.size (.dK (mergeK [] kvs)), I.laid (t' := tk) (fun b o e => k b o (fun z => nomatch z) e) (Nat.le_refl _) (show ObjOk X.prog X.w _ _ _ (.dK (mergeK [] kvs)) from ⟨hfit, hm, merged [] prs, KV.merge rel .nil, hd'⟩), rfl, q _ (I.hok.fresh (Nat.le_refl _))⟩
theorem dp_key_of {K : Fg} {Z : Hp} {v : V} {d : PyData} {kk : Key} (h : Dp K Z v d) (hk : keyOfD d = some kk) : v = kV kk := by
  have := keyOfD_eq hk
  subst this
  cases kk with
  | inl i => cases h; rfl
  | inr x => cases h; rfl
theorem pairs_at {K : Fg} {Z : Hp} : ∀ {vs : List V} {ds : List PyData} {kds : List (PyData × PyData)}, DpAll K Z vs ds → pairsOf ds = some kds → ∃ (ps : List Addr) (kvs : List (Key × V)), vs = ps.map V.ref ∧ Paired (fun p kv => SqT K Z p [kV kv.1, kv.2]) ps kvs ∧ DK K Z kvs kds
  | _, [], kds, h, e => by
    cases h; cases e
    exact ⟨[], [], rfl, .nil, .nil⟩
  | _, d :: ds, kds, h, e => by
    cases h with
    | cons h1 h2 =>
      cases d with
      | tuple xs =>
        match xs with
        | [] => cases e
        | [_] => cases e
        | _ :: _ :: _ :: _ => cases e
        | [kd, vd] =>
          simp only [pairsOf] at e
          cases hk : keyOfD kd with
          | none => rw [hk] at e; cases e
          | some kk =>
            rw [hk] at e
            obtain ⟨kds', e1, rfl⟩ := Option.map_eq_some_iff.mp e
            obtain ⟨ps, kvs, rfl, h3, h4⟩ := pairs_at h2 e1
            cases h1 with
            | tup s1 s2 =>
              cases s2 with
              | cons q1 s3 =>
                cases s3 with
                | cons q2 s4 =>
                  cases s4
                  have ek := dp_key_of q1 hk
                  have ed := keyOfD_eq hk
                  subst ek ed
                  exact ⟨_ :: ps, (kk, _) :: kvs, rfl, .cons s1.sqt h3, .cons q2 h4⟩
      | _ => cases e
theorem paired_mono {α β : Type} {F F' : α → β → Prop} (h : ∀ a b, F a b → F' a b) : ∀ {xs : List α} {ys : List β}, Paired F xs ys → Paired F' xs ys
  | _, _, .nil => .nil
  | _, _, .cons q t => .cons (h _ _ q) (paired_mono h t)
theorem dk_merge {K : Fg} {Z : Hp} : ∀ {kvs : List (Key × V)} {ds : List (PyData × PyData)} {kv0 : List (Key × V)} {ds0 : List (PyData × PyData)}, DK K Z kvs ds → DK K Z kv0 ds0 → DK K Z (mergeK kv0 kvs) (mergeD ds0 ds)
  | _, _, _, _, .nil, h0 => h0
  | _, _, _, _, @DK.cons _ _ k v d kvs ds h t, h0 => (dk_merge (kvs := kvs) (ds := ds) t (h0.put k h) : DK K Z (mergeK (putK _ k v) kvs) (mergeD (putD _ (keyD k) d) ds))
theorem ge_dictP {px : Pos} (hc : X.calm = true) (ha : GL T E X a w) (hg : Gl X "dict") (hm : X.mg "dict" = none) (he : starEach [a] X.env = (false, eval a X.env) :: starEach [] X.env := by rfl) (hpl : (backTo pos (starEach [] X.env)).any (·.1) = false := by rfl) : GE T E X (.Call (.Name "dict" px) [a] [] pos) (op1L oDictP w) :=
  ge_ct1L (.or (call_dictP hc) (call_dictT hc)) boot_dict (fun H Z v d Q hz hv ho => by
    cases d with
    | list ds =>
      cases hp : pairsOf ds with
      | none => simp only [oDictP, hp] at ho; exact ho.elim
      | some kds =>
        simp only [oDictP, hp] at ho
        have fin : ∀ (a : Addr) (vs : List V), SqL X.G H a vs → DpAll X.G Z vs ds → ∃ (a' : Addr) (ps : List Addr) (kvs : List (Key × V)), [V.ref a] = [V.ref a'] ∧ SqL X.G H a' (ps.map V.ref) ∧ Paired (fun p kv => SqT X.G H p [kV kv.1, kv.2]) ps kvs ∧ ∀ p, H p = none → Q (.ref p) (upd H p (.dK (mergeK [] kvs))) := fun a vs hs hd => by
          obtain ⟨ps, kvs, rfl, h3, h4⟩ := pairs_at hd hp
          have dk := dk_merge h4 (.nil (K := X.G) (Z := Z))
          exact ⟨a, ps, kvs, rfl, hs, paired_mono (fun t q h => SqT.mono hz h) h3, fun p hpn => ho p _ hpn dk.keys dk.vals⟩
        rcases hv with hv | ⟨a, rfl, ow⟩
        · cases hv with
          | lst h1 h2 => exact .inl (fin _ _ (Same.seq hz h1) h2)
        · cases ow with
          | lst h1 h2 => exact .inl (fin _ _ (.inl (.inl h1)) h2)
    | tuple ds =>
      cases hp : pairsOf ds with
      | none => simp only [oDictP, hp] at ho; exact ho.elim
      | some kds =>
        simp only [oDictP, hp] at ho
        rcases hv with hv | ⟨a, rfl, ow⟩
        · cases hv with
          | tup h1 h2 =>
            obtain ⟨ps, kvs, rfl, h3, h4⟩ := pairs_at h2 hp
            have dk := dk_merge h4 (.nil (K := X.G) (Z := Z))
            exact .inr ⟨_, ps, kvs, rfl, h1.mono hz, paired_mono (fun t q h => SqT.mono hz h) h3, fun p hpn => ho p _ hpn dk.keys dk.vals⟩
        · cases ow
    | _ => exact ho.elim) hg hm ha (by decide) (by decide) he hpl
end
end ZD


namespace ZM
open PySem PySem.SeqAt PyProof.Rows PySem.W
section
variable {prog : Program} {w : World} {A : Around} {E : Value → Shared → Prop} {s : Shared}
end
end ZM
namespace ZD
open PySem PySem.Spec PyProof.Rows L2 GxR ZG
section
variable {T : TL} {E : Wish} {X : Cx} {a : Expr} {pos : Pos} {k : Nat} {p : M Od}
end
end ZD


namespace HT
open PySem PySem.Spec PyProof.Rows
section
variable {prog : Program} {w : World} {A : Around} {E : Value → Shared → Prop} {s : Shared}
end
end HT
namespace ZD
open PySem PySem.Spec PyProof.Rows L2
section
variable {T : TL} {E : Wish} {X : Cx}
end
end ZD


namespace ZD
open PySem PySem.Spec PyProof.Rows L2 GxR ZG
section
variable {X : Cx} {o e : Expr} {es : List Expr} {apos cpos : Pos} {name : Str} {id : String} {r : V → List V → Hp → VK → Prop} {to : TE} {t : TA}
end
section
variable {T : TL} {E : Wish} {X : Cx} {o e : Expr} {apos cpos : Pos} {k : Nat} {p q : M Od}
end
end ZD


namespace ZD
open PySem PySem.Spec PyProof.Rows L2 GxR ZG
def delD (kvs : List (PyData × PyData)) (k : PyData) : List (PyData × PyData) := kvs.filter fun kv => !sameK kv.1 k
section
variable {K : Fg} {Z : Hp}
theorem DK.drop (k : Key) : ∀ {kvs : List (Key × V)} {ds : List (PyData × PyData)}, DK K Z kvs ds → DK K Z (dropK kvs k) (delD ds (keyD k))
  | _, _, .nil => .nil
  | _, _, @DK.cons _ _ k' v' d' _ _ h t => by
    have ih := t.drop k
    unfold dropK delD at ih ⊢
    have e : sameK (keyD k') (keyD k) = decide (k' = k) := sameK_key k' k
    by_cases c : k' = k
    · rw [List.filter_cons_of_neg (by simp [c]), List.filter_cons_of_neg (by show ¬ (!sameK (keyD k') (keyD k)) = true; rw [e, c]; simp)]; exact ih
    · rw [List.filter_cons_of_pos (by simp [c]), List.filter_cons_of_pos (by simp [e, c])]; exact .cons h ih
end
section
variable {T : TL} {E : Wish} {X : Cx} {a b c o e f : Expr} {pos apos cpos : Pos} {k i : Nat} {p q : M Od} {w : M PyData} {x : Str} {px : Pos}
end
end ZD


namespace ZG
open PySem PySem.Spec PyProof.Rows L2 GxR ZD

section
variable {X : Cx} {elt tg iter : Expr} {ifs : List Expr} {scope : Scope} {own : List (Str × Nat)}
variable {wi : TI} {g : Addr → Addr → TG} {tt : Addr → Addr → TT} {te : Addr → Addr → TE} {k : Nat} {c P : Addr} {p pos gpos : Pos}
end
end ZG


namespace ZD
open PySem PySem.Spec PyProof.Rows L2 GxR ZG

section
variable {T : TL} {E : Wish} {X : Cx} {elt tg iter : Expr} {ifs : List Expr} {scope : Scope} {own : List (Str × Nat)} {m : M (List PyData)} {f : TgF} {t : M Bool} {e : M PyData} {L : List Nat} {c P : Addr} {gpos : Pos}
variable {k : Nat} {p pos : Pos}
end
end ZD


namespace ZD
open PySem PySem.Spec PyProof.Rows L2 GxR ZG PySem.W
section
variable {prog : Program} {w : World} {d : Addr} {es : Array DictEntry} {ep : Nat}
end
section
variable {X : Cx} {pins : List (Addr × Obj)} {σ : L2.St} {H : Hp} {s : Shared}
end
section
variable {T : TL} {E : Wish} {X : Cx} {a b : Expr} {pos px : Pos} {k : Nat} {w : M PyData}
end
end ZD


namespace ZD
open PySem PySem.Spec PyProof.Rows L2 GxR ZG
section
variable {k : Kx} {E : Wish} {sg : L2.St} {H Z : Hp} {en : En} {x y : Str}
end
section
variable {T : TL} {E : Wish} {X : Cx} {a b : Expr} {pos px py pt pt2 : Pos} {kt k2 : Nat} {i j : Nat} {x y : Str} {ms : M (List Vl)}
end
end ZD


namespace ZD
open PySem PySem.Spec PyProof.Rows L2 GxR ZG
section
variable {prog : Program} {w : World} {A : Around} {E : Value → Shared → Prop} {s : Shared} {env : Env}
end
section
variable {X : Cx} {ek ev : Expr} {pos : Pos} {tk tv : TE}
end
section
variable {T : TL} {E : Wish} {X : Cx} {ek ev : Expr} {pos : Pos} {mk mv : M PyData}
end
end ZD


namespace ZD
open PySem PySem.Spec PyProof.Rows L2 GxR ZG
section
variable {k : Kx} {E : Wish} {sg sg' : L2.St} {H H' H2 Z Z' Z2 : Hp} {en en' en2 : En} {i : Nat} {d : PyData}
/-- a thing that nobody has -/
structure Fr (sg : L2.St) (H Z : Hp) (en : En) (b : Addr) (o : HO) : Prop where
  at_ : H b = some o
  z : Z b = none
  nm : ¬ Mine H sg en b
theorem Fr.over {b p : Addr} {ws : List V} {o' : HO} (r : Rel k sg H Z en) (f : Fr sg H Z en b (.lst ws)) (ne : b ≠ p) (nm : ¬ Mine H sg en p) : Fr sg (upd H p o') Z en b (.lst ws) :=
  ⟨by rw [upd_ne ne]; exact f.at_, f.z, fun m => f.nm (mine_upd r nm m)⟩
end
section
variable {T : TL} {E : Wish} {X : Cx} {a b c e1 : Expr} {pos : Pos} {i : Nat} {x : Str} {px p2 : Pos} {k : Kx} {sg : L2.St} {H Z : Hp} {en : En}
end
end ZD


namespace ZD
open PySem PySem.Spec PyProof.Rows L2 GxR ZG
section
variable {k : Kx} {E : Wish} {sg : L2.St} {H H' Z Z' : Hp} {en : En} {i l : Nat}
end
section
variable {T : TL} {E : Wish} {X : Cx} {elt tg iter : Expr} {scope : Scope} {pos py : Pos} {y : Str} {i l : Nat} {own : List (Str × Nat)} {m : M (List PyData)} {L : List Nat}
end
end ZD


namespace ZD
open PySem PySem.Spec PyProof.Rows L2 GxR ZG
section
variable {T : TL} {E : Wish} {X : Cx} {a b c : Expr} {pos : Pos} {k : Nat} {i : Nat} {x : Str} {px : Pos}
end
end ZD


namespace ZZ
open PySem PySem.Spec PyProof.Rows L2
section
variable {prog : Program} {w : World} {A : Around} {E : Value → Shared → Prop} {s : Shared}
end
end ZZ


namespace ZD
open PySem PySem.Spec PyProof.Rows L2 GxR ZG
end ZD


namespace ZD
open PySem PySem.Spec PyProof.Rows L2 GxR ZG
section
variable {k : Kx}
end
section
variable {T : TL} {E : Wish} {X : Cx} {tg a b c : Expr} {p pos : Pos}
end
section
variable {T : TL} {E : Wish} {X : Cx} {e : Expr} {apos pos cp : Pos} {w : M PyData} {sep : Str} {j : Nat}
end
end ZD


namespace ZD
open PySem PySem.Spec PyProof.Rows L2 GxR ZG
section
variable {T : TL} {E : Wish} {X : Cx} {b : Expr} {pos tpos px : Pos} {i : Nat} {x : Str} {L : List Nat}
end
end ZD


namespace ZP
open PySem ZD

inductive PR (α : Type) where
  | ok (a : α) | er (c : String) | bad
def PR.bind {α β : Type} (p : PR α) (f : α → PR β) : PR β := match p with
  | .ok a => f a
  | .er c => .er c
  | .bad => .bad
def PR.noe {α : Type} (p : PR α) : PR α := match p with
  | .ok a => .ok a
  | _ => .bad
/-- a set of ends that are all right: for all draws -/
abbrev Dm (α : Type) := (α → Prop) → (String → Prop) → Prop
def PQ {α : Type} (p : PR α) : Dm α := fun Q E => match p with
  | .ok a => Q a
  | .er c => E c
  | .bad => False
def bD {α β : Type} (d : Dm α) (f : α → Dm β) : Dm β := fun Q E => d (fun a => f a Q E) E
def nD {α : Type} (d : Dm α) : Dm α := fun Q _ => d Q fun _ => False
def WQ {α : Type} (m : M α) (en : En) (Q : α → En → Prop) (E : String → En → Prop) : Prop := match m en with
  | .ok a e => Q a e
  | .err c e => E c e
  | .bad => False

def LD (d : PyData) : Prop := (∃ ds, d = .list ds) ∨ ∃ ds, d = .dict ds
inductive PV where
  | any | pl | val (d : PyData) | shd (d : PyData) | ownl (d : PyData) | ownd (d : PyData) | iov (I : PyData → Prop) | owv (I : PyData → Prop) | io (d : PyData) | nst (d : PyData) | hid
def SR : PV → Sl → Prop
  | .any, s => ∀ d, s ≠ .io d
  | .pl, s => s = .no ∨ ∃ d, s = .sh d
  | .val d, s => s = .sh d ∨ LD d ∧ s = .ow d
  | .shd d, s => s = .sh d
  | .ownl d, s => s = .ow d ∧ ∃ ds, d = .list ds
  | .ownd d, s => s = .ow d ∧ ∃ ds, d = .dict ds
  | .iov I, s => ∃ d, I d ∧ s = .io d
  | .owv I, s => ∃ d, I d ∧ s = .ow d
  | .io d, s => s = .io d
  | .nst d, s => s = .fz d ∧ ∃ ds, d = .list ds
  | .hid, s => s = .no
def ER (G : List PV) (en : En) : Prop := G.length = en.length ∧ ∀ (i : Nat) (pv : PV), G[i]? = some pv → ∃ s, en[i]? = some s ∧ SR pv s
def FR (L : List Nat) (en en' : En) : Prop := ∀ j, j ∉ L → ∀ b, look en (.s j) = some b → look en' (.s j) = some b
def VW (x : Vl) (b : PyData) : Prop := x = .sh b ∨ LD b ∧ x = .ow b
def VS (x : Vl) (b : PyData) : Prop := x = .sh b
def VL (x : Vl) (b : PyData) : Prop := x = .ow b ∧ ∃ ds, b = .list ds
def VK (x : Vl) (b : PyData) : Prop := x = .ow b ∧ ∃ ds, b = .dict ds
section
variable {α β γ X Y : Type} {G G' : List PV} {L L' L2 N N2 : List Nat} {en en1 en' : En} {i : Nat}
theorem FR.refl : FR L en en := fun _ _ _ h => h
theorem fr_eq (h : ∀ j, j ∉ L → en'[j]? = en[j]?) : FR L en en' := fun j hj b hb => by simp only [look] at hb ⊢; rw [h j hj]; exact hb
theorem FR.trans {a b c : En} (h : FR L a b) (k : FR L b c) : FR L a c := fun j hj b hb => k j hj b (h j hj b hb)
theorem FR.mono {a b : En} (h : FR L2 a b) (s : ∀ j ∈ L2, j ∈ L) : FR L a b := fun j hj => h j fun q => hj (s j q)
theorem pq_bind (p : PR α) (f : α → PR β) : PQ (p.bind f) = bD (PQ p) (fun a => PQ (f a)) := by
  funext Q E; cases p <;> rfl
theorem pq_noe (p : PR α) : PQ p.noe = nD (PQ p) := by funext Q E; cases p <;> rfl
theorem wq_bnd {m : M α} {f : α → M β} {Q : β → En → Prop} {E : String → En → Prop} (h : WQ m en (fun a e => WQ (f a) e Q E) E) : WQ (bnd m f) en Q E := by
  unfold WQ bnd
  unfold WQ at h
  cases hm : m en with
  | ok a e => rw [hm] at h; exact h
  | err c e => rw [hm] at h; exact h
  | bad => rw [hm] at h; exact h
theorem wq_eq {m : M α} {a : α} {Q : α → En → Prop} {E : String → En → Prop} (h : m en = .ok a en1) (q : Q a en1) : WQ m en Q E := by unfold WQ; rw [h]; exact q
theorem er_get (h : ER G en) {pv : PV} (g : G[i]? = some pv) : ∃ s, en[i]? = some s ∧ SR pv s := h.2 i pv g
theorem er_set (h : ER G en) {pv : PV} {s : Sl} (hs : SR pv s) : ER (G.set i pv) (en.set i s) := by
  refine ⟨by simp [h.1], fun j p hj => ?_⟩
  by_cases e : i = j
  · subst e
    have hl : i < G.length := by have := (List.getElem?_eq_some_iff.mp hj).1; simpa using this
    rw [List.getElem?_set_self hl] at hj
    cases hj
    exact ⟨s, by rw [List.getElem?_set_self (by rw [← h.1]; exact hl)], hs⟩
  · rw [List.getElem?_set_ne e] at hj
    obtain ⟨s', h1, h2⟩ := h.2 j p hj
    exact ⟨s', by rw [List.getElem?_set_ne e]; exact h1, h2⟩
theorem er_keep (h : ER G en) {pv : PV} {s : Sl} (g : G[i]? = some pv) (hs : SR pv s) : ER G (en.set i s) := by
  have z := er_set (i := i) h hs
  have e : G.set i pv = G := by
    apply List.ext_getElem?
    intro j
    by_cases e : i = j
    · subst e
      rw [List.getElem?_set_self (List.getElem?_eq_some_iff.mp g).1, g]
    · rw [List.getElem?_set_ne e]
  rw [e] at z
  exact z

def J (G : List PV) (L : List Nat) (V : X → β → Prop) (m : M X) (d : Dm β) : Prop :=
  ∀ (en : En) (Qd : β → Prop) (Ed : String → Prop) (Q : X → En → Prop) (E : String → En → Prop), ER G en → d Qd Ed →
    (∀ b, Qd b → ∀ x en', V x b → ER G en' → FR L en en' → Q x en') → (∀ c, Ed c → ∀ en', ER G en' → E c en') → WQ m en Q E
abbrev JE (G : List PV) (L : List Nat) (m : M β) (d : Dm β) : Prop := J G L (Eq : β → β → Prop) m d
theorem J_bnd {V1 : X → β → Prop} {V2 : Y → γ → Prop} {m : M X} {d : Dm β} {f : X → M Y} {g : β → Dm γ} (h : J G L V1 m d) (k : ∀ b x, V1 x b → J G L V2 (f x) (g b)) : J G L V2 (bnd m f) (bD d g) :=
  fun en Qd Ed Q E he hd hq hE => wq_bnd (h en _ Ed _ E he hd (fun b hb x en1 hv he1 hf => k b x hv en1 Qd Ed Q E he1 hb (fun b2 hb2 x2 en2 hv2 he2 hf2 => hq b2 hb2 x2 en2 hv2 he2 (hf.trans hf2)) hE) hE)
theorem J_ret {V : X → β → Prop} {x : X} {b : β} (h : V x b) : J G L V (ret x) (PQ (.ok b)) := fun en Qd Ed Q E he hd hq hE => hq b hd x en h he FR.refl
theorem J_bad {V : X → β → Prop} {m : M X} : J G L V m (PQ .bad) := fun _ _ _ _ _ _ h => h.elim
theorem J_weak {m : M Vl} {d : Dm PyData} {V : Vl → PyData → Prop} (h : J G L V m d) (hv : ∀ x b, V x b → VW x b) : J G L VW m d :=
  fun en Qd Ed Q E he hd hq hE => h en Qd Ed Q E he hd (fun b hb x en' v he' hf => hq b hb x en' (hv x b v) he' hf) hE
theorem vs_vw {x : Vl} {b : PyData} (h : VS x b) : VW x b := .inl h
theorem vl_vw {x : Vl} {b : PyData} (h : VL x b) : VW x b := .inr ⟨.inl h.2, h.1⟩
def outR : Out → PR PyData
  | .d x => .ok x
  | .nl ds => .ok (.list ds)
  | .nt ds => .ok (.tuple ds)
  | _ => .bad
def outS : Out → PR PyData
  | .d x => .ok x
  | .nt ds => .ok (.tuple ds)
  | _ => .bad
def outL : Out → PR PyData
  | .nl ds => .ok (.list ds)
  | _ => .bad
def outK : Out → PR PyData
  | .nd ds => .ok (.dict ds)
  | _ => .bad
/-- a way to hand out, and how it is kept -/
def OutV (V : Vl → PyData → Prop) (ox : Out → PR PyData) : Prop := ∀ (G : List PV) (L : List Nat) (o : Out), J G L V (out o) (PQ (ox o))
theorem ov_w : OutV VW outR := fun G L o => by
  cases o with
  | d x => exact J_ret (.inl rfl)
  | nl ds => exact J_ret (.inr ⟨.inl ⟨ds, rfl⟩, rfl⟩)
  | nt ds => exact J_ret (.inl rfl)
  | nd kvs => exact J_bad
  | bad => exact J_bad
theorem ov_s : OutV VS outS := fun G L o => by
  cases o with
  | d x => exact J_ret rfl
  | nt ds => exact J_ret rfl
  | _ => exact J_bad
theorem ov_l : OutV VL outL := fun G L o => by
  cases o with
  | nl ds => exact J_ret ⟨rfl, ds, rfl⟩
  | _ => exact J_bad
theorem ov_k : OutV VK outK := fun G L o => by
  cases o with
  | nd ds => exact J_ret ⟨rfl, ds, rfl⟩
  | _ => exact J_bad

def JO (G : List PV) (L N : List Nat) (m : M Od) (d : Dm PyData) : Prop :=
  ∀ (en : En) (Qd : PyData → Prop) (Ed : String → Prop) (Q : Od → En → Prop) (E : String → En → Prop), ER G en → d Qd Ed →
    (∀ b, Qd b → ∀ x en', look en' x = some b → (x = .d b ∨ ∃ i ∈ N, x = .s i) → ER G en' → FR L en en' → Q x en') → (∀ c, Ed c → ∀ en', ER G en' → E c en') → WQ m en Q E
theorem JO_d {m : M PyData} {d : Dm PyData} (h : JE G L m d) : JO G L [] (odD m) d :=
  fun en Qd Ed Q E he hd hq hE => wq_bnd (h en Qd Ed _ E he hd (fun b hb x en' hv he' hf => by subst hv; exact hq x hb (.d x) en' rfl (.inl rfl) he' hf) hE)
theorem JO_shd {d : PyData} (g : G[i]? = some (.shd d)) : JO G L [] (nm i) (PQ (.ok d)) := fun en Qd Ed Q E he hd hq hE => by
  obtain ⟨s, hs, h⟩ := er_get he g
  cases h
  exact wq_eq (a := .d d) (en1 := en) (by unfold nm; rw [hs]) (hq d hd _ en rfl (.inl rfl) he FR.refl)
theorem JO_val {d : PyData} (g : G[i]? = some (.val d)) : JO G L [i] (nm i) (PQ (.ok d)) := fun en Qd Ed Q E he hd hq hE => by
  obtain ⟨s, hs, h⟩ := er_get he g
  rcases h with rfl | ⟨⟨ds, rfl⟩ | ⟨ds, rfl⟩, rfl⟩
  · exact wq_eq (a := .d d) (en1 := en) (by unfold nm; rw [hs]) (hq d hd _ en rfl (.inl rfl) he FR.refl)
  · exact wq_eq (a := .s i) (en1 := en) (by unfold nm; rw [hs]) (hq _ hd _ en (by simp only [look, hs]) (.inr ⟨i, by simp, rfl⟩) he FR.refl)
  · exact wq_eq (a := .s i) (en1 := en) (by unfold nm; rw [hs]) (hq _ hd _ en (by simp only [look, hs]) (.inr ⟨i, by simp, rfl⟩) he FR.refl)
theorem JO_ownl {d : PyData} (g : G[i]? = some (.ownl d)) : JO G L [i] (nm i) (PQ (.ok d)) := fun en Qd Ed Q E he hd hq hE => by
  obtain ⟨s, hs, rfl, h⟩ := er_get he g
  exact wq_eq (a := .s i) (en1 := en) (by unfold nm; rw [hs]) (hq _ hd _ en (by simp only [look, hs]) (.inr ⟨i, by simp, rfl⟩) he FR.refl)
theorem JO_ownd {d : PyData} (g : G[i]? = some (.ownd d)) : JO G L [i] (nm i) (PQ (.ok d)) := fun en Qd Ed Q E he hd hq hE => by
  obtain ⟨s, hs, rfl, h⟩ := er_get he g
  exact wq_eq (a := .s i) (en1 := en) (by unfold nm; rw [hs]) (hq _ hd _ en (by simp only [look, hs]) (.inr ⟨i, by simp, rfl⟩) he FR.refl)
/-- a name whose thing is handed on -/
theorem J_shd {d : PyData} (g : G[i]? = some (.shd d)) : JE G L (nv i) (PQ (.ok d)) := fun en Qd Ed Q E he hd hq hE => by
  obtain ⟨s, hs, h⟩ := er_get he g
  cases h
  exact wq_eq (a := d) (en1 := en) (by unfold nv; rw [hs]) (hq d hd _ en rfl he FR.refl)
theorem J_val {d : PyData} (g : G[i]? = some (.val d)) : JE G L (nv i) (PQ (.ok d)) := fun en Qd Ed Q E he hd hq hE => by
  obtain ⟨s, hs, h⟩ := er_get he g
  rcases h with rfl | ⟨⟨ds, rfl⟩ | ⟨ds, rfl⟩, rfl⟩
  · exact wq_eq (a := d) (en1 := en) (by unfold nv; rw [hs]) (hq d hd _ en rfl he FR.refl)
  · refine wq_eq (a := .list ds) (en1 := en.set i (.sh (.list ds))) (by unfold nv; rw [hs]) (hq _ hd _ _ rfl (er_keep he g (.inl rfl)) fun j hj b hb => ?_)
    by_cases e : i = j
    · subst e
      simp only [look, hs] at hb
      simp only [look, List.getElem?_set_self (List.getElem?_eq_some_iff.mp hs).1]
      exact hb
    · simp only [look] at hb ⊢
      rw [List.getElem?_set_ne e]
      exact hb
  · refine wq_eq (a := .dict ds) (en1 := en.set i (.sh (.dict ds))) (by unfold nv; rw [hs]) (hq _ hd _ _ rfl (er_keep he g (.inl rfl)) fun j hj b hb => ?_)
    by_cases e : i = j
    · subst e
      simp only [look, hs] at hb
      simp only [look, List.getElem?_set_self (List.getElem?_eq_some_iff.mp hs).1]
      exact hb
    · simp only [look] at hb ⊢
      rw [List.getElem?_set_ne e]
      exact hb
theorem J_cst {d : PyData} : JE G L (cst d) (PQ (.ok d)) := J_ret rfl

def b1 (d : Dm PyData) (f : PyData → PR PyData) : Dm PyData := bD d fun a => PQ (f a)
def b2 (d1 d2 : Dm PyData) (f : PyData → PyData → PR PyData) : Dm PyData := bD d1 fun a => bD d2 fun b => PQ (f a b)
def o1 (p : PR PyData) (f : PyData → PR PyData) : PR PyData := p.bind f
def o2 (p q : PR PyData) (f : PyData → PyData → PR PyData) : PR PyData := p.bind fun a => q.bind fun b => f a b
theorem pq_o1 (p : PR PyData) (f : PyData → PR PyData) : PQ (o1 p f) = b1 (PQ p) f := pq_bind _ _
theorem pq_o2 (p q : PR PyData) (f : PyData → PyData → PR PyData) : PQ (o2 p q f) = b2 (PQ p) (PQ q) f := by unfold o2 b2; simp only [pq_bind]
theorem J_op1 {V : Vl → PyData → Prop} {ox : Out → PR PyData} {f : PyData → Out} {p : M Od} {d : Dm PyData} (ov : OutV V ox) (h : JO G L N p d) : J G L V (op1 f p) (b1 d fun a => ox (f a)) :=
  fun en Qd Ed Q E he hd hq hE => wq_bnd (h en _ Ed _ E he hd (fun b hb x en1 hl _ he1 hf => by
    have z := ov G L (f b) en1 Qd Ed Q E he1 hb (fun b2 hb2 x2 en2 hv2 he2 hf2 => hq b2 hb2 x2 en2 hv2 he2 (hf.trans hf2)) hE
    unfold WQ
    simp only [hl]
    exact z) hE)
theorem look_fr {x : Od} {b : PyData} (hl : look en x = some b) (hx : x = .d b ∨ ∃ i ∈ N, x = .s i) (hf : FR L2 en en') (hn : ∀ j ∈ L2, j ∉ N) : look en' x = some b := by
  rcases hx with rfl | ⟨i, hi, rfl⟩
  · rfl
  · exact hf i (fun q => hn i q hi) b hl
theorem J_op2 {V : Vl → PyData → Prop} {ox : Out → PR PyData} {f : PyData → PyData → Out} {p q : M Od} {d d2 : Dm PyData} (ov : OutV V ox) (h : JO G L N p d) (h2 : JO G L2 N2 q d2) (hn : ∀ j ∈ L2, j ∉ N) (hs : ∀ j ∈ L2, j ∈ L) : J G L V (op2 f p q) (b2 d d2 fun a b => ox (f a b)) :=
  fun en Qd Ed Q E he hd hq hE => wq_bnd (h en _ Ed _ E he hd (fun b hb x en1 hl hx he1 hf => wq_bnd (h2 en1 _ Ed _ E he1 hb (fun c hc y en2 hl2 _ he2 hf2 => by
    have z := ov G L (f b c) en2 Qd Ed Q E he2 hc (fun b2 hb2 x2 en3 hv2 he3 hf3 => hq b2 hb2 x2 en3 hv2 he3 ((hf.trans (hf2.mono hs)).trans hf3)) hE
    have l1 := look_fr hl hx hf2 hn
    unfold WQ
    simp only [l1, hl2]
    exact z) hE)) hE)
theorem J_opv2 {V V1 : Vl → PyData → Prop} {ox : Out → PR PyData} {f : PyData → PyData → Out} {m : M Vl} {q : M Od} {d d2 : Dm PyData} (ov : OutV V ox) (hv : ∀ x b, V1 x b → x.d = b) (h : J G L V1 m d) (h2 : JO G L N2 q d2) : J G L V (opv2 f m q) (b2 d d2 fun a b => ox (f a b)) :=
  fun en Qd Ed Q E he hd hq hE => wq_bnd (h en _ Ed _ E he hd (fun b hb x en1 hx he1 hf => wq_bnd (h2 en1 _ Ed _ E he1 hb (fun c hc y en2 hl2 _ he2 hf2 => by
    have z := ov G L (f b c) en2 Qd Ed Q E he2 hc (fun b2 hb2 x2 en3 hv2 he3 hf3 => hq b2 hb2 x2 en3 hv2 he3 ((hf.trans hf2).trans hf3)) hE
    unfold WQ
    simp only [hl2, hv x b hx]
    exact z) hE)) hE)
theorem vl_d (x : Vl) (b : PyData) (h : VL x b) : x.d = b := by rcases h with ⟨rfl, _⟩; rfl
theorem J_op1P {V : Vl → PyData → Prop} {ox : Out → PR PyData} {f : PyData → Out} {p : M Od} {d : PR PyData} (ov : OutV V ox) (h : JO G L N p (PQ d)) : J G L V (op1 f p) (PQ (o1 d fun a => ox (f a))) := by rw [pq_o1]; exact J_op1 ov h
theorem J_op2P {V : Vl → PyData → Prop} {ox : Out → PR PyData} {f : PyData → PyData → Out} {p q : M Od} {d d2 : PR PyData} (ov : OutV V ox) (h : JO G L N p (PQ d)) (h2 : JO G L2 N2 q (PQ d2)) (hn : ∀ j ∈ L2, j ∉ N) (hs : ∀ j ∈ L2, j ∈ L) : J G L V (op2 f p q) (PQ (o2 d d2 fun a b => ox (f a b))) := by
  rw [pq_o2]; exact J_op2 ov h h2 hn hs
/-- a op b op c -/
def chB {α : Type} (o : Out) (k z e : α) : α := match o with
  | .d (.bool true) => k
  | .d (.bool false) => z
  | _ => e
def chainP (f g : PyData → PyData → Out) (p q w : PR PyData) : PR PyData := p.bind fun a => q.bind fun b => chB (f a b) (w.bind fun c => outS (g b c)) (.ok (.bool false)) .bad
def chainD (f g : PyData → PyData → Out) (p q w : Dm PyData) : Dm PyData := bD p fun a => bD q fun b => chB (f a b) (bD w fun c => PQ (outS (g b c))) (PQ (.ok (.bool false))) (PQ .bad)
theorem pq_chB {o : Out} {k z e : PR PyData} : PQ (chB o k z e) = chB o (PQ k) (PQ z) (PQ e) := by unfold chB; split <;> rfl
theorem pq_chain (f g : PyData → PyData → Out) (p q w : PR PyData) : PQ (chainP f g p q w) = chainD f g (PQ p) (PQ q) (PQ w) := by
  unfold chainP chainD
  simp only [pq_bind, pq_chB]
theorem J_op2c {f g : PyData → PyData → Out} {p q w : M Od} {d d2 d3 : Dm PyData} {N3 L3 : List Nat} (h : JO G L N p d) (h2 : JO G L2 N2 q d2) (h3 : JO G L3 N3 w d3) (hn : ∀ j ∈ L2, j ∉ N) (hs : ∀ j ∈ L2, j ∈ L) (hn3 : ∀ j ∈ L3, j ∉ N2) (hs3 : ∀ j ∈ L3, j ∈ L) : J G L VS (op2c f g p q w) (chainD f g d d2 d3) :=
  fun en Qd Ed Q E he hd hq hE => wq_bnd (h en _ Ed _ E he hd (fun b hb x en1 hl hx he1 hf => wq_bnd (h2 en1 _ Ed _ E he1 hb (fun c hc y en2 hl2 hy he2 hf2 => by
    have l1 := look_fr hl hx hf2 hn
    unfold WQ
    simp only [l1, hl2]
    have case : f b c = .d (.bool true) ∨ f b c = .d (.bool false) ∨ chB (f b c) (bD d3 fun k => PQ (outS (g c k))) (PQ (.ok (.bool false))) (PQ .bad) = PQ .bad := by
      cases f b c with
      | d z =>
        cases z with
        | bool v => cases v <;> simp
        | _ => simp [chB]
      | _ => simp [chB]
    rcases case with e | e | e
    · simp only [e, chB] at hc
      simp only [e]
      show WQ (bnd w _) en2 Q E
      refine wq_bnd (h3 en2 _ Ed _ E he2 hc (fun k hk z en3 hl3 _ he3 hf3 => ?_) hE)
      have l2 := look_fr hl2 hy hf3 hn3
      have zz := ov_s G L (g c k) en3 Qd Ed Q E he3 hk (fun b2 hb2 x2 en4 hv4 he4 hf4 => hq b2 hb2 x2 en4 hv4 he4 (((hf.trans (hf2.mono hs)).trans (hf3.mono hs3)).trans hf4)) hE
      unfold WQ
      simp only [l2, hl3]
      exact zz
    · simp only [e, chB] at hc
      simp only [e]
      exact hq _ hc _ en2 rfl he2 (hf.trans (hf2.mono hs))
    · simp only [e] at hc
      exact hc.elim) hE)) hE)
theorem J_op2cP {f g : PyData → PyData → Out} {p q w : M Od} {d d2 d3 : PR PyData} {N3 L3 : List Nat} (h : JO G L N p (PQ d)) (h2 : JO G L2 N2 q (PQ d2)) (h3 : JO G L3 N3 w (PQ d3)) (hn : ∀ j ∈ L2, j ∉ N) (hs : ∀ j ∈ L2, j ∈ L) (hn3 : ∀ j ∈ L3, j ∉ N2) (hs3 : ∀ j ∈ L3, j ∈ L) : J G L VS (op2c f g p q w) (PQ (chainP f g d d2 d3)) := by
  rw [pq_chain]; exact J_op2c h h2 h3 hn hs hn3 hs3

theorem J_shV {m : M PyData} {d : Dm PyData} (h : JE G L m d) : J G L VS (shV m) d :=
  fun en Qd Ed Q E he hd hq hE => wq_bnd (h en Qd Ed _ E he hd (fun b hb x en' hv he' hf => by subst hv; exact hq x hb (.sh x) en' rfl he' hf) hE)
theorem J_fz {m : M Vl} {d : Dm PyData} {V : Vl → PyData → Prop} (hv : ∀ x b, V x b → VW x b) (h : J G L V m d) : JE G L (fz m) d :=
  fun en Qd Ed Q E he hd hq hE => wq_bnd (h en Qd Ed _ E he hd (fun b hb x en' v he' hf => by
    rcases hv x b v with rfl | ⟨⟨ds, rfl⟩ | ⟨ds, rfl⟩, rfl⟩
    · exact hq b hb b en' rfl he' hf
    · exact hq _ hb _ en' rfl he' hf
    · exact hq _ hb _ en' rfl he' hf) hE)
def tstF : PyData → PR Bool
  | .bool b => .ok b
  | _ => .bad
def tstP (p : PR PyData) : PR Bool := p.bind tstF
def tstD (d : Dm PyData) : Dm Bool := bD d fun a => PQ (tstF a)
theorem pq_tst (p : PR PyData) : PQ (tstP p) = tstD (PQ p) := pq_bind _ _
theorem J_tst {m : M PyData} {d : Dm PyData} (h : JE G L m d) : JE G L (tst m) (tstD d) := J_bnd h fun b x hx => by
  subst hx
  cases x with
  | bool b => exact J_ret rfl
  | _ => exact J_bad
theorem J_tstP {m : M PyData} {d : PR PyData} (h : JE G L m (PQ d)) : JE G L (tst m) (PQ (tstP d)) := by rw [pq_tst]; exact J_tst h
def notP (p : PR Bool) : PR Bool := p.bind fun b => .ok (!b)
def notD (p : Dm Bool) : Dm Bool := bD p fun b => PQ (.ok (!b))
theorem J_not {m : M Bool} {d : Dm Bool} (h : JE G L m d) : JE G L (mnot m) (notD d) := J_bnd h fun b x hx => by subst hx; exact J_ret rfl
theorem J_notP {m : M Bool} {d : PR Bool} (h : JE G L m (PQ d)) : JE G L (mnot m) (PQ (notP d)) := by unfold notP; rw [pq_bind]; exact J_not h
def ifP {α : Type} (t : PR Bool) (p q : PR α) : PR α := t.bind fun b => if b = true then p else q
def ifD {α : Type} (t : Dm Bool) (p q : Dm α) : Dm α := bD t fun b => if b = true then p else q
theorem pq_if {α : Type} (t : PR Bool) (p q : PR α) : PQ (ifP t p q) = ifD (PQ t) (PQ p) (PQ q) := by
  unfold ifP ifD
  rw [pq_bind]
  congr; funext b
  split <;> rfl
theorem J_if {V : X → β → Prop} {t : M Bool} {m n : M X} {dt : Dm Bool} {d d2 : Dm β} (ht : JE G L t dt) (h : J G L V m d) (h2 : J G L V n d2) : J G L V (mif t m n) (ifD dt d d2) := J_bnd ht fun b x hx => by
  subst hx
  cases x with
  | true => exact h
  | false => exact h2
theorem J_ifP {V : X → β → Prop} {t : M Bool} {m n : M X} {dt : PR Bool} {d d2 : PR β} (ht : JE G L t (PQ dt)) (h : J G L V m (PQ d)) (h2 : J G L V n (PQ d2)) : J G L V (mif t m n) (PQ (ifP dt d d2)) := by
  rw [pq_if]; exact J_if ht h h2
def andP (p q : PR Bool) : PR Bool := ifP p q (.ok false)
def orP (p q : PR Bool) : PR Bool := ifP p (.ok true) q
theorem J_andP {m n : M Bool} {d d2 : PR Bool} (h : JE G L m (PQ d)) (h2 : JE G L n (PQ d2)) : JE G L (mand m n) (PQ (andP d d2)) := J_ifP h h2 (J_ret rfl)
theorem J_orP {m n : M Bool} {d d2 : PR Bool} (h : JE G L m (PQ d)) (h2 : JE G L n (PQ d2)) : JE G L (mor m n) (PQ (orP d d2)) := J_ifP h (J_ret rfl) h2
def vandP (p q : PR PyData) : PR PyData := ifP (tstP p) q (.ok (.bool false))
def vorP (p q : PR PyData) : PR PyData := ifP (tstP p) (.ok (.bool true)) q
def vnotP (p : PR PyData) : PR PyData := (notP (tstP p)).bind fun b => .ok (.bool b)
theorem vand_eq (m n : M PyData) : vand m n = mif (tst m) n (ret (.bool false)) := by
  funext en
  unfold vand mif tst bnd
  cases m en with
  | ok a e => cases a <;> rfl
  | err c e => rfl
  | bad => rfl
theorem vnot_eq (m : M PyData) : vnot m = bnd (mnot (tst m)) fun b => ret (.bool b) := by
  funext en
  unfold vnot mnot tst bnd
  cases m en with
  | ok a e => cases a <;> rfl
  | err c e => rfl
  | bad => rfl
theorem J_vandP {m n : M PyData} {d d2 : PR PyData} (h : JE G L m (PQ d)) (h2 : JE G L n (PQ d2)) : JE G L (vand m n) (PQ (vandP d d2)) := by rw [vand_eq]; exact J_ifP (J_tstP h) h2 (J_ret rfl)
theorem J_vnotP {m : M PyData} {d : PR PyData} (h : JE G L m (PQ d)) : JE G L (vnot m) (PQ (vnotP d)) := by
  rw [vnot_eq]; unfold vnotP; rw [pq_bind]
  exact J_bnd (J_notP (J_tstP h)) fun b x hx => by subst hx; exact J_ret rfl

def aconsP (p : PR PyData) (ps : PR (List PyData)) : PR (List PyData) := p.bind fun a => ps.bind fun as => .ok (a :: as)
def aconsD (p : Dm PyData) (ps : Dm (List PyData)) : Dm (List PyData) := bD p fun a => bD ps fun as => PQ (.ok (a :: as))
theorem pq_acons (p : PR PyData) (ps : PR (List PyData)) : PQ (aconsP p ps) = aconsD (PQ p) (PQ ps) := by unfold aconsP aconsD; simp only [pq_bind]
theorem J_nil : JE G L manil (PQ (.ok [])) := J_ret rfl
theorem J_cons {m : M PyData} {ms : M (List PyData)} {d : Dm PyData} {ds : Dm (List PyData)} (h : JE G L m d) (h2 : JE G L ms ds) : JE G L (macons m ms) (aconsD d ds) := J_bnd h fun b x hx => by
  subst hx
  exact J_bnd h2 fun b x hx => by subst hx; exact J_ret rfl
theorem J_consP {m : M PyData} {ms : M (List PyData)} {d : PR PyData} {ds : PR (List PyData)} (h : JE G L m (PQ d)) (h2 : JE G L ms (PQ ds)) : JE G L (macons m ms) (PQ (aconsP d ds)) := by rw [pq_acons]; exact J_cons h h2
def tupF (ds : List PyData) : PR PyData := if ds.length ≤ 1000 then .ok (.tuple ds) else .bad
def lstF (ds : List PyData) : PR PyData := if ds.length ≤ 1000 then .ok (.list ds) else .bad
theorem J_tup {ms : M (List PyData)} {ds : Dm (List PyData)} (h : JE G L ms ds) : JE G L (mtup ms) (bD ds fun ds => PQ (tupF ds)) := J_bnd h fun b x hx => by
  subst hx
  unfold tupF
  by_cases hl : x.length ≤ 1000
  · simp only [hl, if_true]; exact J_ret rfl
  · simp only [hl, if_false]; exact J_bad
theorem J_tupP {ms : M (List PyData)} {ds : PR (List PyData)} (h : JE G L ms (PQ ds)) : JE G L (mtup ms) (PQ (ds.bind tupF)) := by rw [pq_bind]; exact J_tup h
theorem J_lst {ms : M (List PyData)} {ds : Dm (List PyData)} (h : JE G L ms ds) : J G L VL (mlst ms) (bD ds fun ds => PQ (lstF ds)) := J_bnd h fun b x hx => by
  subst hx
  unfold lstF
  by_cases hl : x.length ≤ 1000
  · simp only [hl, if_true]; exact J_ret ⟨rfl, _, rfl⟩
  · simp only [hl, if_false]; exact J_bad
theorem J_lstP {ms : M (List PyData)} {ds : PR (List PyData)} (h : JE G L ms (PQ ds)) : J G L VL (mlst ms) (PQ (ds.bind lstF)) := by rw [pq_bind]; exact J_lst h
def posF : PyData → PR (Option Int)
  | .int i => .ok (some i)
  | _ => .bad
theorem J_pno : JE G L pno (PQ (.ok none)) := J_ret rfl
theorem J_pso {p : M Od} {d : Dm PyData} (h : JO G L N p d) : JE G L (pso p) (bD d fun a => PQ (posF a)) := fun en Qd Ed Q E he hd hq hE => wq_bnd (h en _ Ed _ E he hd (fun b hb x en1 hl _ he1 hf => by
    cases b with
    | int i => exact wq_eq (a := some i) (en1 := en1) (by simp only [hl]) (hq _ hb _ en1 rfl he1 hf)
    | _ => exact hb.elim) hE)
theorem J_psoP {p : M Od} {d : PR PyData} (h : JO G L N p (PQ d)) : JE G L (pso p) (PQ (d.bind posF)) := by rw [pq_bind]; exact J_pso h
def slcP (ox : Out → PR PyData) (p : PR PyData) (l u : PR (Option Int)) : PR PyData := p.bind fun a => l.bind fun lo => u.bind fun hi => ox (oSl lo hi a)
def slcD (ox : Out → PR PyData) (p : Dm PyData) (l u : Dm (Option Int)) : Dm PyData := bD p fun a => bD l fun lo => bD u fun hi => PQ (ox (oSl lo hi a))
theorem pq_slc (ox : Out → PR PyData) (p : PR PyData) (l u : PR (Option Int)) : PQ (slcP ox p l u) = slcD ox (PQ p) (PQ l) (PQ u) := by unfold slcP slcD; simp only [pq_bind]
theorem J_slc {V : Vl → PyData → Prop} {ox : Out → PR PyData} {p : M Od} {l u : M (Option Int)} {d : Dm PyData} {dl du : Dm (Option Int)} (ov : OutV V ox) (h : JO G L N p d) (hl : JE G L2 l dl) (hu : JE G L2 u du) (hn : ∀ j ∈ L2, j ∉ N) (hs : ∀ j ∈ L2, j ∈ L) : J G L V (mslice p l u) (slcD ox d dl du) :=
  fun en Qd Ed Q E he hd hq hE => wq_bnd (h en _ Ed _ E he hd (fun b hb x en1 hk hx he1 hf => wq_bnd (hl en1 _ Ed _ E he1 hb (fun lo hlo x2 en2 e2 he2 hf2 => wq_bnd (hu en2 _ Ed _ E he2 hlo (fun hi hhi x3 en3 e3 he3 hf3 => by
    subst e2 e3
    have z := ov G L (oSl x2 x3 b) en3 Qd Ed Q E he3 hhi (fun b2 hb2 x2 en3 hv2 he3 hf4 => hq b2 hb2 x2 en3 hv2 he3 (((hf.trans (hf2.mono hs)).trans (hf3.mono hs)).trans hf4)) hE
    have l1 := look_fr (look_fr hk hx hf2 hn) hx hf3 hn
    unfold WQ
    simp only [l1]
    exact z) hE)) hE)) hE)
theorem J_slcP {V : Vl → PyData → Prop} {ox : Out → PR PyData} {p : M Od} {l u : M (Option Int)} {d : PR PyData} {dl du : PR (Option Int)} (ov : OutV V ox) (h : JO G L N p (PQ d)) (hl : JE G L2 l (PQ dl)) (hu : JE G L2 u (PQ du)) (hn : ∀ j ∈ L2, j ∉ N) (hs : ∀ j ∈ L2, j ∈ L) : J G L V (mslice p l u) (PQ (slcP ox d dl du)) := by
  rw [pq_slc]; exact J_slc ov h hl hu hn hs
end
end ZP


namespace ZP
open PySem ZD
section
variable {α β γ X Y R σ : Type} {G G' G0 G1 : List PV} {L L' L2 N N2 vs : List Nat} {en en1 en' : En} {i : Nat}
def seqF : PyData → PR (List PyData)
  | .list ds => .ok ds
  | .tuple ds => .ok ds
  | .str x => .ok (signs x)
  | .dict ds => .ok (ds.map (·.1))
  | _ => .bad
def rng1F : PyData → PR (List PyData)
  | .int n => if n < 2 ^ 62 ∧ -(2 ^ 62) ≤ n then .ok (rngL 0 n.toNat) else .bad
  | _ => .bad
def enumF : PyData → PR (List PyData)
  | .list ds => .ok (enumD ds)
  | .tuple ds => .ok (enumD ds)
  | _ => .bad
theorem J_of {m : M PyData} {f : PyData → M β} {d : Dm PyData} {g : PyData → PR β} (h : JE G L m d) (k : ∀ a, JE G L (f a) (PQ (g a))) : JE G L (bnd m f) (bD d fun a => PQ (g a)) := J_bnd h fun b x hx => by subst hx; exact k x
theorem J_ofP {m : M PyData} {f : PyData → M β} {d : PR PyData} {g : PyData → PR β} (h : JE G L m (PQ d)) (k : ∀ a, JE G L (f a) (PQ (g a))) : JE G L (bnd m f) (PQ (d.bind g)) := by rw [pq_bind]; exact J_of h k
theorem k_seq (a : PyData) : JE G L ((fun d => match d with
  | .list ds => ret ds
  | .tuple ds => ret ds
  | .str x => ret (signs x)
  | .dict ds => ret (ds.map (·.1))
  | _ => ZD.fail : PyData → M (List PyData)) a) (PQ (seqF a)) := by cases a <;> first | exact J_ret rfl | exact J_bad
theorem J_seqP {m : M PyData} {d : PR PyData} (h : JE G L m (PQ d)) : JE G L (seqM m) (PQ (d.bind seqF)) := J_ofP h k_seq
theorem k_rng1 (a : PyData) : JE G L ((fun d => match d with
  | .int n => if n < 2 ^ 62 ∧ -(2 ^ 62) ≤ n then ret (rngL 0 n.toNat) else ZD.fail
  | _ => ZD.fail : PyData → M (List PyData)) a) (PQ (rng1F a)) := by
  cases a with
  | int n =>
    dsimp only [rng1F]
    split
    · exact J_ret rfl
    · exact J_bad
  | _ => exact J_bad
theorem J_rng1P {m : M PyData} {d : PR PyData} (h : JE G L m (PQ d)) : JE G L (rngM1 m) (PQ (d.bind rng1F)) := J_ofP h k_rng1
def notIo : Option PV → Bool
  | some (.io _) => false
  | some (.iov _) => false
  | some _ => true
  | none => false
def isPl : Option PV → Bool
  | some .pl => true
  | some (.shd _) => true
  | _ => false
def plAll (G : List PV) (vs : List Nat) : Bool := vs.all fun v => isPl G[v]?
def setPl (G : List PV) : List Nat → List PV
  | [] => G
  | v :: vs => (setPl G vs).set v .pl
def setSh (G : List PV) : List Nat → List PyData → List PV
  | i :: is, d :: ds => setSh (G.set i (.shd d)) is ds
  | _, _ => G
theorem er_masg (he : ER G en) (hn : notIo G[i]? = true) (x : Vl) : masg i x en = .ok .nx (en.set i (slOf x)) := by
  cases hg : G[i]? with
  | none => rw [hg] at hn; cases hn
  | some pv =>
    obtain ⟨s, hs, h⟩ := er_get he hg
    unfold masg
    rw [hs]
    cases s with
    | io d =>
      rw [hg] at hn
      cases pv with
      | any => exact absurd rfl (h d)
      | pl => rcases h with h | ⟨_, h⟩ <;> cases h
      | val d => rcases h with h | ⟨_, h⟩ <;> cases h
      | shd d => cases h
      | ownl d => cases h.1
      | ownd d => cases h.1
      | nst d => cases h.1
      | hid => cases h
      | owv I => obtain ⟨_, _, h⟩ := h; cases h
      | iov I => cases hn
      | io d => cases hn
    | _ => rfl
theorem setPl_len : ∀ vs : List Nat, (setPl G vs).length = G.length
  | [] => rfl
  | v :: vs => by unfold setPl; rw [List.length_set, setPl_len vs]
theorem setPl_get : ∀ (vs : List Nat) (j : Nat), (j ∉ vs → (setPl G vs)[j]? = G[j]?) ∧ (j ∈ vs → ∀ p, (setPl G vs)[j]? = some p → p = .pl)
  | [], j => ⟨fun _ => rfl, fun h => nomatch h⟩
  | v :: vs, j => by
    obtain ⟨h1, h2⟩ := setPl_get vs j
    unfold setPl
    by_cases e : v = j
    · refine ⟨fun h => absurd (by rw [e]; exact List.mem_cons_self) h, fun _ p hp => ?_⟩
      have hl : v < (setPl G vs).length := by
        have q := (List.getElem?_eq_some_iff.mp hp).1
        rw [List.length_set] at q
        rw [e]; exact q
      rw [← e, List.getElem?_set_self hl] at hp
      exact (Option.some.inj hp).symm
    · rw [List.getElem?_set_ne e]
      exact ⟨fun h => h1 fun q => h (List.mem_cons_of_mem _ q), fun h => h2 ((List.mem_cons.mp h).resolve_left fun q => e q.symm)⟩
theorem er_wipe (he : ER G en) (hp : plAll G vs = true) : wipeable en vs = true ∧ ER (setPl G vs) (wipeE en vs) := by
  refine ⟨List.all_eq_true.mpr fun v hv => ?_, by rw [setPl_len, wipeE_len]; exact he.1, fun j p hj => ?_⟩
  · have h := List.all_eq_true.mp hp v hv
    cases hg : G[v]? with
    | none => rw [hg] at h; cases h
    | some pv =>
      rw [hg] at h
      obtain ⟨s, hs, hr⟩ := er_get he hg
      rw [hs]
      cases pv with
      | pl => rcases hr with rfl | ⟨_, rfl⟩ <;> rfl
      | shd d => cases hr; rfl
      | _ => cases h
  · have hl : j < en.length := by
      have q := (List.getElem?_eq_some_iff.mp hj).1
      rw [setPl_len, he.1] at q
      exact q
    by_cases e : j ∈ vs
    · have h1 := (setPl_get vs j).2 e p hj
      have hl' : j < (wipeE en vs).length := by rw [wipeE_len]; exact hl
      obtain ⟨h2, _⟩ := (wipeE_get en vs j).2 e _ (List.getElem?_eq_getElem hl')
      exact ⟨.no, by rw [List.getElem?_eq_getElem hl', h2], by rw [h1]; exact .inl rfl⟩
    · rw [(setPl_get vs j).1 e] at hj
      rw [(wipeE_get en vs j).1 e]
      exact he.2 j p hj
theorem er_rest (he : ER G en) (h' : ER (setPl G vs) en') : ER G (restE en en' vs) := by
  have ll : en'.length = en.length := by rw [← h'.1, setPl_len, he.1]
  refine ⟨by rw [restE_len, ll]; exact he.1, fun j p hj => ?_⟩
  have hl : j < en.length := by rw [← he.1]; exact (List.getElem?_eq_some_iff.mp hj).1
  by_cases e : j ∈ vs
  · have hl' : j < (restE en en' vs).length := by rw [restE_len, ll]; exact hl
    obtain ⟨h2, _⟩ := (restE_get en en' vs j).2 e _ (List.getElem?_eq_getElem hl')
    obtain ⟨s, hs, hr⟩ := he.2 j p hj
    rw [hs] at h2
    exact ⟨s, by rw [List.getElem?_eq_getElem hl', h2]; rfl, hr⟩
  · rw [(restE_get en en' vs j).1 e]
    exact h'.2 j p (by rw [(setPl_get vs j).1 e]; exact hj)
def J2 (G1 G0 : List PV) (L : List Nat) (V : X → β → Prop) (m : M X) (d : Dm β) : Prop :=
  ∀ (en : En) (Qd : β → Prop) (Ed : String → Prop) (Q : X → En → Prop) (E : String → En → Prop), ER G1 en → d Qd Ed →
    (∀ b, Qd b → ∀ x en', V x b → ER G0 en' → FR L en en' → Q x en') → (∀ c, Ed c → ∀ en', E c en') → WQ m en Q E
theorem J2_bnd {G2 : List PV} {V1 : X → β → Prop} {V2 : Y → γ → Prop} {m : M X} {d : Dm β} {f : X → M Y} {g : β → Dm γ} (h : J2 G1 G0 L V1 m d) (k : ∀ b x, V1 x b → J2 G0 G2 L V2 (f x) (g b)) : J2 G1 G2 L V2 (bnd m f) (bD d g) :=
  fun en Qd Ed Q E he hd hq hE => wq_bnd (h en _ Ed _ E he hd (fun b hb x en1 hv he1 hf => k b x hv en1 Qd Ed Q E he1 hb (fun b2 hb2 x2 en2 hv2 he2 hf2 => hq b2 hb2 x2 en2 hv2 he2 (hf.trans hf2)) hE) hE)
theorem J2_ret {V : X → β → Prop} {x : X} {b : β} (h : V x b) : J2 G G L V (ret x) (PQ (.ok b)) := fun en Qd Ed Q E he hd hq hE => hq b hd x en h he FR.refl
theorem J2_bad {V : X → β → Prop} {m : M X} : J2 G1 G0 L V m (PQ .bad) := fun _ _ _ _ _ _ h => h.elim
theorem J_blk {V : X → β → Prop} {m : M X} {d : Dm β} (hp : plAll G vs = true) (h : J2 (setPl G vs) (setPl G vs) (vs ++ L) V m d) : J G L V (blk vs m) (nD d) := fun en Qd Ed Q E he hd hq hE => by
  obtain ⟨w1, w2⟩ := er_wipe he hp
  have z := h (wipeE en vs) Qd (fun _ => False) (fun x e => Q x (restE en e vs)) (fun _ _ => False) w2 hd (fun b hb x e hv he' hf => hq b hb x _ hv (er_rest he he') fun j hj b2 hb2 => ?_) fun _ h => h.elim
  · unfold WQ blk
    unfold WQ at z
    simp only [w1, if_true]
    cases hm : m (wipeE en vs) with
    | ok a e => rw [hm] at z; exact z
    | err c e => rw [hm] at z; exact z.elim
    | bad => rw [hm] at z; exact z.elim
  · have ll : e.length = en.length := by rw [← he'.1, setPl_len, he.1]
    by_cases e' : j ∈ vs
    · have e2 : (restE en e vs)[j]? = en[j]? := by
        by_cases hl : j < en.length
        · have hl' : j < (restE en e vs).length := by rw [restE_len, ll]; exact hl
          obtain ⟨h2, _⟩ := (restE_get en e vs j).2 e' _ (List.getElem?_eq_getElem hl')
          rw [List.getElem?_eq_getElem hl', h2, List.getElem?_eq_getElem hl]
          rfl
        · rw [List.getElem?_eq_none (by rw [restE_len, ll]; omega), List.getElem?_eq_none (by omega)]
      simp only [look] at hb2 ⊢
      rw [e2]; exact hb2
    · have z := hf j (by simp [e', hj]) b2 (by simp only [look] at hb2 ⊢; rw [(wipeE_get en vs j).1 e']; exact hb2)
      simp only [look] at z ⊢
      rw [(restE_get en e vs j).1 e']; exact z

def compP (f : PyData → PR (Option PyData)) : List PyData → PR (List PyData)
  | [] => .ok []
  | d :: ds => (f d).bind fun o => (compP f ds).bind fun ys => .ok (o.toList ++ ys)
def compD (f : PyData → Dm (Option PyData)) : List PyData → Dm (List PyData)
  | [] => PQ (.ok [])
  | d :: ds => bD (f d) fun o => bD (compD f ds) fun ys => PQ (.ok (o.toList ++ ys))
def allP (f : PyData → PR (Option PyData)) : List PyData → PR Bool
  | [] => .ok true
  | d :: ds => (f d).bind fun o => match o with
    | none => allP f ds
    | some (.bool true) => allP f ds
    | some (.bool false) => .ok false
    | _ => .bad
theorem pq_comp (f : PyData → PR (Option PyData)) : ∀ ds, PQ (compP f ds) = compD (fun d => PQ (f d)) ds
  | [] => rfl
  | d :: ds => by unfold compP compD; simp only [pq_bind, pq_comp f ds]
theorem J_compL {vs : List Nat} {f : TgF} {t : M Bool} {e : M PyData} {db : PyData → Dm (Option PyData)} (h : ∀ d, J2 G G L Eq (stepC vs f t e d) (db d)) : ∀ ds, J2 G G L Eq (compL vs f t e ds) (compD db ds)
  | [] => J2_ret rfl
  | d :: ds => by
    have e1 : compL vs f t e (d :: ds) = bnd (stepC vs f t e d) (fun oy => bnd (compL vs f t e ds) fun ys => ret (oy.toList ++ ys)) := funext fun en => compL_cons vs f t e d ds en
    rw [e1]
    refine J2_bnd (h d) fun b x hx => ?_
    subst hx
    refine J2_bnd (J_compL h ds) fun b y hy => ?_
    subst hy
    exact J2_ret rfl
theorem J_allL {vs : List Nat} {f : TgF} {t : M Bool} {e : M PyData} {db : PyData → PR (Option PyData)} (h : ∀ d, J2 G G L Eq (stepC vs f t e d) (PQ (db d))) : ∀ ds, J2 G G L Eq (allL vs f t e ds) (PQ (allP db ds))
  | [] => J2_ret rfl
  | d :: ds => by
    unfold allL allP
    rw [pq_bind]
    refine J2_bnd (h d) fun b x hx => ?_
    subst hx
    cases x with
    | none => exact J_allL h ds
    | some y =>
      cases y with
      | bool c =>
        cases c with
        | true => exact J_allL h ds
        | false => exact J2_ret rfl
      | _ => exact J2_bad
def mcompF (f : PyData → PR (Option PyData)) (ds : List PyData) : PR PyData := if ds.length ≤ 2000000 then (compP f ds).noe.bind fun ys => .ok (.list ys) else .bad
def mcompG (f : PyData → Dm (Option PyData)) (ds : List PyData) : Dm PyData := if ds.length ≤ 2000000 then bD (nD (compD f ds)) fun ys => PQ (.ok (.list ys)) else PQ .bad
def mcompP (it : PR (List PyData)) (f : PyData → PR (Option PyData)) : PR PyData := it.bind (mcompF f)
def mcompD (it : Dm (List PyData)) (f : PyData → Dm (Option PyData)) : Dm PyData := bD it (mcompG f)
theorem pq_mcomp (it : PR (List PyData)) (f : PyData → PR (Option PyData)) : PQ (mcompP it f) = mcompD (PQ it) fun d => PQ (f d) := by
  unfold mcompP mcompD mcompF mcompG
  rw [pq_bind]
  congr; funext ds
  split
  · rw [pq_bind, pq_noe, pq_comp]
  · rfl
theorem J_comp {it : M (List PyData)} {f : TgF} {t : M Bool} {e : M PyData} {dit : Dm (List PyData)} {db : PyData → Dm (Option PyData)} (hit : JE G L it dit) (hp : plAll G vs = true) (hb : ∀ d, J2 (setPl G vs) (setPl G vs) (vs ++ L) Eq (stepC vs f t e d) (db d)) : J G L VL (mcomp vs it f t e) (mcompD dit db) := J_bnd hit fun b x hx => by
  subst hx
  unfold mcompG
  by_cases hl : x.length ≤ 2000000
  · simp only [hl, if_true]
    refine J_bnd (J_blk hp (J_compL hb x)) fun b y hy => ?_
    subst hy
    exact J_ret ⟨rfl, _, rfl⟩
  · simp only [hl, if_false]; exact J_bad
theorem J_compP {it : M (List PyData)} {f : TgF} {t : M Bool} {e : M PyData} {dit : PR (List PyData)} {db : PyData → PR (Option PyData)} (hit : JE G L it (PQ dit)) (hp : plAll G vs = true) (hb : ∀ d, J2 (setPl G vs) (setPl G vs) (vs ++ L) Eq (stepC vs f t e d) (PQ (db d))) : J G L VL (mcomp vs it f t e) (PQ (mcompP dit db)) := by
  rw [pq_mcomp]; exact J_comp hit hp hb
def mallP (it : PR (List PyData)) (f : PyData → PR (Option PyData)) : PR PyData := it.bind fun ds => (allP f ds).noe.bind fun b => .ok (.bool b)
theorem J_allP {it : M (List PyData)} {f : TgF} {t : M Bool} {e : M PyData} {dit : PR (List PyData)} {db : PyData → PR (Option PyData)} (hit : JE G L it (PQ dit)) (hp : plAll G vs = true) (hb : ∀ d, J2 (setPl G vs) (setPl G vs) (vs ++ L) Eq (stepC vs f t e d) (PQ (db d))) : JE G L (mall vs it f t e) (PQ (mallP dit db)) := by
  unfold mallP
  rw [pq_bind]
  refine J_bnd hit fun b x hx => ?_
  subst hx
  rw [pq_bind, pq_noe]
  exact J_bnd (J_blk hp (J_allL hb x)) fun b y hy => by subst hy; exact J_ret rfl
def stP (t : PR Bool) (e : PR PyData) : PR (Option PyData) := t.bind fun b => if b = true then e.bind fun y => .ok (some y) else .ok none
def st1 (e : PR PyData) : PR (Option PyData) := e.bind fun y => .ok (some y)
def stD (t : Dm Bool) (e : Dm PyData) : Dm (Option PyData) := bD t fun b => if b = true then bD e fun y => PQ (.ok (some y)) else PQ (.ok none)
def sd1 (e : Dm PyData) : Dm (Option PyData) := bD e fun y => PQ (.ok (some y))
theorem pq_st (t : PR Bool) (e : PR PyData) : PQ (stP t e) = stD (PQ t) (PQ e) := by
  unfold stP stD
  rw [pq_bind]
  congr; funext b
  split
  · rw [pq_bind]
  · rfl
theorem pq_st1 (e : PR PyData) : PQ (st1 e) = sd1 (PQ e) := pq_bind _ _
def stT (vs : List Nat) (t : M Bool) (e : M PyData) : M (Option PyData) := bnd t fun b => if b = true then bnd e (fun y => bnd (wp vs) fun _ => ret (some y)) else bnd (wp vs) fun _ => ret none
theorem wq_wp {Q : α → En → Prop} {E : String → En → Prop} {a : α} (he : ER G en) (hp : plAll G vs = true) (hv : ∀ v ∈ vs, v ∈ L) (hq : ∀ en', ER (setPl G vs) en' → FR L en en' → Q a en') : WQ (bnd (wp vs) fun _ => ret a) en Q E := by
  obtain ⟨w1, w2⟩ := er_wipe he hp
  refine wq_eq (a := a) (en1 := wipeE en vs) ?_ (hq _ w2 (fr_eq fun j hj => (wipeE_get en vs j).1 fun q => hj (hv j q)))
  unfold bnd wp
  simp only [w1, if_true]
  rfl
theorem J2_tail {t : M Bool} {e : M PyData} {dt : Dm Bool} {de : Dm PyData} (hp : plAll G1 vs = true) (hG : setPl G1 vs = G0) (hv : ∀ v ∈ vs, v ∈ L) (ht : JE G1 L t dt) (he : JE G1 L e de) : J2 G1 G0 L Eq (stT vs t e) (stD dt de) := fun en Qd Ed Q E hE hd hq hX => by
  subst hG
  refine wq_bnd (ht en _ Ed _ E hE hd (fun b hb x en1 hx he1 hf => ?_) fun c hc en' _ => hX c hc en')
  subst hx
  cases x with
  | true => exact wq_bnd (he en1 _ Ed _ E he1 hb (fun b hb y en2 hy he2 hf2 => wq_wp he2 hp hv fun en3 he3 hf3 => by subst hy; exact hq _ hb _ en3 rfl he3 ((hf.trans hf2).trans hf3)) fun c hc en' _ => hX c hc en')
  | false => exact wq_wp he1 hp hv fun en3 he3 hf3 => hq _ hb _ en3 rfl he3 (hf.trans hf3)
theorem J2_tail1 {e : M PyData} {de : Dm PyData} (hp : plAll G1 vs = true) (hG : setPl G1 vs = G0) (hv : ∀ v ∈ vs, v ∈ L) (he : JE G1 L e de) : J2 G1 G0 L Eq (stT vs mtrue e) (sd1 de) := J2_tail hp hG hv (J_ret rfl) he
theorem J2_tailP {t : M Bool} {e : M PyData} {dt : PR Bool} {de : PR PyData} (hp : plAll G1 vs = true) (hG : setPl G1 vs = G0) (hv : ∀ v ∈ vs, v ∈ L) (ht : JE G1 L t (PQ dt)) (he : JE G1 L e (PQ de)) : J2 G1 G0 L Eq (stT vs t e) (PQ (stP dt de)) := by rw [pq_st]; exact J2_tail hp hG hv ht he
theorem J2_tail1P {e : M PyData} {de : PR PyData} (hp : plAll G1 vs = true) (hG : setPl G1 vs = G0) (hv : ∀ v ∈ vs, v ∈ L) (he : JE G1 L e (PQ de)) : J2 G1 G0 L Eq (stT vs mtrue e) (PQ (st1 de)) := by rw [pq_st1]; exact J2_tail1 hp hG hv he
theorem bnd_ok' {α β : Type} {m : M α} {f : α → M β} {en en1 : En} {a : α} (h : m en = .ok a en1) : bnd m f en = f a en1 := by unfold bnd; rw [h]
theorem step_eq (vs : List Nat) (f : TgF) (t : M Bool) (e : M PyData) (d : PyData) (en : En) (h : f d en = .ok .nx en1) : stepC vs f t e d en = stT vs t e en1 := by
  unfold stepC
  rw [bnd_ok' h]
  rfl
theorem J_stepN {t : M Bool} {e : M PyData} {d : PyData} {db : Dm (Option PyData)} (hn : notIo G[i]? = true) (hv : i ∈ L) (h : J2 (G.set i (.shd d)) G L Eq (stT [i] t e) db) : J2 G G L Eq (stepC [i] (tgN i) t e d) db := fun en Qd Ed Q E he hd hq hE => by
  have z := h (en.set i (.sh d)) Qd Ed Q E (er_set he rfl) hd (fun b hb x en' hv' he' hf => hq b hb x en' hv' he' ((fr_eq (L := L) fun j hj => List.getElem?_set_ne fun (q : i = j) => hj (q ▸ hv)).trans hf)) hE
  unfold WQ at z ⊢
  rw [step_eq [i] (tgN i) t e d en (er_masg he hn (.sh d))]
  exact z
/-- a, b = d -/
def tgs : List Nat → List PyData → M Fl
  | [] => tgnil
  | i :: is => tgcons (tgN i) (tgs is)
def unF (n : Nat) : PyData → PR (List PyData)
  | .tuple ds => if ds.length = n then .ok ds else .bad
  | .list ds => if ds.length = n then .ok ds else .bad
  | _ => .bad
def nioAll (G : List PV) (vs : List Nat) : Bool := vs.all fun v => notIo G[v]?
theorem notIo_set {pv : PV} {j : Nat} (h : notIo G[j]? = true) (hp : notIo (some pv) = true) : notIo (G.set i pv)[j]? = true := by
  by_cases e : i = j
  · subst e
    have hl : i < G.length := by
      cases hg : G[i]? with
      | none => rw [hg] at h; cases h
      | some p => exact (List.getElem?_eq_some_iff.mp hg).1
    rw [List.getElem?_set_self hl]; exact hp
  · rw [List.getElem?_set_ne e]; exact h
theorem er_tgs : ∀ (is : List Nat) (ds : List PyData) (G : List PV) (en : En), ER G en → nioAll G is = true → ds.length = is.length → ∃ en', tgs is ds en = .ok .nx en' ∧ ER (setSh G is ds) en' ∧ ∀ j, j ∉ is → en'[j]? = en[j]?
  | [], [], G, en, he, _, _ => ⟨en, rfl, he, fun _ _ => rfl⟩
  | [], _ :: _, _, _, _, _, h => by cases h
  | _ :: _, [], _, _, _, _, h => by cases h
  | i :: is, d :: ds, G, en, he, hn, hl => by
    unfold nioAll at hn
    rw [List.all_cons, Bool.and_eq_true] at hn
    have e1 := er_masg he hn.1 (.sh d)
    obtain ⟨en', h1, h2, h3⟩ := er_tgs is ds (G.set i (.shd d)) (en.set i (.sh d)) (er_set he rfl) (List.all_eq_true.mpr fun v hv => notIo_set (List.all_eq_true.mp hn.2 v hv) rfl) (Nat.succ.inj hl)
    refine ⟨en', ?_, h2, fun j hj => (h3 j fun q => hj (List.mem_cons_of_mem _ q)).trans (List.getElem?_set_ne fun (q : i = j) => hj (q ▸ List.mem_cons_self))⟩
    show bnd (tgN i d) _ en = _
    have e2 : tgN i d en = .ok .nx (en.set i (.sh d)) := e1
    rw [bnd_ok' e2]
    exact h1
def sdT (n : Nat) (d : PyData) (k : List PyData → Dm (Option PyData)) : Dm (Option PyData) := bD (PQ (unF n d)) k
def spT (n : Nat) (d : PyData) (k : List PyData → PR (Option PyData)) : PR (Option PyData) := (unF n d).bind k
theorem un_cases (n : Nat) (d : PyData) : (∃ ds, ds.length = n ∧ unF n d = .ok ds ∧ ∀ g : List PyData → M Fl, tgtup n g d = g ds) ∨ unF n d = .bad := by
  cases d with
  | tuple ds =>
    by_cases h : ds.length = n
    · exact .inl ⟨ds, h, if_pos h, fun g => if_pos h⟩
    · exact .inr (if_neg h)
  | list ds =>
    by_cases h : ds.length = n
    · exact .inl ⟨ds, h, if_pos h, fun g => if_pos h⟩
    · exact .inr (if_neg h)
  | _ => exact .inr rfl
theorem J_stepT {is : List Nat} {n : Nat} {t : M Bool} {e : M PyData} {d : PyData} {db : List PyData → Dm (Option PyData)} (hn : nioAll G is = true) (hl : is.length = n) (hv : ∀ i ∈ is, i ∈ L) (h : ∀ ds, ds.length = n → J2 (setSh G is ds) G L Eq (stT is t e) (db ds)) : J2 G G L Eq (stepC is (tgtup n (tgs is)) t e d) (sdT n d db) := fun en Qd Ed Q E he hd hq hE => by
  unfold sdT bD at hd
  rcases un_cases n d with ⟨ds, h1, h2, h3⟩ | h1
  · rw [h2] at hd
    obtain ⟨en1, k1, k2, k3⟩ := er_tgs is ds G en he hn (h1.trans hl.symm)
    have z := h ds h1 en1 Qd Ed Q E k2 hd (fun b hb x en' hv' he' hf => hq b hb x en' hv' he' ((fr_eq (L := L) fun j hj => k3 j fun q => hj (hv j q)).trans hf)) hE
    unfold WQ at z ⊢
    rw [step_eq is (tgtup n (tgs is)) t e d en (by rw [h3]; exact k1)]
    exact z
  · rw [h1] at hd; exact hd.elim
theorem J_stepTP {is : List Nat} {n : Nat} {t : M Bool} {e : M PyData} {d : PyData} {db : List PyData → PR (Option PyData)} (hn : nioAll G is = true) (hl : is.length = n) (hv : ∀ i ∈ is, i ∈ L) (h : ∀ ds, ds.length = n → J2 (setSh G is ds) G L Eq (stT is t e) (PQ (db ds))) : J2 G G L Eq (stepC is (tgtup n (tgs is)) t e d) (PQ (spT n d db)) := by
  unfold spT
  rw [pq_bind]
  exact J_stepT hn hl hv h

/-- what a def does, by its own function -/
def FnD (V : Vl → PyData → Prop) (np : Nat) (F : Fn) (A : List PyData → Dm PyData) : Prop := ∀ (ds : List PyData) (Qd : PyData → Prop), A ds Qd (fun _ => False) → ds.length = np ∧ ∃ x en b, F (ds.map .sh) = .ok x en ∧ V x b ∧ Qd b
def FnI (V : Vl → PyData → Prop) (I : PyData → Prop) (np : Nat) (F : Fn) (A : List PyData → Dm PyData) : Prop := ∀ (d : PyData) (ds : List PyData) (Qd : PyData → Prop), I d → A ds Qd (fun _ => False) → ds.length + 1 = np ∧ ∃ x en b d', F (.io d :: ds.map .sh) = .ok x (.io d' :: en) ∧ V x b ∧ I d' ∧ Qd b
/-- a def that makes the draws -/
def FnW (I : PyData → Prop) (np : Nat) (F : Fn) (A : List PyData → Dm Unit) : Prop := ∀ (ds : List PyData) (Qd : Unit → Prop), A ds Qd (fun _ => False) → ds.length = np ∧ ∃ d en, F (ds.map .sh) = .ok (.ow d) en ∧ I d ∧ Qd ()
theorem J_call {V : Vl → PyData → Prop} {np : Nat} {F : Fn} {A : List PyData → Dm PyData} {ms : M (List PyData)} {da : Dm (List PyData)} (hF : FnD V np F A) (h : JE G L ms da) : J G L V (mcall np F ms) (bD da fun ds => nD (A ds)) :=
  fun en Qd Ed Q E he hd hq hE => wq_bnd (h en _ Ed _ E he hd (fun ds hb x en1 hx he1 hf => by
    subst hx
    obtain ⟨h1, y, e, b, h2, h3, h4⟩ := hF x Qd hb
    refine wq_eq (a := y) (en1 := en1) ?_ (hq b h4 y en1 h3 he1 hf)
    rw [if_pos h1, h2]) hE)
theorem J_callP {V : Vl → PyData → Prop} {np : Nat} {F : Fn} {A : List PyData → PR PyData} {ms : M (List PyData)} {da : PR (List PyData)} (hF : FnD V np F fun ds => PQ (A ds)) (h : JE G L ms (PQ da)) : J G L V (mcall np F ms) (PQ (da.bind fun ds => (A ds).noe)) := by
  rw [pq_bind]; simp only [pq_noe]; exact J_call hF h
theorem J_callW {I : PyData → Prop} {np : Nat} {F : Fn} {A : List PyData → Dm Unit} {ms : M (List PyData)} {da : Dm (List PyData)} (hF : FnW I np F A) (h : JE G L ms da) : J G L (fun x (_ : Unit) => ∃ d, x = .ow d ∧ I d) (mcall np F ms) (bD da fun ds => nD (A ds)) :=
  fun en Qd Ed Q E he hd hq hE => wq_bnd (h en _ Ed _ E he hd (fun ds hb x en1 hx he1 hf => by
    subst hx
    obtain ⟨h1, d, e, h2, h3, h4⟩ := hF x Qd hb
    refine wq_eq (a := Vl.ow d) (en1 := en1) ?_ (hq () h4 _ en1 ⟨d, rfl, h3⟩ he1 hf)
    rw [if_pos h1, h2]) hE)
def isDr (I : PyData → Prop) (pv : PV) : Prop := pv = .iov I ∨ pv = .owv I
theorem J_callI {V : Vl → PyData → Prop} {I : PyData → Prop} {np : Nat} {F : Fn} {A : List PyData → Dm PyData} {ms : M (List PyData)} {da : Dm (List PyData)} {pv : PV} (hF : FnI V I np F A) (g : G[i]? = some pv) (hp : isDr I pv) (hi : i ∈ L) (h : JE G L ms da) : J G L V (mcallI np F i ms) (bD da fun ds => nD (A ds)) :=
  fun en Qd Ed Q E he hd hq hE => by
    have own : ∀ e, ER G e → ∃ d, I d ∧ (e[i]? = some (.ow d) ∨ e[i]? = some (.io d)) ∧ ∀ d', I d' → (e[i]? = some (.ow d) → ER G (e.set i (.ow d'))) ∧ (e[i]? = some (.io d) → ER G (e.set i (.io d'))) := fun e he => by
      obtain ⟨s, hs, hr⟩ := er_get he g
      rcases hp with rfl | rfl
      · obtain ⟨d, hI, rfl⟩ := hr
        exact ⟨d, hI, .inr hs, fun d' h' => ⟨fun q => (by rw [hs] at q; cases q), fun q => er_keep he g ⟨d', h', rfl⟩⟩⟩
      · obtain ⟨d, hI, rfl⟩ := hr
        exact ⟨d, hI, .inl hs, fun d' h' => ⟨fun q => er_keep he g ⟨d', h', rfl⟩, fun q => (by rw [hs] at q; cases q)⟩⟩
    have h1 : (en[i]?.map isOwn).getD false = true := by
      obtain ⟨d, _, e | e, _⟩ := own en he <;> rw [e] <;> rfl
    unfold WQ mcallI
    simp only [h1, if_true]
    refine wq_bnd (h en _ Ed _ E he hd (fun ds hb x en1 hx he1 hf => ?_) hE)
    subst hx
    obtain ⟨d, hI, e, hk⟩ := own en1 he1
    obtain ⟨g1, y, e2, b, d', h2, h3, h4, h5⟩ := hF d x Qd hI hb
    rcases e with e | e
    · refine wq_eq (a := y) (en1 := en1.set i (.ow d')) ?_ (hq b h5 y _ h3 ((hk d' h4).1 e) (hf.trans (fr_eq fun j hj => List.getElem?_set_ne fun (q : i = j) => hj (q ▸ hi))))
      · rw [if_pos g1, e]
        simp only [h2]
    · refine wq_eq (a := y) (en1 := en1.set i (.io d')) ?_ (hq b h5 y _ h3 ((hk d' h4).2 e) (hf.trans (fr_eq fun j hj => List.getElem?_set_ne fun (q : i = j) => hj (q ▸ hi))))
      · rw [if_pos g1, e]
        simp only [h2]
end
end ZP


namespace ZP
open PySem ZD
section
variable {α β γ X Y R σ : Type} {G G' G0 G1 : List PV} {L N vs : List Nat} {en en1 en' : En} {i : Nat}
def RS (G : List PV) (m : M Fl) (d : Dm R) (P : R → Fl → En → Prop) : Prop :=
  ∀ (en : En) (Qd : R → Prop) (Ed : String → Prop) (Q : Fl → En → Prop) (E : String → En → Prop), ER G en → d Qd Ed →
    (∀ r, Qd r → ∀ fl en', P r fl en' → Q fl en') → (∀ c, Ed c → ∀ en', E c en') → WQ m en Q E
variable {P : R → Fl → En → Prop} {m m1 m2 a b : M Fl}
theorem wq_seq {m n : M Fl} {Q : Fl → En → Prop} {E : String → En → Prop} (h : WQ m en (fun fl e => match fl with | .nx => WQ n e Q E | f => Q f e) E) : WQ (mseq m n) en Q E := by
  unfold mseq
  refine wq_bnd ?_
  unfold WQ at h ⊢
  cases hm : m en with
  | ok fl e =>
    rw [hm] at h
    cases fl <;> exact h
  | err c e => rw [hm] at h; exact h
  | bad => rw [hm] at h; exact h
inductive Sub : List PV → List PV → Prop
  | nil : Sub [] []
  | cons {a b : PV} {as bs : List PV} : (∀ s, SR a s → SR b s) → Sub as bs → Sub (a :: as) (b :: bs)
theorem er_sub (h : Sub G G') : ∀ {en : En}, ER G en → ER G' en := by
  induction h with
  | nil => exact fun h => h
  | @cons a b as bs hab _ ih =>
    intro en he
    obtain ⟨h1, h2⟩ := he
    cases en with
    | nil => cases h1
    | cons s en =>
      have k : ER as en := ⟨Nat.succ.inj h1, fun i pv hi => by
        have z := h2 (i + 1) pv (by simpa using hi)
        simpa using z⟩
      obtain ⟨k1, k2⟩ := ih k
      refine ⟨by simp [k1], fun i pv hi => ?_⟩
      cases i with
      | zero =>
        have e : b = pv := by simpa using hi
        subst e
        obtain ⟨s', e1, e2⟩ := h2 0 a rfl
        exact ⟨s', e1, hab _ e2⟩
      | succ i =>
        obtain ⟨s', e1, e2⟩ := k2 i pv (by simpa using hi)
        exact ⟨s', by simpa using e1, e2⟩
theorem s_rf {a : PV} : ∀ s, SR a s → SR a s := fun _ h => h
theorem s_hp {d : PyData} : ∀ s, SR (.shd d) s → SR .pl s := fun s h => .inr ⟨d, h⟩
theorem s_lv {d : PyData} : ∀ s, SR (.ownl d) s → SR (.val d) s := fun s h => .inr ⟨.inl h.2, h.1⟩
theorem RS_sub {d : Dm R} (s : Sub G G') (h : RS G' m d P) : RS G m d P := fun en Qd Ed Q E he hd hq hE => h en Qd Ed Q E (er_sub s he) hd hq hE
theorem RS_eq {d : Dm R} (e : m = m1) (h : RS G m1 d P) : RS G m d P := e ▸ h
theorem mseq_mret (x : M Vl) (n : M Fl) : mseq (mret x) n = mret x := by
  funext en; unfold mseq mret bnd; cases x en <;> rfl
theorem mseq_nx (n : M Fl) : mseq mnx n = n := rfl
theorem mseq_as (a b c : M Fl) : mseq (mseq a b) c = mseq a (mseq b c) := by
  funext en
  unfold mseq bnd
  cases a en with
  | ok fl e => cases fl <;> rfl
  | err c e => rfl
  | bad => rfl
theorem mseq_end (m : M Fl) : mseq m mnx = m := by
  funext en
  unfold mseq bnd
  cases m en with
  | ok fl e => cases fl <;> rfl
  | err c e => rfl
  | bad => rfl
theorem RS_as {d : Dm R} (h : RS G (mseq a (mseq b m2)) d P) : RS G (mseq (mseq a b) m2) d P := RS_eq (mseq_as _ _ _) h
theorem RS_end {d : Dm R} (h : RS G (mseq m mnx) d P) : RS G m d P := RS_eq (mseq_end _).symm h
theorem RS_nx {r : R} (h : ∀ en, ER G en → P r .nx en) : RS G mnx (PQ (.ok r)) P := fun en Qd Ed Q E he hd hq hE => hq r hd .nx en (h en he)
/-- return -/
theorem RS_ret {V : Vl → PyData → Prop} {m : M Vl} {d : Dm PyData} {inj : PyData → R} (h : J G L V m d) (hP : ∀ r x en', V x r → ER G en' → P (inj r) (.rt x) en') : RS G (mret m) (bD d fun r => PQ (.ok (inj r))) P :=
  fun en Qd Ed Q E he hd hq hE => wq_bnd (h en _ Ed _ E he hd (fun b hb x en' hv he' _ => hq _ hb _ _ (hP b x en' hv he')) fun c hc en' _ => hE c hc en')
theorem RS_ret0 {V : Vl → PyData → Prop} {m : M Vl} {d : Dm PyData} {P : PyData → Fl → En → Prop} (h : J G L V m d) (hP : ∀ r x en', V x r → ER G en' → P r (.rt x) en') : RS G (mret m) d P :=
  fun en Qd Ed Q E he hd hq hE => wq_bnd (h en _ Ed _ E he hd (fun b hb x en' hv he' _ => hq _ hb _ _ (hP b x en' hv he')) fun c hc en' _ => hE c hc en')
theorem RS_retP {V : Vl → PyData → Prop} {m : M Vl} {d : PR PyData} {inj : PyData → R} (h : J G L V m (PQ d)) (hP : ∀ r x en', V x r → ER G en' → P (inj r) (.rt x) en') : RS G (mret m) (PQ (d.bind fun r => .ok (inj r))) P := by rw [pq_bind]; exact RS_ret h hP
/-- name = e -/
theorem RS_asg {mv : M Vl} {d : Dm β} {V : Vl → β → Prop} {pv : β → PV} {d2 : β → Dm R} (h : J G L V mv d) (hV : ∀ x b, V x b → SR (pv b) (slOf x)) (hn : notIo G[i]? = true) (k : ∀ b, RS (G.set i (pv b)) m2 (d2 b) P) : RS G (mseq (asgN i mv) m2) (bD d d2) P :=
  fun en Qd Ed Q E he hd hq hE => wq_seq (wq_bnd (h en _ Ed _ E he hd (fun b hb x en1 hv he1 _ => wq_eq (er_masg he1 hn x) (k b _ Qd Ed Q E (er_set he1 (hV x b hv)) hb hq hE)) fun c hc en' _ => hE c hc en'))
theorem RS_asgP {mv : M Vl} {V : Vl → PyData → Prop} {d : PR PyData} {pv : PyData → PV} {d2 : PyData → PR R} (h : J G L V mv (PQ d)) (hV : ∀ x b, V x b → SR (pv b) (slOf x)) (hn : notIo G[i]? = true) (k : ∀ b, RS (G.set i (pv b)) m2 (PQ (d2 b)) P) : RS G (mseq (asgN i mv) m2) (PQ (d.bind d2)) P := by
  rw [pq_bind]; exact RS_asg (V := V) h hV hn k
theorem v_val (x : Vl) (b : PyData) (h : VW x b) : SR (.val b) (slOf x) := by
  rcases h with rfl | ⟨h, rfl⟩
  · exact .inl rfl
  · exact .inr ⟨h, rfl⟩
theorem v_shd (x : Vl) (b : PyData) (h : VS x b) : SR (.shd b) (slOf x) := by rw [h]; rfl
theorem v_ownl (x : Vl) (b : PyData) (h : VL x b) : SR (.ownl b) (slOf x) := by rw [h.1]; exact ⟨rfl, h.2⟩
theorem v_ownd (x : Vl) (b : PyData) (h : VK x b) : SR (.ownd b) (slOf x) := by rw [h.1]; exact ⟨rfl, h.2⟩
theorem v_owv {I : PyData → Prop} (x : Vl) (b : Unit) (h : ∃ d, x = .ow d ∧ I d) : SR (.owv I) (slOf x) := by obtain ⟨d, rfl, h⟩ := h; exact ⟨d, h, rfl⟩
/-- if -/
theorem RS_if {t : M Bool} {dt : Dm Bool} {da db : Dm R} (ht : JE G L t dt) (ha : RS G (mseq a m2) da P) (hb : RS G (mseq b m2) db P) : RS G (mseq (mifS t a b) m2) (ifD dt da db) P :=
  fun en Qd Ed Q E he hd hq hE => wq_seq (wq_bnd (ht en _ Ed _ E he hd (fun c hc x en1 hx he1 _ => by
    subst hx
    have un : ∀ (n : M Fl), WQ (mseq n m2) en1 Q E → WQ n en1 (fun fl e => match fl with | .nx => WQ m2 e Q E | f => Q f e) E := fun n z => by
      unfold WQ at z ⊢
      unfold mseq bnd at z
      cases hn : n en1 with
      | ok fl e => rw [hn] at z; cases fl <;> exact z
      | err c e => rw [hn] at z; exact z
      | bad => rw [hn] at z; exact z
    cases x with
    | true => exact un a (ha en1 Qd Ed Q E he1 hc hq hE)
    | false => exact un b (hb en1 Qd Ed Q E he1 hc hq hE)) fun c hc en' _ => hE c hc en'))
theorem RS_ifP {t : M Bool} {dt : PR Bool} {da db : PR R} (ht : JE G L t (PQ dt)) (ha : RS G (mseq a m2) (PQ da) P) (hb : RS G (mseq b m2) (PQ db) P) : RS G (mseq (mifS t a b) m2) (PQ (ifP dt da db)) P := by rw [pq_if]; exact RS_if ht ha hb
/-- a part of the statements that goes on behind it, what it changes in s -/
def PN (Gs : σ → List PV) : σ → Fl → En → Prop := fun s fl en => fl = .nx ∧ ER (Gs s) en
theorem RS_bind {Gs : σ → List PV} {d1 : Dm σ} {d2 : σ → Dm R} (h : RS G m1 d1 (PN Gs)) (k : ∀ s, RS (Gs s) m2 (d2 s) P) : RS G (mseq m1 m2) (bD d1 d2) P :=
  fun en Qd Ed Q E he hd hq hE => wq_seq (h en _ Ed _ E he hd (fun s hs fl en' ⟨h1, h2⟩ => by
    subst h1
    exact k s en' Qd Ed Q E h2 hs hq hE) hE)
theorem RS_bindP {Gs : σ → List PV} {d1 : PR σ} {d2 : σ → PR R} (h : RS G m1 (PQ d1) (PN Gs)) (k : ∀ s, RS (Gs s) m2 (PQ (d2 s)) P) : RS G (mseq m1 m2) (PQ (d1.bind d2)) P := by rw [pq_bind]; exact RS_bind h k
inductive LR (σ ρ : Type) where
  | nx (s : σ) | bk (s : σ) | rt (r : ρ)
/-- a loop without return and break -/
def foldP (f : PyData → σ → PR σ) : List PyData → σ → PR σ
  | [], s => .ok s
  | d :: ds, s => (f d s).bind (foldP f ds)
def foldD (f : PyData → σ → Dm σ) : List PyData → σ → Dm σ
  | [], s => PQ (.ok s)
  | d :: ds, s => bD (f d s) (foldD f ds)
def loopD (f : PyData → σ → Dm (LR σ R)) : List PyData → σ → Dm (LR σ R)
  | [], s => PQ (.ok (.nx s))
  | d :: ds, s => bD (f d s) fun r => match r with
    | .nx s => loopD f ds s
    | .bk s => PQ (.ok (.nx s))
    | .rt r => PQ (.ok (.rt r))
theorem pq_fold (f : PyData → σ → PR σ) : ∀ ds s, PQ (foldP f ds s) = foldD (fun d s => PQ (f d s)) ds s
  | [], s => rfl
  | d :: ds, s => by unfold foldP foldD; rw [pq_bind]; congr; funext s; exact pq_fold f ds s
/-- what a turn leaves -/
def PT (Gs : σ → List PV) : σ → Fl → En → Prop := fun s fl en => (fl = .nx ∨ fl = .ct) ∧ ER (Gs s) en
def PTR (Gs : σ → List PV) (P : R → Fl → En → Prop) : LR σ R → Fl → En → Prop := fun r fl en => match r with
  | .nx s => (fl = .nx ∨ fl = .ct) ∧ ER (Gs s) en
  | .bk s => fl = .bk ∧ ER (Gs s) en
  | .rt r => (∃ x, fl = .rt x) ∧ P r fl en
/-- a target: what it does with a tree, the names' kinds behind it -/
def TG (G : List PV) (f : TgF) (d : PyData) (p : PR γ) (G1 : γ → List PV) : Prop := p = .bad ∨ ∃ s, p = .ok s ∧ ∀ en, ER G en → ∃ en', f d en = .ok .nx en' ∧ ER (G1 s) en'
theorem tg_t {is : List Nat} {n : Nat} {d : PyData} (hn : nioAll G is = true) (hl : is.length = n) : TG G (tgtup n (tgs is)) d (unF n d) (fun ds => setSh G is ds) := by
  rcases un_cases n d with ⟨ds, h1, h2, h3⟩ | h1
  · refine .inr ⟨ds, h2, fun en he => ?_⟩
    obtain ⟨en', k1, k2, _⟩ := er_tgs is ds G en he hn (h1.trans hl.symm)
    exact ⟨en', by rw [h3]; exact k1, k2⟩
  · exact .inl h1
theorem wq_fold {Gs : σ → List PV} {f : TgF} {body : M Fl} {p : PyData → PR γ} {G1 : PyData → σ → γ → List PV} {k : PyData → σ → γ → Dm σ}
    (ht : ∀ d s, TG (Gs s) f d (p d) (G1 d s)) (hb : ∀ d s g, p d = .ok g → RS (G1 d s g) body (k d s g) (PT Gs)) : ∀ (ds : List PyData) (s : σ), RS (Gs s) (ZD.forM f body ds) (foldD (fun d s => bD (PQ (p d)) (k d s)) ds s) (PN Gs)
  | [], s => fun en Qd Ed Q E he hd hq hE => hq s hd .nx en ⟨rfl, he⟩
  | d :: ds, s => fun en Qd Ed Q E he hd hq hE => by
    unfold foldD at hd
    unfold ZD.forM
    rcases ht d s with hp | ⟨g, hp, h⟩
    · simp only [bD, hp] at hd; exact hd.elim
    · obtain ⟨en1, h1, h2⟩ := h en he
      simp only [bD, hp] at hd
      refine wq_bnd (wq_eq h1 ?_)
      refine wq_bnd (hb d s g hp en1 _ Ed _ E h2 hd (fun s2 hs2 fl en2 h3 => ?_) hE)
      have z := wq_fold ht hb ds s2 en2 Qd Ed Q E h3.2 hs2 hq hE
      rcases h3.1 with rfl | rfl <;> exact z
def PL (Gs : σ → List PV) (P : R → Fl → En → Prop) : LR σ R → Fl → En → Prop := fun r fl en => match r with
  | .nx s => fl = .nx ∧ ER (Gs s) en
  | .bk s => fl = .nx ∧ ER (Gs s) en
  | .rt r => (∃ x, fl = .rt x) ∧ P r fl en
theorem wq_loop {Gs : σ → List PV} {f : TgF} {body : M Fl} {p : PyData → PR γ} {G1 : PyData → σ → γ → List PV} {k : PyData → σ → γ → Dm (LR σ R)}
    (ht : ∀ d s, TG (Gs s) f d (p d) (G1 d s)) (hb : ∀ d s g, p d = .ok g → RS (G1 d s g) body (k d s g) (PTR Gs P)) : ∀ (ds : List PyData) (s : σ), RS (Gs s) (ZD.forM f body ds) (loopD (fun d s => bD (PQ (p d)) (k d s)) ds s) (PL Gs P)
  | [], s => fun en Qd Ed Q E he hd hq hE => hq _ hd .nx en ⟨rfl, he⟩
  | d :: ds, s => fun en Qd Ed Q E he hd hq hE => by
    unfold loopD at hd
    unfold ZD.forM
    rcases ht d s with hp | ⟨g, hp, h⟩
    · simp only [bD, hp] at hd; exact hd.elim
    · obtain ⟨en1, h1, h2⟩ := h en he
      simp only [bD, hp] at hd
      refine wq_bnd (wq_eq h1 ?_)
      refine wq_bnd (hb d s g hp en1 _ Ed _ E h2 hd (fun r hr fl en2 h3 => ?_) hE)
      cases r with
      | nx s2 =>
        have z := wq_loop ht hb ds s2 en2 Qd Ed Q E h3.2 hr hq hE
        rcases h3.1 with rfl | rfl <;> exact z
      | bk s2 =>
        obtain ⟨rfl, h4⟩ := h3
        exact hq _ hr .nx en2 ⟨rfl, h4⟩
      | rt r =>
        obtain ⟨⟨x, rfl⟩, h4⟩ := h3
        exact hq _ hr _ en2 ⟨⟨x, rfl⟩, h4⟩
/-- for .. in ..: no return in it -/
theorem RS_for {Gs : σ → List PV} {it : M (List PyData)} {dit : Dm (List PyData)} {f : TgF} {body : M Fl} {p : PyData → PR γ} {G1 : PyData → σ → γ → List PV} {k : PyData → σ → γ → Dm σ} {d2 : σ → Dm R} (s0 : σ)
    (hit : JE G L it dit) (h0 : Sub G (Gs s0)) (ht : ∀ d s, TG (Gs s) f d (p d) (G1 d s)) (hb : ∀ d s g, p d = .ok g → RS (G1 d s g) body (k d s g) (PT Gs)) (h2 : ∀ s, RS (Gs s) m2 (d2 s) P) :
    RS G (mseq (mfor it f body) m2) (bD dit fun ds => bD (foldD (fun d s => bD (PQ (p d)) (k d s)) ds s0) d2) P :=
  fun en Qd Ed Q E he hd hq hE => wq_seq (wq_bnd (hit en _ Ed _ E he hd (fun ds hds x en1 hx he1 _ => by
    subst hx
    exact wq_fold ht hb x s0 en1 _ Ed _ E (er_sub h0 he1) hds (fun s hs fl en2 ⟨e1, e2⟩ => by subst e1; exact h2 s en2 Qd Ed Q E e2 hs hq hE) hE) fun c hc en' _ => hE c hc en'))
theorem RS_forP {Gs : σ → List PV} {it : M (List PyData)} {dit : PR (List PyData)} {f : TgF} {body : M Fl} {p : PyData → PR γ} {G1 : PyData → σ → γ → List PV} {k : PyData → σ → γ → PR σ} {d2 : σ → PR R} (s0 : σ)
    (hit : JE G L it (PQ dit)) (h0 : Sub G (Gs s0)) (ht : ∀ d s, TG (Gs s) f d (p d) (G1 d s)) (hb : ∀ d s g, p d = .ok g → RS (G1 d s g) body (PQ (k d s g)) (PT Gs)) (h2 : ∀ s, RS (Gs s) m2 (PQ (d2 s)) P) :
    RS G (mseq (mfor it f body) m2) (PQ (dit.bind fun ds => (foldP (fun d s => (p d).bind (k d s)) ds s0).bind d2)) P := by
  simp only [pq_bind, pq_fold]; exact RS_for s0 hit h0 ht hb h2
/-- behind a loop that may return -/
def aftD (d2 : σ → Dm β) (inj : R → β) : LR σ R → Dm β
  | .nx s => d2 s
  | .bk s => d2 s
  | .rt r => PQ (.ok (inj r))
theorem RS_forL {ρ : Type} {PF : ρ → Fl → En → Prop} {Gs : σ → List PV} {it : M (List PyData)} {dit : Dm (List PyData)} {f : TgF} {body : M Fl} {p : PyData → PR γ} {G1 : PyData → σ → γ → List PV} {k : PyData → σ → γ → Dm (LR σ ρ)} {d2 : σ → Dm R} {inj : ρ → R} (s0 : σ)
    (hit : JE G L it dit) (h0 : Sub G (Gs s0)) (ht : ∀ d s, TG (Gs s) f d (p d) (G1 d s)) (hb : ∀ d s g, p d = .ok g → RS (G1 d s g) body (k d s g) (PTR Gs PF)) (h2 : ∀ s, RS (Gs s) m2 (d2 s) P) (hP : ∀ r x en', PF r (.rt x) en' → P (inj r) (.rt x) en') :
    RS G (mseq (mfor it f body) m2) (bD dit fun ds => bD (loopD (fun d s => bD (PQ (p d)) (k d s)) ds s0) (aftD d2 inj)) P :=
  fun en Qd Ed Q E he hd hq hE => wq_seq (wq_bnd (hit en _ Ed _ E he hd (fun ds hds x en1 hx he1 _ => by
    subst hx
    refine wq_loop (P := PF) ht hb x s0 en1 _ Ed _ E (er_sub h0 he1) hds (fun r hr fl en2 h3 => ?_) hE
    cases r with
    | nx s => obtain ⟨rfl, h4⟩ := h3; exact h2 s en2 Qd Ed Q E h4 hr hq hE
    | bk s => obtain ⟨rfl, h4⟩ := h3; exact h2 s en2 Qd Ed Q E h4 hr hq hE
    | rt r => obtain ⟨⟨y, rfl⟩, h4⟩ := h3; exact hq _ hr _ _ (hP r y en2 h4)) fun c hc en' _ => hE c hc en'))
theorem unF_len {n : Nat} {d : PyData} {ds : List PyData} (h : unF n d = .ok ds) : ds.length = n := by
  rcases un_cases n d with ⟨ds', h1, h2, _⟩ | h1
  · rw [h2] at h; cases h; exact h1
  · rw [h1] at h; cases h
theorem RS_forTP {Gs : σ → List PV} {it : M (List PyData)} {dit : PR (List PyData)} {is : List Nat} {n : Nat} {body : M Fl} {k : PyData → σ → List PyData → PR σ} {d2 : σ → PR R} (s0 : σ)
    (hit : JE G L it (PQ dit)) (h0 : Sub G (Gs s0)) (hn : ∀ s, nioAll (Gs s) is = true) (hl : is.length = n) (hb : ∀ d s ds, ds.length = n → RS (setSh (Gs s) is ds) body (PQ (k d s ds)) (PT Gs)) (h2 : ∀ s, RS (Gs s) m2 (PQ (d2 s)) P) :
    RS G (mseq (mfor it (tgtup n (tgs is)) body) m2) (PQ (dit.bind fun ds => (foldP (fun d s => (unF n d).bind (k d s)) ds s0).bind d2)) P :=
  RS_forP (p := unF n) (G1 := fun d s ds => setSh (Gs s) is ds) s0 hit h0 (fun d s => tg_t (hn s) hl) (fun d s ds h => hb d s ds (unF_len h)) h2
theorem RS_forLT {ρ : Type} {PF : ρ → Fl → En → Prop} {Gs : σ → List PV} {it : M (List PyData)} {dit : Dm (List PyData)} {is : List Nat} {n : Nat} {body : M Fl} {k : PyData → σ → List PyData → Dm (LR σ ρ)} {d2 : σ → Dm R} {inj : ρ → R} (s0 : σ)
    (hit : JE G L it dit) (h0 : Sub G (Gs s0)) (hn : ∀ s, nioAll (Gs s) is = true) (hl : is.length = n) (hb : ∀ d s ds, ds.length = n → RS (setSh (Gs s) is ds) body (k d s ds) (PTR Gs PF)) (h2 : ∀ s, RS (Gs s) m2 (d2 s) P) (hP : ∀ r x en', PF r (.rt x) en' → P (inj r) (.rt x) en') :
    RS G (mseq (mfor it (tgtup n (tgs is)) body) m2) (bD dit fun ds => bD (loopD (fun d s => bD (PQ (unF n d)) (k d s)) ds s0) (aftD d2 inj)) P :=
  RS_forL (PF := PF) (p := unF n) (G1 := fun d s ds => setSh (Gs s) is ds) s0 hit h0 (fun d s => tg_t (hn s) hl) (fun d s ds h => hb d s ds (unF_len h)) h2 hP
/-- how a def's body ends -/
def PF (V : Vl → PyData → Prop) : PyData → Fl → En → Prop := fun r fl _ => match fl with
  | .rt x => V x r
  | .nx => V (.sh .none) r
  | _ => False
def PFI (V : Vl → PyData → Prop) (I : PyData → Prop) : PyData → Fl → En → Prop := fun r fl en => (match fl with
  | .rt x => V x r
  | .nx => V (.sh .none) r
  | _ => False) ∧ ∃ d e, en = .io d :: e ∧ I d
theorem pf_rt {V : Vl → PyData → Prop} (r : PyData) (x : Vl) (en' : En) (h : V x r) (_ : ER G en') : PF V r (.rt x) en' := h
theorem pfi_rt {V : Vl → PyData → Prop} {I : PyData → Prop} {Gt : List PV} (r : PyData) (x : Vl) (en' : En) (h : V x r) (he : ER (.iov I :: Gt) en') : PFI V I r (.rt x) en' := ⟨h, by
  obtain ⟨s, hs, d, hI, rfl⟩ := he.2 0 _ rfl
  cases en' with
  | nil => cases hs
  | cons s e => cases hs; exact ⟨d, e, rfl, hI⟩⟩
def G0s (n : Nat) (ds : List PyData) : List PV := ds.map .shd ++ List.replicate (n - ds.length) .pl
theorem er_append {G1 G2 : List PV} {e1 e2 : En} (h1 : ER G1 e1) (h2 : ER G2 e2) : ER (G1 ++ G2) (e1 ++ e2) := by
  refine ⟨by simp [h1.1, h2.1], fun i pv hi => ?_⟩
  by_cases hl : i < G1.length
  · rw [List.getElem?_append_left hl] at hi
    obtain ⟨s, hs, hr⟩ := h1.2 i pv hi
    exact ⟨s, by rw [List.getElem?_append_left (by rw [← h1.1]; exact hl)]; exact hs, hr⟩
  · rw [List.getElem?_append_right (by omega)] at hi
    obtain ⟨s, hs, hr⟩ := h2.2 _ pv hi
    exact ⟨s, by rw [List.getElem?_append_right (by rw [← h1.1]; omega), ← h1.1]; exact hs, hr⟩
theorem er_shds (ds : List PyData) : ER (ds.map .shd) (ds.map .sh) := ⟨by simp, fun i pv hi => by
  rw [List.getElem?_map] at hi
  obtain ⟨d, hd, rfl⟩ := Option.map_eq_some_iff.mp hi
  exact ⟨.sh d, by rw [List.getElem?_map, hd]; rfl, rfl⟩⟩
theorem er_rep (k : Nat) : ER (List.replicate k .pl) (List.replicate k .no) := ⟨by simp, fun i pv hi => by
  rw [List.getElem?_replicate] at hi
  split at hi
  · rename_i h
    cases hi
    exact ⟨.no, by rw [List.getElem?_replicate, if_pos h], .inl rfl⟩
  · cases hi⟩
theorem er_start (n : Nat) (ds : List PyData) : ER (G0s n ds) (ds.map .sh ++ List.replicate (n - (ds.map Sl.sh).length) .no) := by
  rw [List.length_map]
  exact er_append (er_shds ds) (er_rep _)
theorem fnD_of {V : Vl → PyData → Prop} {np n : Nat} {m : M Fl} {A : List PyData → Dm PyData} (hA : ∀ ds Qd, A ds Qd (fun _ => False) → ds.length = np) (h : ∀ ds, ds.length = np → RS (G0s n ds) m (A ds) (PF V)) : FnD V np (ZD.run n m) A := fun ds Qd hd => by
  have hl := hA ds Qd hd
  refine ⟨hl, ?_⟩
  have z := h ds hl _ Qd (fun _ => False) (fun fl en => ∃ b, Qd b ∧ PF V b fl en) (fun _ _ => False) (er_start n ds) hd (fun r hr fl en' hp => ⟨r, hr, hp⟩) (fun _ h => h.elim)
  unfold WQ at z
  unfold ZD.run
  cases hm : m (ds.map .sh ++ List.replicate (n - (ds.map Sl.sh).length) .no) with
  | ok fl en =>
    rw [hm] at z
    obtain ⟨b, hb, hp⟩ := z
    cases fl with
    | rt x => exact ⟨x, en, b, rfl, hp, hb⟩
    | nx => exact ⟨.sh .none, en, b, rfl, hp, hb⟩
    | bk => exact hp.elim
    | ct => exact hp.elim
  | err c en => rw [hm] at z; exact z.elim
  | bad => rw [hm] at z; exact z.elim
theorem fnI_of {V : Vl → PyData → Prop} {I : PyData → Prop} {np n : Nat} {m : M Fl} {A : List PyData → Dm PyData} (hA : ∀ ds Qd, A ds Qd (fun _ => False) → ds.length + 1 = np) (h : ∀ ds, ds.length + 1 = np → RS (.iov I :: (ds.map .shd ++ List.replicate (n - (ds.length + 1)) .pl)) m (A ds) (PFI V I)) : FnI V I np (ZD.run n m) A := fun d ds Qd hI hd => by
  have hl := hA ds Qd hd
  refine ⟨hl, ?_⟩
  have e0 : ER (.iov I :: (ds.map .shd ++ List.replicate (n - (ds.length + 1)) .pl)) ((.io d :: ds.map .sh) ++ List.replicate (n - (Sl.io d :: ds.map Sl.sh).length) .no) := by
    have e1 : ER [.iov I] [.io d] := ⟨rfl, fun i pv hi => by
      cases i with
      | zero => cases hi; exact ⟨_, rfl, d, hI, rfl⟩
      | succ i => cases hi⟩
    have e2 := er_append e1 (er_append (er_shds ds) (er_rep (n - (ds.length + 1))))
    simpa using e2
  have z := h ds hl _ Qd (fun _ => False) (fun fl en => ∃ b, Qd b ∧ PFI V I b fl en) (fun _ _ => False) e0 hd (fun r hr fl en' hp => ⟨r, hr, hp⟩) (fun _ h => h.elim)
  unfold WQ at z
  unfold ZD.run
  cases hm : m ((.io d :: ds.map .sh) ++ List.replicate (n - (Sl.io d :: ds.map Sl.sh).length) .no) with
  | ok fl en =>
    rw [hm] at z
    obtain ⟨b, hb, hp, d', e, rfl, hI'⟩ := z
    cases fl with
    | rt x => exact ⟨x, e, b, d', rfl, hp, hI', hb⟩
    | nx => exact ⟨.sh .none, e, b, d', rfl, hp, hI', hb⟩
    | bk => exact hp.elim
    | ct => exact hp.elim
  | err c en => rw [hm] at z; exact z.elim
  | bad => rw [hm] at z; exact z.elim
end
end ZP


namespace ZP
open PySem ZD
/-- what is left to draw -/
def DS (d : PyData) : Prop := ∃ l : List Int, d = .list (l.map .int)
/-- the same of a bound that is not too great -/
def A__law_draw : List PyData → Dm PyData := fun ds Q _ => ∃ b : Int, ds = [.int b] ∧ 0 < b ∧ b < 18446744073709551616 ∧ ∀ r : Int, 0 ≤ r → r < b → Q (.int r)
/-- a script that is short and has numbers of some bits -/
def GoodScr (d : PyData) : Prop := ∃ ns : List Int, d = .list (ns.map .int) ∧ ns.length ≤ 63 ∧ ∀ z ∈ ns, Builtin.Int.intBits z ≤ 1048576
def A__law_draws : List PyData → Dm Unit := fun ds Q _ => ∃ d, ds = [d] ∧ GoodScr d ∧ Q ()
abbrev A__law_open : List PyData → Dm Unit := A__law_draws
end ZP


namespace ZP
open PySem ZD
section
variable {α β γ X Y R σ : Type} {G G' G0 G1 : List PV} {L N vs : List Nat} {en en1 en' : En} {i : Nat}
def noDct : PyData → Bool
  | .dict _ => false
  | _ => true
def LkG (G : List PV) (x : Od) (d : PyData) : Prop := x = .d d ∨ ∃ i, x = .s i ∧ ((G[i]? = some (.val d) ∧ noDct d = true) ∨ G[i]? = some (.ownl d))
inductive LkA (G : List PV) : List Od → List PyData → Prop
  | nil : LkA G [] []
  | cons {x : Od} {d : PyData} {xs : List Od} {ds : List PyData} : LkG G x d → LkA G xs ds → LkA G (x :: xs) (d :: ds)
end
end ZP


namespace ZP
open PySem ZD
section
variable {R : Type} {G : List PV} {L : List Nat} {i j : Nat} {m2 : M Fl} {P : R → Fl → En → Prop}
end
end ZP


namespace ZP
open PySem ZD
section
variable {α β γ X Y R σ : Type} {G G' G0 G1 : List PV} {L L' L2 N N2 vs : List Nat} {en en1 en' : En} {i : Nat} {P : R → Fl → En → Prop} {m m1 m2 a b : M Fl}
end
end ZP


namespace ZP
open PySem ZD
section
variable {α β γ X Y R σ : Type} {G G' G0 G1 : List PV} {L L' L2 N N2 vs : List Nat} {en en1 en' : En} {i : Nat} {P : R → Fl → En → Prop} {m m1 m2 a b : M Fl}
def dctF : PyData → PR (List (PyData × PyData))
  | .dict ds => .ok ds
  | _ => .bad
def getR (ds : List (PyData × PyData)) (y z : PyData) : PR PyData := match getF ds y z with
  | some r => .ok r
  | none => .bad
def get2P (dp dq dw : PR PyData) : PR PyData := dp.bind fun c => (dctF c).bind fun ds => dq.bind fun y => dw.bind fun z => getR ds y z
def get2D (dp dq dw : Dm PyData) : Dm PyData := bD dp fun c => bD (PQ (dctF c)) fun ds => bD dq fun y => bD dw fun z => PQ (getR ds y z)
theorem J_get2 {p q : M Od} {w : M PyData} {dp dq dw : Dm PyData} (hp : JO G L N p dp) (hq : JO G [] N2 q dq) (hw : JE G [] w dw) : JE G L (mget2 p q w) (get2D dp dq dw) :=
  fun en Qd Ed Q E he hd hqq hE => wq_bnd (hp en _ Ed _ E he hd (fun b hb x en1 hl hx he1 hf => by
    cases b with
    | dict ds =>
      unfold WQ
      simp only [hl, dctE, if_true]
      refine wq_bnd (hq en1 _ Ed _ E he1 hb (fun c hc y en2 hl2 hy he2 hf2 => wq_bnd (hw en2 _ Ed _ E he2 hc (fun z hz u en3 hu he3 hf3 => ?_) hE)) hE)
      subst hu
      have l1 := look_fr hl hx (hf2.trans hf3) (fun j h => nomatch h)
      have l2 := look_fr hl2 hy hf3 (fun j h => nomatch h)
      unfold WQ
      simp only [l1, l2]
      cases g : getF ds c u with
      | none =>
        have e : getR ds c u = .bad := by unfold getR; rw [g]
        rw [e] at hz
        exact False.elim hz
      | some r =>
        have e : getR ds c u = .ok r := by unfold getR; rw [g]
        rw [e] at hz
        exact hqq r hz r en3 rfl he3 ((hf.trans (hf2.mono fun j h => nomatch h)).trans (hf3.mono fun j h => nomatch h))
    | _ => exact False.elim hb) hE)
theorem J_get2P {p q : M Od} {w : M PyData} {dp dq dw : PR PyData} (hp : JO G L N p (PQ dp)) (hq : JO G [] N2 q (PQ dq)) (hw : JE G [] w (PQ dw)) : JE G L (mget2 p q w) (PQ (get2P dp dq dw)) := by
  have e : PQ (get2P dp dq dw) = get2D (PQ dp) (PQ dq) (PQ dw) := by unfold get2P get2D; simp only [pq_bind]
  rw [e]; exact J_get2 hp hq hw
def dstF : PyData → PyData → PyData → PR PyData
  | .dict kvs, z, y => if (kOk kvs z && decide (kvs.length < 2000000)) = true then .ok (.dict (putD kvs z y)) else .bad
  | _, _, _ => .bad
theorem wr_atD {c : PyData} (g : G[i]? = some (.ownd c)) (he : ER G en) : isDs en[i]? = true ∧ ∀ g' : PyData → Option (PyData × PyData), ∀ c' x, g' c = some (c', x) → (∃ kvs, c' = .dict kvs) → ∃ en', wr i g' en = .ok x en' ∧ ER (G.set i (.ownd c')) en' := by
  obtain ⟨s, hs, rfl, ⟨xs, rfl⟩⟩ := er_get he g
  exact ⟨by rw [hs]; rfl, fun g' c' x h hl => ⟨en.set i (.ow c'), by simp only [wr, hs, h], er_set he ⟨rfl, hl⟩⟩⟩
theorem dst_cases (c z y : PyData) : (∃ kvs, dstF c z y = .ok (.dict kvs) ∧ gDSt z y c = some (.dict kvs, .none)) ∨ dstF c z y = .bad := by
  cases c with
  | dict kvs =>
    by_cases h : (kOk kvs z && decide (kvs.length < 2000000)) = true
    · exact .inl ⟨putD kvs z y, by simp only [dstF, if_pos h], by simp only [gDSt, if_pos h]⟩
    · exact .inr (by simp only [dstF, if_neg h])
  | _ => exact .inr rfl
theorem RS_dst {c : PyData} {my : M PyData} {mj : M Od} {d dj : Dm PyData} {d2 : PyData → Dm R} (g : G[i]? = some (.ownd c)) (h : JE G L my d) (hj : JO G L N mj dj) (k : ∀ c', RS (G.set i (.ownd c')) m2 (d2 c') P) : RS G (mseq (mdst i my mj) m2) (bD d fun y => bD dj fun z => bD (PQ (dstF c z y)) d2) P :=
  fun en Qd Ed Q E he hd hq hE => wq_seq (wq_bnd (h en _ Ed _ E he hd (fun y hy x en1 hx he1 _ => by
    subst hx
    have h0 := (wr_atD g he1).1
    unfold WQ chk
    simp only [h0, if_true]
    refine wq_bnd (hj en1 _ Ed _ E he1 hy (fun z hz o en2 ho _ he2 _ => ?_) fun c hc en' _ => hE c hc en')
    rcases dst_cases c z x with ⟨kvs, h2, h3⟩ | h1
    · simp only [bD, h2] at hz
      obtain ⟨en3, q1, q2⟩ := (wr_atD g he2).2 _ _ _ h3 ⟨_, rfl⟩
      refine wq_eq (a := Fl.nx) (en1 := en3) ?_ (k _ en3 Qd Ed Q E q2 hz hq hE)
      simp only [ho]
      rw [bnd_ok' q1]
      rfl
    · simp only [bD, h1] at hz; exact hz.elim) fun c hc en' _ => hE c hc en'))
theorem RS_dstP {c : PyData} {my : M PyData} {mj : M Od} {d dj : PR PyData} {d2 : PyData → PR R} (g : G[i]? = some (.ownd c)) (h : JE G L my (PQ d)) (hj : JO G L N mj (PQ dj)) (k : ∀ c', RS (G.set i (.ownd c')) m2 (PQ (d2 c')) P) : RS G (mseq (mdst i my mj) m2) (PQ (d.bind fun y => dj.bind fun z => (dstF c z y).bind d2)) P := by
  simp only [pq_bind]; exact RS_dst g h hj k
end
end ZP


namespace ZP
open PySem ZD
section
variable {α β γ X Y R σ : Type} {G G' G0 G1 : List PV} {L N vs : List Nat} {en en1 en' : En} {i : Nat}
variable {P : R → Fl → En → Prop} {m m1 m2 a b : M Fl}
def RT (G : List PV) (m : M Fl) (d : Dm R) (P : R → Fl → En → Prop) : Prop :=
  ∀ (en : En) (Qd : R → Prop) (Ed : String → Prop) (Q : Fl → En → Prop) (E : String → En → Prop), ER G en → d Qd Ed →
    (∀ r, Qd r → ∀ fl en', P r fl en' → Q fl en') → (∀ c, Ed c → ∀ en', ER G en' → E c en') → WQ m en Q E
end
end ZP


namespace ZP
open PySem ZD
section
variable {α β γ X Y R σ : Type} {G G' G0 G1 : List PV} {L L' L2 N N2 vs : List Nat} {en en1 en' : En} {i j l : Nat} {P : R → Fl → En → Prop} {m m1 m2 a b : M Fl}
end
end ZP


namespace ZP
open PySem ZD
section
variable {α β γ X Y R σ : Type} {G G' G0 G1 : List PV} {L L' L2 N N2 vs : List Nat} {en en1 en' : En} {i j l : Nat} {P : R → Fl → En → Prop} {m m1 m2 a b : M Fl} {all : List PyData} {d0 : PyData}
end
end ZP


namespace ZP
open PySem ZD
section
variable {G : List PV} {L L2 N N2 : List Nat}
theorem getR_of {ds : List (PyData × PyData)} {y z r : PyData} (h : getF ds y z = some r) : getR ds y z = .ok r := by unfold getR; rw [h]
theorem getR_no {ds : List (PyData × PyData)} {y z : PyData} (h : getF ds y z = none) : getR ds y z = .bad := by unfold getR; rw [h]
theorem J_get2v {m : M Vl} {q : M Od} {w : M PyData} {dp dq dw : Dm PyData} (hp : J G L VK m dp) (hq : JO G [] N2 q dq) (hw : JE G L2 w dw) (hn : ∀ j ∈ L2, j ∉ N2) (hs : ∀ j ∈ L2, j ∈ L) : JE G L (mget2v m q w) (get2D dp dq dw) :=
  fun en Qd Ed Q E he hd hqq hE => wq_bnd (hp en _ Ed _ E he hd (fun b hb x en1 hx he1 hf => by
    obtain ⟨rfl, ds, rfl⟩ := hx
    refine wq_bnd (hq en1 _ Ed _ E he1 hb (fun c hc y en2 hl2 hy he2 hf2 => wq_bnd (hw en2 _ Ed _ E he2 hc (fun z hz u en3 hu he3 hf3 => ?_) hE)) hE)
    subst hu
    have l2 := look_fr hl2 hy hf3 hn
    unfold WQ
    simp only [l2]
    cases g : getF ds c u with
    | none => rw [getR_no g] at hz; exact hz.elim
    | some r => rw [getR_of g] at hz; exact hqq r hz r en3 rfl he3 (hf.trans ((hf2.mono fun j h => nomatch h).trans (hf3.mono hs)))) hE)
theorem J_get2vP {m : M Vl} {q : M Od} {w : M PyData} {dp dq dw : PR PyData} (hp : J G L VK m (PQ dp)) (hq : JO G [] N2 q (PQ dq)) (hw : JE G L2 w (PQ dw)) (hn : ∀ j ∈ L2, j ∉ N2) (hs : ∀ j ∈ L2, j ∈ L) : JE G L (mget2v m q w) (PQ (get2P dp dq dw)) := by
  have e : PQ (get2P dp dq dw) = get2D (PQ dp) (PQ dq) (PQ dw) := by unfold get2P get2D; simp only [pq_bind]
  rw [e]; exact J_get2v hp hq hw hn hs
theorem J_lkO {p : M Od} {d : Dm PyData} (h : JO G L N p d) : JE G L (lkO p) d :=
  fun en Qd Ed Q E he hd hq hE => wq_bnd (h en Qd Ed _ E he hd (fun b hb x en1 hl _ he1 hf => by
    unfold WQ
    simp only [hl]
    exact hq b hb b en1 rfl he1 hf) hE)
def itxF (F : List PyData → Option (List PyData)) : PyData → PR PyData
  | .dict ds => if hdK ds = true then (match F (ds.map pairP) with
    | some r => .ok (.list r)
    | none => .bad) else .bad
  | _ => .bad
theorem J_itx {F : List PyData → Option (List PyData)} {m : M PyData} {d : Dm PyData} (h : JE G L m d) : J G L VL (mItX F m) (bD d fun a => PQ (itxF F a)) := J_bnd h fun b x hx => by
  subst hx
  cases x with
  | dict ds =>
    show J G L VL (if hdK ds = true then (match F (ds.map pairP) with
      | some res => ret (.ow (.list res))
      | none => ZD.fail) else ZD.fail) (PQ (if hdK ds = true then (match F (ds.map pairP) with
      | some r => .ok (.list r)
      | none => .bad) else .bad))
    by_cases hh : hdK ds = true
    · rw [if_pos hh, if_pos hh]
      cases F (ds.map pairP) with
      | none => exact J_bad
      | some r => exact J_ret ⟨rfl, _, rfl⟩
    · rw [if_neg hh, if_neg hh]; exact J_bad
  | _ => exact J_bad
theorem J_itxP {F : List PyData → Option (List PyData)} {m : M PyData} {d : PR PyData} (h : JE G L m (PQ d)) : J G L VL (mItX F m) (PQ (d.bind (itxF F))) := by rw [pq_bind]; exact J_itx h
theorem J_op1L {V : Vl → PyData → Prop} {ox : Out → PR PyData} {f : PyData → Out} {m : M PyData} {d : Dm PyData} (ov : OutV V ox) (h : JE G L m d) : J G L V (op1L f m) (b1 d fun a => ox (f a)) := J_bnd h fun b x hx => by subst hx; exact ov G L (f x)
theorem J_op1LP {V : Vl → PyData → Prop} {ox : Out → PR PyData} {f : PyData → Out} {m : M PyData} {d : PR PyData} (ov : OutV V ox) (h : JE G L m (PQ d)) : J G L V (op1L f m) (PQ (o1 d fun a => ox (f a))) := by rw [pq_o1]; exact J_op1L ov h
end
end ZP


namespace ZP
open PySem ZD
section
variable {G : List PV} {L L2 N N2 : List Nat}
end
end ZP


namespace ZP
open PySem ZD
section
variable {α β γ X Y R σ : Type} {G G' G0 G1 : List PV} {L L' L2 N N2 vs : List Nat} {en en1 en' : En} {i : Nat} {P : R → Fl → En → Prop} {m m1 m2 a b : M Fl}
end
end ZP


namespace ZP
open PySem ZD
section
variable {G : List PV} {i : Nat}
end
section
variable {P : R → Fl → En → Prop} {m m1 m2 a b : M Fl}
end
end ZP


namespace ZP
open PySem ZD
section
variable {R : Type} {G : List PV} {i : Nat} {P : R → Fl → En → Prop} {m : M Fl} {o : Option PyData}
end
end ZP


namespace ZP
open PySem ZD
section
variable {σ R ρ : Type} {G : List PV} {L : List Nat} {P : R → Fl → En → Prop} {m2 : M Fl}
end
end ZP


namespace ZP
open PySem ZD
section
variable {G : List PV} {L : List Nat}
end
end ZP


namespace ZP
open ZD PySem PySem.Spec L2 ZG
section
variable {G : List PV} {L Lb : List Nat} {en en1 en' : En} {i l w : Nat} {R : Type} {m2 : M Fl} {P : R → Fl → En → Prop}
end
end ZP


namespace ZP
open ZD PySem PySem.Spec L2 ZG
section
variable {P : R → Fl → En → Prop} {m m1 m2 a b : M Fl}
end
end ZP


namespace ZP
open PySem ZD
section
variable {G : List PV} {L : List Nat}
end
end ZP


namespace ZP
open PySem ZD
section
variable {R : Type} {G : List PV} {L L1 L2 N N1 N2 : List Nat} {i : Nat} {P : R → Fl → En → Prop} {m2 : M Fl}
end
end ZP


namespace ZP
open PySem ZD
section
variable {α β γ σ ρ : Type}
@[simp] theorem bind_ok (a : α) (f : α → PR β) : (PR.ok a).bind f = f a := id rfl
@[simp] theorem bind_bad (f : α → PR β) : (PR.bad).bind f = .bad := id rfl
@[simp] theorem noe_ok (a : α) : (PR.ok a).noe = .ok a := id rfl
@[simp] theorem o1_ok (a : PyData) (f : PyData → PR PyData) : o1 (.ok a) f = f a := id rfl
@[simp] theorem o2_ok (a b : PyData) (f : PyData → PyData → PR PyData) : o2 (.ok a) (.ok b) f = f a b := id rfl
@[simp] theorem outR_d (x : PyData) : outR (.d x) = .ok x := id rfl
@[simp] theorem outR_nl (x : List PyData) : outR (.nl x) = .ok (.list x) := id rfl
@[simp] theorem outR_nt (x : List PyData) : outR (.nt x) = .ok (.tuple x) := id rfl
@[simp] theorem outS_d (x : PyData) : outS (.d x) = .ok x := id rfl
@[simp] theorem outS_nt (x : List PyData) : outS (.nt x) = .ok (.tuple x) := id rfl
@[simp] theorem outL_nl (x : List PyData) : outL (.nl x) = .ok (.list x) := id rfl
@[simp] theorem outK_nd (x : List (PyData × PyData)) : outK (.nd x) = .ok (.dict x) := id rfl
@[simp] theorem tstP_ok (b : Bool) : tstP (.ok (.bool b)) = .ok b := id rfl
@[simp] theorem notP_ok (b : Bool) : notP (.ok b) = .ok (!b) := id rfl
@[simp] theorem ifP_ok (b : Bool) (p q : PR α) : ifP (.ok b) p q = if b = true then p else q := id rfl
@[simp] theorem andP_f (q : PR Bool) : andP (.ok false) q = .ok false := id rfl
@[simp] theorem andP_t (q : PR Bool) : andP (.ok true) q = q := id rfl
@[simp] theorem andP_ok (a b : Bool) : andP (.ok a) (.ok b) = .ok (a && b) := by cases a <;> rfl
@[simp] theorem orP_f (q : PR Bool) : orP (.ok false) q = q := id rfl
@[simp] theorem orP_t (q : PR Bool) : orP (.ok true) q = .ok true := id rfl
@[simp] theorem orP_ok (a b : Bool) : orP (.ok a) (.ok b) = .ok (a || b) := by cases a <;> rfl
@[simp] theorem vandP_f (q : PR PyData) : vandP (.ok (.bool false)) q = .ok (.bool false) := id rfl
@[simp] theorem vandP_t (q : PR PyData) : vandP (.ok (.bool true)) q = q := id rfl
@[simp] theorem vandP_ok (a b : Bool) : vandP (.ok (.bool a)) (.ok (.bool b)) = .ok (.bool (a && b)) := by cases a <;> rfl
@[simp] theorem vorP_f (q : PR PyData) : vorP (.ok (.bool false)) q = q := id rfl
@[simp] theorem vorP_t (q : PR PyData) : vorP (.ok (.bool true)) q = .ok (.bool true) := id rfl
@[simp] theorem vorP_ok (a b : Bool) : vorP (.ok (.bool a)) (.ok (.bool b)) = .ok (.bool (a || b)) := by cases a <;> rfl
@[simp] theorem vnotP_ok (a : Bool) : vnotP (.ok (.bool a)) = .ok (.bool (!a)) := id rfl
@[simp] theorem acons_ok (a : PyData) (as : List PyData) : aconsP (.ok a) (.ok as) = .ok (a :: as) := id rfl
@[simp] theorem st1_ok (a : PyData) : st1 (.ok a) = .ok (some a) := id rfl
@[simp] theorem stP_ok2 (b : Bool) (y : PyData) : stP (.ok b) (.ok y) = .ok (if b = true then some y else none) := by cases b <;> rfl
@[simp] theorem stP_t (e : PR PyData) : stP (.ok true) e = e.bind fun y => .ok (some y) := id rfl
@[simp] theorem stP_f (e : PR PyData) : stP (.ok false) e = .ok none := id rfl
@[simp] theorem seqF_l (ds : List PyData) : seqF (.list ds) = .ok ds := id rfl
@[simp] theorem seqF_t (ds : List PyData) : seqF (.tuple ds) = .ok ds := id rfl
@[simp] theorem enumF_l (ds : List PyData) : enumF (.list ds) = .ok (enumD ds) := id rfl
@[simp] theorem enumF_t (ds : List PyData) : enumF (.tuple ds) = .ok (enumD ds) := id rfl
@[simp] theorem posF_i (i : Int) : posF (.int i) = .ok (some i) := id rfl
@[simp] theorem slcP_ok (ox : Out → PR PyData) (d : PyData) (l u : Option Int) : slcP ox (.ok d) (.ok l) (.ok u) = ox (oSl l u d) := id rfl
@[simp] theorem chainP_ok (f g : PyData → PyData → Out) (a b c : PyData) : chainP f g (.ok a) (.ok b) (.ok c) = chB (f a b) (outS (g b c)) (.ok (.bool false)) .bad := id rfl
@[simp] theorem chB_b (x : Bool) (k z e : α) : chB (.d (.bool x)) k z e = if x = true then k else z := by cases x <;> rfl
theorem mcompP_ok (ds : List PyData) (f : PyData → PR (Option PyData)) : mcompP (.ok ds) f = mcompF f ds := id rfl
theorem mallP_ok (ds : List PyData) (f : PyData → PR (Option PyData)) : mallP (.ok ds) f = (allP f ds).noe.bind fun b => .ok (.bool b) := id rfl
abbrev I (l : List Int) : List PyData := l.map .int
/-- 0, 1, .. -/
def ran (n : Nat) : List Int := (List.range n).map fun (i : Nat) => (i : Int)
theorem rngL0 (n : Nat) : rngL 0 n = I (ran n) := by simp [rngL, ran, List.map_map, Function.comp_def]
@[simp] theorem ran_len (n : Nat) : (ran n).length = n := by simp [ran]
/-- rows of anything that are written as trees by e -/
theorem allP_m {f : PyData → PR (Option PyData)} {e : α → PyData} {g : α → Bool} (l : List α) (h : ∀ x ∈ l, f (e x) = .ok (some (.bool (g x)))) : allP f (l.map e) = .ok (l.all g) := by
  induction l with
  | nil => rfl
  | cons x l ih =>
    rw [List.map_cons]
    unfold allP
    rw [h x List.mem_cons_self, List.all_cons]
    cases hg : g x with
    | true => simp only [bind_ok, Bool.true_and]; exact ih fun y hy => h y (List.mem_cons_of_mem _ hy)
    | false => rfl
theorem compP_m {f : PyData → PR (Option PyData)} {e : α → PyData} {e2 : β → PyData} {g : α → Option β} (l : List α) (h : ∀ x ∈ l, f (e x) = .ok ((g x).map e2)) : compP f (l.map e) = .ok ((l.filterMap g).map e2) := by
  induction l with
  | nil => rfl
  | cons x l ih =>
    rw [List.map_cons]
    unfold compP
    rw [h x List.mem_cons_self, ih fun y hy => h y (List.mem_cons_of_mem _ hy), List.filterMap_cons]
    cases g x <;> rfl
theorem compP_f {f : PyData → PR (Option PyData)} {e : α → PyData} {p : α → Bool} (l : List α) (h : ∀ x ∈ l, f (e x) = .ok (if p x = true then some (e x) else none)) : compP f (l.map e) = .ok ((l.filter p).map e) := by
  induction l with
  | nil => rfl
  | cons x l ih =>
    rw [List.map_cons]
    unfold compP
    rw [h x List.mem_cons_self, ih fun y hy => h y (List.mem_cons_of_mem _ hy), List.filter_cons]
    cases p x <;> rfl
theorem compP_mp {f : PyData → PR (Option PyData)} {e : α → PyData} {e2 : β → PyData} {g : α → β} (l : List α) (h : ∀ x ∈ l, f (e x) = .ok (some (e2 (g x)))) : compP f (l.map e) = .ok ((l.map g).map e2) := by
  induction l with
  | nil => rfl
  | cons x l ih =>
    rw [List.map_cons]
    unfold compP
    rw [h x List.mem_cons_self, ih fun y hy => h y (List.mem_cons_of_mem _ hy)]
    rfl
theorem mcomp_of {f : PyData → PR (Option PyData)} {ds ys : List PyData} (hl : ds.length ≤ 2000000) (h : compP f ds = .ok ys) : mcompP (.ok ds) f = .ok (.list ys) := by
  rw [mcompP_ok]; unfold mcompF; rw [if_pos hl, h]; rfl
theorem mall_of {f : PyData → PR (Option PyData)} {ds : List PyData} {b : Bool} (h : allP f ds = .ok b) : mallP (.ok ds) f = .ok (.bool b) := by rw [mallP_ok, h]; rfl
@[simp] theorem oAdd_i (i j : Int) : oAdd (.int i) (.int j) = .d (.int (i + j)) := id rfl
@[simp] theorem oSub_i (i j : Int) : oSub (.int i) (.int j) = .d (.int (i - j)) := id rfl
@[simp] theorem oI1_i (f : Int → Int) (i : Int) : oI1 f (.int i) = .d (.int (f i)) := id rfl
@[simp] theorem oLe_i (i j : Int) : oLe (.int i) (.int j) = .d (.bool (decide (i ≤ j))) := id rfl
@[simp] theorem oLt_i (i j : Int) : oLt (.int i) (.int j) = .d (.bool (decide (i < j))) := id rfl
@[simp] theorem oGe_i (i j : Int) : oGe (.int i) (.int j) = .d (.bool (decide (j ≤ i))) := id rfl
@[simp] theorem oGt_i (i j : Int) : oGt (.int i) (.int j) = .d (.bool (decide (j < i))) := id rfl
@[simp] theorem oTest_d (f : PyData → Bool) (d : PyData) : oTest f d = .d (.bool (f d)) := id rfl
@[simp] theorem oLen_l (ds : List PyData) : oLen (.list ds) = .d (.int ds.length) := id rfl
@[simp] theorem oLen_t (ds : List PyData) : oLen (.tuple ds) = .d (.int ds.length) := id rfl
@[simp] theorem oTuple_l (ds : List PyData) : oTuple (.list ds) = .nt ds := id rfl
@[simp] theorem oTuple_t (ds : List PyData) : oTuple (.tuple ds) = .d (.tuple ds) := id rfl
@[simp] theorem oList_l (ds : List PyData) : oList (.list ds) = .nl ds := id rfl
@[simp] theorem oList_t (ds : List PyData) : oList (.tuple ds) = .nl ds := id rfl
theorem oAdd_l {x y : List PyData} (h : x.length + y.length ≤ 2000000) : oAdd (.list x) (.list y) = .nl (x ++ y) := if_pos h
def shN (n : Nat) (d : PyData) : Bool := d.canLay0 && decide (d.depth ≤ n)
theorem shaped_shN (d : PyData) : SeqAt.shaped d = shN 64 d := id rfl
theorem canAll_eq (ds : List PyData) : PyData.canLayAll0 ds = ds.all PyData.canLay0 := by
  induction ds with
  | nil => rfl
  | cons d ds ih => rw [PyData.canLayAll0, ih, List.all_cons]
theorem depthAll_le (ds : List PyData) (n : Nat) : decide (PyData.depthAll ds ≤ n) = ds.all fun d => decide (d.depth ≤ n) := by
  induction ds with
  | nil => simp [PyData.depthAll]
  | cons d ds ih =>
    rw [PyData.depthAll, List.all_cons, ← ih]
    by_cases h1 : d.depth ≤ n <;> by_cases h2 : PyData.depthAll ds ≤ n <;> simp [h1, h2] <;> omega
theorem all_and (p q : PyData → Bool) (ds : List PyData) : (ds.all p && ds.all q) = ds.all fun d => p d && q d := by
  induction ds with
  | nil => rfl
  | cons d ds ih => rw [List.all_cons, List.all_cons, List.all_cons, ← ih]; cases p d <;> cases q d <;> simp
@[simp] theorem shN_i (n : Nat) (i : Int) : shN n (.int i) = true := by simp [shN, PyData.canLay0, PyData.depth]
@[simp] theorem shN_b (n : Nat) (i : Bool) : shN n (.bool i) = true := by simp [shN, PyData.canLay0, PyData.depth]
@[simp] theorem shN_n (n : Nat) : shN n .none = true := by simp [shN, PyData.canLay0, PyData.depth]
theorem shN_s (n : Nat) (x : Str) : shN n (.str x) = PyData.strOk x := by simp [shN, PyData.canLay0, PyData.depth]
@[simp] theorem shN_l (n : Nat) (ds : List PyData) : shN (n + 1) (.list ds) = ds.all (shN n) := by
  unfold shN
  rw [PyData.canLay0, PyData.depth, canAll_eq, show (decide (PyData.depthAll ds + 1 ≤ n + 1)) = decide (PyData.depthAll ds ≤ n) by simp, depthAll_le, all_and]
@[simp] theorem shN_t (n : Nat) (ds : List PyData) : shN (n + 1) (.tuple ds) = ds.all (shN n) := by
  unfold shN
  rw [PyData.canLay0, PyData.depth, canAll_eq, show (decide (PyData.depthAll ds + 1 ≤ n + 1)) = decide (PyData.depthAll ds ≤ n) by simp, depthAll_le, all_and]
theorem shN_up {n m : Nat} {d : PyData} (h : shN n d = true) (k : n ≤ m) : shN m d = true := by
  unfold shN at *
  simp only [Bool.and_eq_true, decide_eq_true_eq] at *
  exact ⟨h.1, by omega⟩
theorem oEq_of {d e : PyData} {n m : Nat} (h : shN n d = true) (k : shN m e = true) (hn : n ≤ 64) (hm : m ≤ 64) : oEq d e = .d (.bool (PyData.eqv d e)) := by
  unfold oEq; rw [shaped_shN, shaped_shN, shN_up h hn, shN_up k hm]; rfl
theorem oNe_of {d e : PyData} {n m : Nat} (h : shN n d = true) (k : shN m e = true) (hn : n ≤ 64) (hm : m ≤ 64) : oNe d e = .d (.bool (!PyData.eqv d e)) := by
  unfold oNe; rw [shaped_shN, shaped_shN, shN_up h hn, shN_up k hm]; rfl
@[simp] theorem oEq_i (i j : Int) : oEq (.int i) (.int j) = .d (.bool (i == j)) := by rw [oEq_of (shN_i 0 i) (shN_i 0 j) (by decide) (by decide), PyData.eqv]
@[simp] theorem oNe_i (i j : Int) : oNe (.int i) (.int j) = .d (.bool (!(i == j))) := by rw [oNe_of (shN_i 0 i) (shN_i 0 j) (by decide) (by decide), PyData.eqv]
@[simp] theorem oEq_b (i j : Bool) : oEq (.bool i) (.bool j) = .d (.bool (i == j)) := by rw [oEq_of (shN_b 0 i) (shN_b 0 j) (by decide) (by decide), PyData.eqv]
@[simp] theorem oNe_b (i j : Bool) : oNe (.bool i) (.bool j) = .d (.bool (!(i == j))) := by rw [oNe_of (shN_b 0 i) (shN_b 0 j) (by decide) (by decide), PyData.eqv]
theorem eqv_nilL (ds : List PyData) : PyData.eqv (.list ds) (.list []) = ds.isEmpty := by rw [PyData.eqv]; cases ds <;> simp [PyData.eqvAll]
/-- a row against the empty one -/
theorem oEq_nilL {ds : List PyData} (h : ds.all (shN 60) = true) : oEq (.list ds) (.list []) = .d (.bool ds.isEmpty) := by
  rw [oEq_of (n := 61) (m := 1) (by rw [shN_l]; exact h) (by simp) (by decide) (by decide), eqv_nilL]
@[simp] theorem oIs_tn (n : Bool) (ds : List PyData) : oIs n (.tuple ds) .none = .d (.bool n) := by cases n <;> rfl
@[simp] theorem oIs_ln (n : Bool) (ds : List PyData) : oIs n (.list ds) .none = .d (.bool n) := by cases n <;> rfl
@[simp] theorem oIs_in (n : Bool) (i : Int) : oIs n (.int i) .none = .d (.bool n) := by cases n <;> rfl
@[simp] theorem oIs_sn (n : Bool) (i : Str) : oIs n (.str i) .none = .d (.bool n) := by cases n <;> rfl
@[simp] theorem oIs_bn (n : Bool) (i : Bool) : oIs n (.bool i) .none = .d (.bool n) := by cases n <;> rfl
@[simp] theorem oIs_nn (n : Bool) : oIs n .none .none = .d (.bool (!n)) := by cases n <;> rfl
@[simp] theorem oIs_bb (n i j : Bool) : oIs n (.bool i) (.bool j) = .d (.bool (xor n (i == j))) := by cases n <;> cases i <;> cases j <;> rfl
theorem eqv_ii (i j : Int) : PyData.eqv (.int i) (.int j) = (i == j) := by rw [PyData.eqv]
theorem atI_n {ds : List α} {j : Nat} (h : j < ds.length) : L2.atI ds (j : Int) = ds[j]? := by
  have h1 : (j : Int) < (ds.length : Int) := by omega
  simp [L2.atI, L2.ixN, h]
theorem atI_z {ds : List α} {z : Int} (h0 : 0 ≤ z) (h : z < ds.length) : L2.atI ds z = ds[z.toNat]? := by
  obtain ⟨n, rfl⟩ := Int.eq_ofNat_of_zero_le h0
  rw [atI_n (by omega)]; rfl
theorem oIx_t {ds : List PyData} {z : Int} {d : PyData} (h0 : 0 ≤ z) (h : ds[z.toNat]? = some d) : oIx (.tuple ds) (.int z) = .d d := by
  have hl := (List.getElem?_eq_some_iff.mp h).1
  show gotD (L2.atI ds z) = _
  rw [atI_z h0 (by omega), h]; rfl
theorem cut_to {xs : List PyData} {z : Int} (h0 : 0 ≤ z) : cutD xs none (some z) = xs.take z.toNat := by
  simp only [cutD, HT.sIx, if_neg (show ¬ z < 0 by omega), List.drop_zero, Nat.sub_zero]
  by_cases h : z.toNat ≤ xs.length
  · rw [Nat.min_eq_left h]
  · rw [Nat.min_eq_right (by omega), List.take_of_length_le (Nat.le_refl _), List.take_of_length_le (by omega)]
@[simp] theorem oSl_t (lo hi : Option Int) (ds : List PyData) : oSl lo hi (.tuple ds) = .nt (cutD ds lo hi) := id rfl
@[simp] theorem oSl_l (lo hi : Option Int) (ds : List PyData) : oSl lo hi (.list ds) = .nl (cutD ds lo hi) := id rfl
/-- alike places stand to each other -/
inductive F2 {α β : Type} (R : α → β → Prop) : List α → List β → Prop
  | nil : F2 R [] []
  | cons {a : α} {b : β} {as : List α} {bs : List β} : R a b → F2 R as bs → F2 R (a :: as) (b :: bs)
variable {Q : α → Prop} {E : String → Prop}
@[simp] theorem spT_t (n : Nat) (ds : List PyData) (k : List PyData → PR (Option PyData)) (h : ds.length = n) : spT n (.tuple ds) k = k ds := by
  show ((if ds.length = n then PR.ok ds else .bad).bind k) = _
  rw [if_pos h]; rfl
@[simp] theorem lstF_nil : lstF [] = .ok (.list []) := id rfl
@[simp] theorem tupF_nil : tupF [] = .ok (.tuple []) := id rfl
@[simp] theorem sp2 (a b : PyData) (k : List PyData → PR (Option PyData)) : spT 2 (.tuple [a, b]) k = k [a, b] := id rfl
@[simp] theorem sp3 (a b c : PyData) (k : List PyData → PR (Option PyData)) : spT 3 (.tuple [a, b, c]) k = k [a, b, c] := id rfl
end
end ZP


namespace ZP
open PySem ZD
section
variable {α β γ σ ρ : Type} {Q : α → Prop} {E : String → Prop}
@[irreducible] def Ok (d : Dm α) (Q : α → Prop) (E : String → Prop) : Prop := d Q E
theorem ok_iff (d : Dm α) (Q : α → Prop) (E : String → Prop) : Ok d Q E = d Q E := by unfold Ok; rfl
theorem ok_of {d : Dm α} (h : Ok d Q E) : d Q E := by rw [ok_iff] at h; exact h
theorem of_ok {d : Dm α} (h : d Q E) : Ok d Q E := by rw [ok_iff]; exact h
theorem bind_eq {p : PR β} {a : β} {f : β → PR α} {r : PR α} (h : p = .ok a) (k : f a = r) : p.bind f = r := by rw [h]; exact k
@[simp] theorem tupF1 (a : PyData) : tupF [a] = .ok (.tuple [a]) := id rfl
@[simp] theorem tupF2 (a b : PyData) : tupF [a, b] = .ok (.tuple [a, b]) := id rfl
@[simp] theorem tupF3 (a b c : PyData) : tupF [a, b, c] = .ok (.tuple [a, b, c]) := id rfl
@[simp] theorem tupF4 (a b c d : PyData) : tupF [a, b, c, d] = .ok (.tuple [a, b, c, d]) := id rfl
@[simp] theorem lstF1 (a : PyData) : lstF [a] = .ok (.list [a]) := id rfl
@[simp] theorem lstF2 (a b : PyData) : lstF [a, b] = .ok (.list [a, b]) := id rfl
@[simp] theorem lstF3 (a b c : PyData) : lstF [a, b, c] = .ok (.list [a, b, c]) := id rfl
@[simp] theorem lstF4 (a b c d : PyData) : lstF [a, b, c, d] = .ok (.list [a, b, c, d]) := id rfl
end
end ZP


namespace ZP
open PySem ZD
theorem max2_i (a b : Int) : oMax2 (.int a) (.int b) = .d (.int (max a b)) := by
  show Out.d (.int (if a < b then b else a)) = _
  congr 2
  split <;> omega
theorem beq_dec (a b : Int) : (a == b) = decide (a = b) := by by_cases e : a = b <;> simp [e]
section
variable {α : Type} {Q : PyData → Prop} {E : String → Prop}
end
structure EncOk {α : Type} [DecidableEq α] (n : Nat) (e : α → PyData) : Prop where
  sh : ∀ a, shN n (e a) = true
  eq : ∀ a b, PyData.eqv (e a) (e b) = decide (a = b)
theorem eqv_tt (xs ys : List PyData) : PyData.eqv (.tuple xs) (.tuple ys) = PyData.eqvAll xs ys := by rw [PyData.eqv]
theorem eqv_ll (xs ys : List PyData) : PyData.eqv (.list xs) (.list ys) = PyData.eqvAll xs ys := by rw [PyData.eqv]
theorem eqvAll_nil : PyData.eqvAll [] [] = true := by rw [PyData.eqvAll]
theorem eqvAll_cons (x y : PyData) (xs ys : List PyData) : PyData.eqvAll (x :: xs) (y :: ys) = (PyData.eqv x y && PyData.eqvAll xs ys) := by rw [PyData.eqvAll]
theorem eqv_ss (x y : Str) : PyData.eqv (.str x) (.str y) = (x == y) := by rw [PyData.eqv]
theorem eqvAll_map {α : Type} [DecidableEq α] {e : α → PyData} (h : ∀ a b, PyData.eqv (e a) (e b) = decide (a = b)) : ∀ l m : List α, PyData.eqvAll (l.map e) (m.map e) = decide (l = m)
  | [], [] => by rw [List.map_nil, eqvAll_nil]; rfl
  | [], b :: m => by rw [List.map_nil, List.map_cons]; simp [PyData.eqvAll]
  | a :: l, [] => by rw [List.map_nil, List.map_cons]; simp [PyData.eqvAll]
  | a :: l, b :: m => by
    rw [List.map_cons, List.map_cons, eqvAll_cons, h, eqvAll_map h l m]
    by_cases e1 : a = b <;> by_cases e2 : l = m <;> simp [e1, e2]
section
variable {α β γ δ : Type} [DecidableEq α] [DecidableEq β] [DecidableEq γ] [DecidableEq δ] {n m : Nat} {e : α → PyData} {f : β → PyData} {g : γ → PyData}
theorem enc_int : EncOk 0 PyData.int := ⟨fun a => shN_i 0 a, fun a b => by rw [eqv_ii, beq_dec]⟩
theorem EncOk.up (h : EncOk n e) (k : n ≤ m) : EncOk m e := ⟨fun a => shN_up (h.sh a) k, h.eq⟩
theorem EncOk.tup (h : EncOk n e) : EncOk (n + 1) fun l : List α => PyData.tuple (l.map e) := ⟨fun l => by
  rw [shN_t, List.all_eq_true]; intro d hd; obtain ⟨a, _, rfl⟩ := List.mem_map.mp hd; exact h.sh a, fun a b => by rw [eqv_tt, eqvAll_map h.eq]⟩
theorem EncOk.list (h : EncOk n e) : EncOk (n + 1) fun l : List α => PyData.list (l.map e) := ⟨fun l => by
  rw [shN_l, List.all_eq_true]; intro d hd; obtain ⟨a, _, rfl⟩ := List.mem_map.mp hd; exact h.sh a, fun a b => by rw [eqv_ll, eqvAll_map h.eq]⟩
theorem EncOk.pair (h : EncOk n e) (k : EncOk n f) : EncOk (n + 1) fun p : α × β => PyData.tuple [e p.1, f p.2] := ⟨fun p => by
  rw [shN_t]; simp [h.sh, k.sh], fun a b => by
  rw [eqv_tt, eqvAll_cons, eqvAll_cons, eqvAll_nil, h.eq, k.eq]
  obtain ⟨a1, a2⟩ := a; obtain ⟨b1, b2⟩ := b
  by_cases e1 : a1 = b1 <;> by_cases e2 : a2 = b2 <;> simp [e1, e2]⟩
theorem oEq_enc (h : EncOk n e) (hn : n ≤ 64) (a b : α) : oEq (e a) (e b) = .d (.bool (decide (a = b))) := by rw [oEq_of (h.sh a) (h.sh b) hn hn, h.eq]
theorem oNe_enc (h : EncOk n e) (hn : n ≤ 64) (a b : α) : oNe (e a) (e b) = .d (.bool (!decide (a = b))) := by rw [oNe_of (h.sh a) (h.sh b) hn hn, h.eq]
end
section
variable {α β : Type}
theorem tst_of {p : PR PyData} {b : Bool} (h : p = .ok (.bool b)) : tstP p = .ok b := by rw [h]; rfl
theorem not_of {p : PR Bool} {b c : Bool} (h : p = .ok b) (e : (!b) = c) : notP p = .ok c := by rw [h, ← e]; rfl
theorem and_of {p q : PR Bool} {b c d : Bool} (h : p = .ok b) (k : b = true → q = .ok c) (e : (b && c) = d) : andP p q = .ok d := by
  rw [h, ← e]
  cases b with
  | true => rw [andP_t, k rfl, Bool.true_and]
  | false => rfl
theorem or_of {p q : PR Bool} {b c d : Bool} (h : p = .ok b) (k : b = false → q = .ok c) (e : (b || c) = d) : orP p q = .ok d := by
  rw [h, ← e]
  cases b with
  | false => rw [orP_f, k rfl, Bool.false_or]
  | true => rfl
theorem vand_of {p q : PR PyData} {b c d : Bool} (h : p = .ok (.bool b)) (k : b = true → q = .ok (.bool c)) (e : (b && c) = d) : vandP p q = .ok (.bool d) := by
  rw [h, ← e]
  cases b with
  | true => rw [vandP_t, k rfl, Bool.true_and]
  | false => rfl
theorem vnot_of {p : PR PyData} {b c : Bool} (h : p = .ok (.bool b)) (e : (!b) = c) : vnotP p = .ok (.bool c) := by rw [h, ← e]; rfl
theorem st1_of {p : PR PyData} {y : PyData} (h : p = .ok y) : st1 p = .ok (some y) := by rw [h]; rfl
theorem acons_of {p : PR PyData} {q : PR (List PyData)} {a : PyData} {as : List PyData} (h : p = .ok a) (k : q = .ok as) : aconsP p q = .ok (a :: as) := by rw [h, k]; rfl
/-- an own def called -/
theorem call_of {p : PR (List PyData)} {A : List PyData → PR PyData} {as : List PyData} {r : PyData} (h : p = .ok as) (k : A as = .ok r) : (p.bind fun ds => (A ds).noe) = .ok r := by rw [h, bind_ok, k]; rfl
theorem mcomp_at {it : PR (List PyData)} {f : PyData → PR (Option PyData)} {ds ys : List PyData} (h : it = .ok ds) (hl : ds.length ≤ 2000000) (k : compP f ds = .ok ys) : mcompP it f = .ok (.list ys) := by rw [h]; exact mcomp_of hl k
theorem mall_at {it : PR (List PyData)} {f : PyData → PR (Option PyData)} {ds : List PyData} {b : Bool} (h : it = .ok ds) (k : allP f ds = .ok b) : mallP it f = .ok (.bool b) := by rw [h]; exact mall_of k
/-- comprehensions over encoded rows: filtered, or through a map -/
theorem mcomp_f {it : PR (List PyData)} {f : PyData → PR (Option PyData)} {e : α → PyData} {l : List α} (p : α → Bool) (h : it = .ok (l.map e)) (hl : l.length ≤ 2000000) (k : ∀ x ∈ l, f (e x) = .ok (if p x = true then some (e x) else none)) : mcompP it f = .ok (.list ((l.filter p).map e)) := mcomp_at h (by simpa using hl) (compP_f l k)
theorem mcomp_mp {it : PR (List PyData)} {f : PyData → PR (Option PyData)} {e : α → PyData} {e2 : β → PyData} {l : List α} (g : α → β) (h : it = .ok (l.map e)) (hl : l.length ≤ 2000000) (k : ∀ x ∈ l, f (e x) = .ok (some (e2 (g x)))) : mcompP it f = .ok (.list ((l.map g).map e2)) := mcomp_at h (by simpa using hl) (compP_mp l k)
theorem mcomp_fm {it : PR (List PyData)} {f : PyData → PR (Option PyData)} {e : α → PyData} {e2 : β → PyData} {l : List α} (g : α → Option β) (h : it = .ok (l.map e)) (hl : l.length ≤ 2000000) (k : ∀ x ∈ l, f (e x) = .ok ((g x).map e2)) : mcompP it f = .ok (.list ((l.filterMap g).map e2)) := mcomp_at h (by simpa using hl) (compP_m l k)
end
@[simp] theorem ix_0' (a : PyData) (R : List PyData) : oIx (.tuple (a :: R)) (.int 0) = .d a := oIx_t (by decide) rfl
@[simp] theorem ix_1' (a b : PyData) (R : List PyData) : oIx (.tuple (a :: b :: R)) (.int 1) = .d b := oIx_t (by decide) rfl
@[simp] theorem ix_2' (a b c : PyData) (R : List PyData) : oIx (.tuple (a :: b :: c :: R)) (.int 2) = .d c := oIx_t (by decide) rfl
@[simp] theorem ix_3' (a b c d : PyData) (R : List PyData) : oIx (.tuple (a :: b :: c :: d :: R)) (.int 3) = .d d := oIx_t (by decide) rfl
theorem fnD_vw {np : Nat} {F : Fn} {A : List PyData → Dm PyData} (h : FnD VS np F A) : FnD VW np F A := fun ds Qd ha => by
  obtain ⟨h1, x, en, b, h2, h3, h4⟩ := h ds Qd ha
  exact ⟨h1, x, en, b, h2, vs_vw h3, h4⟩
end ZP


namespace ZP
open PySem ZD
/-- a kind of keys -/
structure KeyE {α : Type} [DecidableEq α] (e : α → PyData) : Prop where
  same : ∀ a b, sameK (e a) (e b) = decide (a = b)
  key : ∀ a, (keyOfD (e a)).isSome = true
section
variable {α β : Type} [DecidableEq α] {e : α → PyData} {f : β → PyData}
def dE (e : α → PyData) (f : β → PyData) (D : List (α × β)) : List (PyData × PyData) := D.map fun p => (e p.1, f p.2)
def putL (D : List (α × β)) (i : α) (v : β) : List (α × β) := if (D.any fun p => decide (p.1 = i)) = true then D.map (fun p => if p.1 = i then (p.1, v) else p) else D ++ [(i, v)]
def getL (D : List (α × β)) (i : α) : Option β := (D.find? fun p => decide (p.1 = i)).map (·.2)
theorem putD_dE (h : KeyE e) (D : List (α × β)) (i : α) (v : β) : putD (dE e f D) (e i) (f v) = dE e f (putL D i v) := by
  unfold putD dE putL
  rw [List.any_map]
  simp only [Function.comp_def, h.same]
  by_cases c : (D.any fun p => decide (p.1 = i)) = true
  · rw [if_pos c, if_pos c, List.map_map, List.map_map]
    refine List.map_congr_left fun p _ => ?_
    simp only [Function.comp_def, h.same]
    by_cases q : p.1 = i
    · rw [if_pos (decide_eq_true q), if_pos q]
    · rw [if_neg (by simpa using q), if_neg q]
  · rw [if_neg c, if_neg c, List.map_append]; rfl
theorem putL_len (D : List (α × β)) (i : α) (v : β) : (putL D i v).length ≤ D.length + 1 := by unfold putL; split <;> simp
theorem putL_keys (D : List (α × β)) (i : α) (v : β) : (putL D i v).map (·.1) = if i ∈ D.map (·.1) then D.map (·.1) else D.map (·.1) ++ [i] := by
  unfold putL
  by_cases c : (D.any fun p => decide (p.1 = i)) = true
  · rw [if_pos c, if_pos (by
      obtain ⟨p, hp, q⟩ := List.any_eq_true.mp c
      exact List.mem_map.mpr ⟨p, hp, of_decide_eq_true q⟩), List.map_map]
    refine List.map_congr_left fun p _ => ?_
    simp only [Function.comp_def]
    split <;> rfl
  · rw [if_neg c, if_neg (by
      intro hm
      obtain ⟨p, hp, q⟩ := List.mem_map.mp hm
      exact c (List.any_eq_true.mpr ⟨p, hp, decide_eq_true q⟩)), List.map_append]; rfl
theorem putL_nodup {D : List (α × β)} (i : α) (v : β) (h : (D.map (·.1)).Nodup) : ((putL D i v).map (·.1)).Nodup := by
  rw [putL_keys]
  split
  · exact h
  · rename_i c
    rw [List.nodup_append]
    exact ⟨h, by simp, fun a ha b hb => by rw [List.mem_singleton] at hb; subst hb; exact fun q => c (q ▸ ha)⟩
theorem getL_put (D : List (α × β)) (i j : α) (v : β) : getL (putL D i v) j = if j = i then some v else getL D j := by
  unfold getL putL
  by_cases c : (D.any fun p => decide (p.1 = i)) = true
  · rw [if_pos c]
    induction D with
    | nil => cases c
    | cons p D ih =>
      rw [List.map_cons, List.find?_cons]
      by_cases q : p.1 = i
      · rw [if_pos q]
        by_cases r : j = i
        · subst r; rw [if_pos rfl]; simp [q]
        · rw [if_neg r]
          have n1 : ¬ p.1 = j := fun z => r (z.symm.trans q)
          simp only [decide_eq_false n1, List.find?_cons]
          by_cases c2 : (D.any fun p => decide (p.1 = i)) = true
          · have := ih c2; rw [if_neg r] at this; simpa using this
          · rw [show D.map (fun p => if p.1 = i then (p.1, v) else p) = D from by
              conv => rhs; rw [← List.map_id D]
              refine List.map_congr_left fun z hz => ?_
              rw [if_neg (fun w => c2 (List.any_eq_true.mpr ⟨z, hz, decide_eq_true w⟩))]; rfl]
      · rw [if_neg q]
        rw [List.any_cons, decide_eq_false q, Bool.false_or] at c
        by_cases r : p.1 = j
        · simp only [decide_eq_true r, List.find?_cons]
          rw [if_neg (fun z => q (r.trans z))]
        · simp only [decide_eq_false r, List.find?_cons]
          exact ih c
  · rw [if_neg c, List.find?_append]
    by_cases r : j = i
    · subst r
      rw [if_pos rfl, List.find?_eq_none.mpr (fun p hp q => c (List.any_eq_true.mpr ⟨p, hp, q⟩))]
      simp
    · rw [if_neg r]
      cases hf : D.find? fun p => decide (p.1 = j) with
      | some p => rfl
      | none => simp [List.find?_cons, show ¬ i = j from fun z => r z.symm]
end
section
variable {α : Type} {e : α → PyData}
def dLe (a b : PyData) : Bool := PySem.W.dataLe false (fun d => d) a b
theorem dLe_lt (a b : PyData) : dLe a b = !PySem.W.dataLt b a := id rfl
theorem dLe_trans (a b c : PyData) (h1 : dLe a b = true) (h2 : dLe b c = true) : dLe a c = true := by
  rw [dLe_lt, Bool.not_eq_true'] at *
  cases h : PySem.W.dataLt c a with
  | false => rfl
  | true =>
    rcases PyProof.Rows.lex_negTrans (O := PyProof.Rows.itemOrd) (PySem.W.keyToks c) (PySem.W.keyToks b) (PySem.W.keyToks a) h with q | q
    · exact absurd q (by rw [show PyProof.Rows.lexLt _ _ _ = PySem.W.dataLt c b from rfl, h2]; decide)
    · exact absurd q (by rw [show PyProof.Rows.lexLt _ _ _ = PySem.W.dataLt b a from rfl, h1]; decide)
theorem dLe_total (a b : PyData) : (dLe a b || dLe b a) = true := by
  rw [dLe_lt, dLe_lt]
  cases h : PySem.W.dataLt b a with
  | false => rfl
  | true =>
    cases h2 : PySem.W.dataLt a b with
    | false => rfl
    | true => exact absurd (PyProof.Rows.lex_trans (O := PyProof.Rows.itemOrd) (PySem.W.keyToks a) (PySem.W.keyToks b) (PySem.W.keyToks a) h2 h) (by rw [PyProof.Rows.lex_irrefl (O := PyProof.Rows.itemOrd)]; decide)
end
end ZP


namespace ZP
open PySem ZD
/-- texts that can be written -/
abbrev SS := {s : Str // PyData.strOk s = true}
instance : Inhabited SS := ⟨⟨Str.ofString "", by decide +kernel⟩⟩
def ss (s : String) (h : PyData.strOk (Str.ofString s) = true := by decide +kernel) : SS := ⟨Str.ofString s, h⟩
section
variable {α β γ δ : Type}
def eS (s : SS) : PyData := .str s.1
def eN (_ : Unit) : PyData := .none
def eR (d : PyData) : PyData := d
def eL (e : α → PyData) (l : List α) : PyData := .list (l.map e)
def eT (e : α → PyData) (l : List α) : PyData := .tuple (l.map e)
def eP (e : α → PyData) (f : β → PyData) (p : α × β) : PyData := .tuple [e p.1, f p.2]
def e3 (e : α → PyData) (f : β → PyData) (g : γ → PyData) (p : α × β × γ) : PyData := .tuple [e p.1, f p.2.1, g p.2.2]
def e4 (e : α → PyData) (f : β → PyData) (g : γ → PyData) (h : δ → PyData) (p : α × β × γ × δ) : PyData := .tuple [e p.1, f p.2.1, g p.2.2.1, h p.2.2.2]
def eD (e : α → PyData) (f : β → PyData) (D : List (α × β)) : PyData := .dict (dE e f D)
def gI [Inhabited α] (l : List α) (i : Int) : α := l.getD (if i < 0 then i + (l.length : Int) else i).toNat default
def IxOk (l : List α) (i : Int) : Prop := -(l.length : Int) ≤ i ∧ i < (l.length : Int)
theorem gI_nat [Inhabited α] (l : List α) (n : Nat) : gI l (n : Int) = l.getD n default := by unfold gI; rw [if_neg (by omega), Int.toNat_natCast]
theorem gI_get [Inhabited α] {l : List α} {n : Nat} (h : n < l.length) : gI l (n : Int) = l[n] := by rw [gI_nat]; simp [h]
def cutA (xs : List α) (lo hi : Option Int) : List α := (xs.drop (HT.sIx xs.length 0 lo)).take (HT.sIx xs.length xs.length hi - HT.sIx xs.length 0 lo)
theorem cutD_map (e : α → PyData) (l : List α) (lo hi : Option Int) : cutD (l.map e) lo hi = (cutA l lo hi).map e := by unfold cutD cutA; rw [List.length_map, List.map_take, List.map_drop]
theorem cutA_to {xs : List α} {z : Int} (h0 : 0 ≤ z) : cutA xs none (some z) = xs.take z.toNat := by
  simp only [cutA, HT.sIx, if_neg (show ¬ z < 0 by omega), List.drop_zero, Nat.sub_zero]
  by_cases h : z.toNat ≤ xs.length
  · rw [Nat.min_eq_left h]
  · rw [Nat.min_eq_right (by omega), List.take_of_length_le (Nat.le_refl _), List.take_of_length_le (by omega)]
def leE (e : α → PyData) (a b : α) : Bool := dLe (e a) (e b)
def sortV (e : α → PyData) (l : List α) : List α := l.mergeSort (leE e)
end
section
variable {p q r : PR PyData} {ox : Out → PR PyData} {a b : Int} {x y : Bool} {s t : SS}
theorem vAdd (h : p = .ok (.int a)) (k : q = .ok (.int b)) (hx : ox (.d (.int (a + b))) = .ok (.int (a + b)) := by rfl) : (o2 p q fun a b => ox (oAdd a b)) = .ok (.int (a + b)) := by rw [h, k]; exact hx
theorem vSub (h : p = .ok (.int a)) (k : q = .ok (.int b)) (hx : ox (.d (.int (a - b))) = .ok (.int (a - b)) := by rfl) : (o2 p q fun a b => ox (oSub a b)) = .ok (.int (a - b)) := by rw [h, k]; exact hx
theorem vLt (h : p = .ok (.int a)) (k : q = .ok (.int b)) (hx : ox (.d (.bool (decide (a < b)))) = .ok (.bool (decide (a < b))) := by rfl) : (o2 p q fun a b => ox (oLt a b)) = .ok (.bool (decide (a < b))) := by rw [h, k]; exact hx
theorem vLe (h : p = .ok (.int a)) (k : q = .ok (.int b)) (hx : ox (.d (.bool (decide (a ≤ b)))) = .ok (.bool (decide (a ≤ b))) := by rfl) : (o2 p q fun a b => ox (oLe a b)) = .ok (.bool (decide (a ≤ b))) := by rw [h, k]; exact hx
theorem vGt (h : p = .ok (.int a)) (k : q = .ok (.int b)) (hx : ox (.d (.bool (decide (b < a)))) = .ok (.bool (decide (b < a))) := by rfl) : (o2 p q fun a b => ox (oGt a b)) = .ok (.bool (decide (b < a))) := by rw [h, k]; exact hx
theorem vLeLe {w : PR PyData} {c : Int} (h : p = .ok (.int a)) (k : q = .ok (.int b)) (l : w = .ok (.int c)) : chainP oLe oLe p q w = .ok (.bool (decide (a ≤ b) && decide (b ≤ c))) := by
  rw [h, k, l, chainP_ok, oLe_i, chB_b, oLe_i, outS_d]; by_cases e : a ≤ b <;> simp [e]
theorem vMax2 (h : p = .ok (.int a)) (k : q = .ok (.int b)) (hx : ox (.d (.int (max a b))) = .ok (.int (max a b)) := by rfl) : (o2 p q fun a b => ox (oMax2 a b)) = .ok (.int (max a b)) := by rw [h, k]; show ox (oMax2 _ _) = _; rw [max2_i]; exact hx
end
section
variable {α β γ : Type} {e : α → PyData} {f : β → PyData} {p q : PR PyData} {ox : Out → PR PyData} {l m : List α}
theorem vTest {g : PyData → Bool} {d : PyData} {c : Bool} (h : p = .ok d) (k : g d = c) (hx : ox (.d (.bool c)) = .ok (.bool c) := by rfl) : (o1 p fun a => ox ((oTest g) a)) = .ok (.bool c) := by rw [h]; show ox (.d (.bool (g d))) = _; rw [k]; exact hx
theorem vEq [DecidableEq α] {n : Nat} (E : EncOk n e) (hn : n ≤ 64) {a b : α} (h : p = .ok (e a)) (k : q = .ok (e b)) (hx : ox (.d (.bool (decide (a = b)))) = .ok (.bool (decide (a = b))) := by rfl) : (o2 p q fun a b => ox (oEq a b)) = .ok (.bool (decide (a = b))) := by rw [h, k]; show ox (oEq _ _) = _; rw [oEq_enc E hn]; exact hx
theorem vNe [DecidableEq α] {n : Nat} (E : EncOk n e) (hn : n ≤ 64) {a b : α} (h : p = .ok (e a)) (k : q = .ok (e b)) (hx : ox (.d (.bool (!decide (a = b)))) = .ok (.bool (!decide (a = b))) := by rfl) : (o2 p q fun a b => ox (oNe a b)) = .ok (.bool (!decide (a = b))) := by rw [h, k]; show ox (oNe _ _) = _; rw [oNe_enc E hn]; exact hx
theorem enc_ss : EncOk 0 eS := ⟨fun a => by show shN 0 (.str a.1) = true; rw [shN_s]; exact a.2, fun a b => by
  show PyData.eqv (.str a.1) (.str b.1) = _
  rw [eqv_ss]
  by_cases c : a = b
  · subst c; simp
  · rw [decide_eq_false c]; simpa using fun h => c (Subtype.ext h)⟩
theorem vIsB {t b c : Bool} (h : p = .ok (.bool b)) (k : q = .ok (.bool c)) (hx : ox (.d (.bool (xor t (b == c)))) = .ok (.bool (xor t (b == c))) := by rfl) : (o2 p q fun a b => ox ((oIs t) a b)) = .ok (.bool (xor t (b == c))) := by rw [h, k]; show ox (oIs t _ _) = _; rw [oIs_bb]; exact hx
theorem vCatL (h : p = .ok (eL e l)) (k : q = .ok (eL e m)) (hl : l.length + m.length ≤ 2000000) (hx : ∀ ds, ox (.nl ds) = .ok (.list ds) := by intro _; rfl) : (o2 p q fun a b => ox (oAdd a b)) = .ok (eL e (l ++ m)) := by
  rw [h, k]; show ox (oAdd (.list _) (.list _)) = _; rw [oAdd_l (by simpa using hl), hx]; unfold eL; rw [List.map_append]
theorem vIxL [Inhabited α] {i : Int} (h : p = .ok (eL e l)) (k : q = .ok (.int i)) (hi : IxOk l i) (hx : ∀ d, ox (.d d) = .ok d := by intro _; rfl) : (o2 p q fun a b => ox (oIx a b)) = .ok (e (gI l i)) := by
  rw [h, k]
  show ox (gotD (L2.atI (l.map e) i)) = _
  have : L2.atI (l.map e) i = some (e (gI l i)) := by
    obtain ⟨h0, h1⟩ := hi
    unfold L2.atI L2.ixN gI
    rw [List.length_map]
    by_cases c : 0 ≤ i
    · rw [if_pos c, if_pos h1, if_neg (by omega)]
      show (l.map e)[i.toNat]? = _
      rw [List.getElem?_map, List.getD_eq_getElem?_getD, List.getElem?_eq_getElem (show i.toNat < l.length by omega)]; rfl
    · rw [if_neg c, if_pos h0, if_pos (by omega)]
      show (l.map e)[(i + (l.length : Int)).toNat]? = _
      rw [List.getElem?_map, List.getD_eq_getElem?_getD, List.getElem?_eq_getElem (show (i + (l.length : Int)).toNat < l.length by omega)]; rfl
  rw [this]; exact hx _
theorem vIxT [Inhabited α] {i : Int} (h : p = .ok (eT e l)) (k : q = .ok (.int i)) (hi : IxOk l i) (hx : ∀ d, ox (.d d) = .ok d := by intro _; rfl) : (o2 p q fun a b => ox (oIx a b)) = .ok (e (gI l i)) := by
  have := vIxL (p := .ok (eL e l)) rfl k hi hx
  rw [k] at this
  rw [h, k]; exact this
theorem vP0 {g : α × β} (h : p = .ok (eP e f g)) (hx : ∀ d, ox (.d d) = .ok d := by intro _; rfl) : (o2 p (PR.ok (.int 0)) fun a b => ox (oIx a b)) = .ok (e g.1) := by rw [h]; show ox (oIx (.tuple _) _) = _; rw [ix_0']; exact hx _
theorem vP1 {g : α × β} (h : p = .ok (eP e f g)) (hx : ∀ d, ox (.d d) = .ok d := by intro _; rfl) : (o2 p (PR.ok (.int 1)) fun a b => ox (oIx a b)) = .ok (f g.2) := by rw [h]; show ox (oIx (.tuple _) _) = _; rw [ix_1']; exact hx _
theorem vSlL {lo hi : PR (Option Int)} {a b : Option Int} (h : p = .ok (eL e l)) (k : lo = .ok a) (k2 : hi = .ok b) (hx : ∀ ds, ox (.nl ds) = .ok (.list ds) := by intro _; rfl) : slcP ox p lo hi = .ok (eL e (cutA l a b)) := by
  rw [h, k, k2]; show ox (.nl (cutD (l.map e) a b)) = _; rw [hx, cutD_map]; rfl
theorem vPos {i : Int} (h : p = .ok (.int i)) : p.bind posF = .ok (some i) := by rw [h]; rfl
theorem vLenT (h : p = .ok (eT e l)) (hx : ∀ d, ox (.d d) = .ok d := by intro _; rfl) : (o1 p fun a => ox (oLen a)) = .ok (.int (l.length : Int)) := by rw [h]; show ox (oLen (.tuple _)) = _; rw [oLen_t, List.length_map]; exact hx _
theorem vTupL (h : p = .ok (eL e l)) (hx : ∀ ds, ox (.nt ds) = .ok (.tuple ds) := by intro _; rfl) : (o1 p fun a => ox (oTuple a)) = .ok (eT e l) := by rw [h]; exact hx _
theorem vLstT (h : p = .ok (eT e l)) (hx : ∀ ds, ox (.nl ds) = .ok (.list ds) := by intro _; rfl) : (o1 p fun a => ox (oList a)) = .ok (eL e l) := by rw [h]; exact hx _
theorem sortD_map (e : α → PyData) (l : List α) : sortD (l.map e) = (sortV e l).map e := by
  unfold sortV
  show (l.map e).mergeSort dLe = _
  exact (List.map_mergeSort (f := e) (r := leE e) (s := dLe) (l := l) (fun a _ b _ => rfl)).symm
theorem vSrtL (h : p = .ok (eL e l)) (hs : sortOk (l.map e) = true) (hx : ∀ ds, ox (.nl ds) = .ok (.list ds) := by intro _; rfl) : (o1 p fun a => ox (oSorted a)) = .ok (eL e (sortV e l)) := by
  rw [h]; show ox (if sortOk (l.map e) = true then Out.nl (sortD (l.map e)) else .bad) = _; rw [if_pos hs, hx, sortD_map]; rfl
theorem intsOf_map : ∀ l : List Int, intsOf (l.map PyData.int) = some l
  | [] => rfl
  | a :: l => by rw [List.map_cons, intsOf, intsOf_map l]; rfl
theorem vSum {l : List Int} (h : p = .ok (eL PyData.int l)) (hx : ∀ d, ox (.d d) = .ok d := by intro _; rfl) : (o1 p fun a => ox (oSum a)) = .ok (.int l.sum) := by
  rw [h]; show ox (match intsOf (l.map PyData.int) with | some ns => Out.d (.int ns.sum) | none => .bad) = _; rw [intsOf_map]; exact hx _
end
section
variable {α β γ δ : Type} {e : α → PyData} {f : β → PyData} {p q : PR PyData} {ps : PR (List PyData)} {ox : Out → PR PyData} {l m : List α}
theorem vLst (h : ps = .ok (l.map e)) (hl : l.length ≤ 1000) : ps.bind lstF = .ok (eL e l) := by rw [h]; exact if_pos (by simpa using hl)
theorem vTup (h : ps = .ok (l.map e)) (hl : l.length ≤ 1000) : ps.bind tupF = .ok (eT e l) := by rw [h]; exact if_pos (by simpa using hl)
theorem vPr {a : α} {b : β} (h : p = .ok (e a)) (k : q = .ok (f b)) : ((aconsP p (aconsP q (PR.ok []))).bind tupF) = .ok (eP e f (a, b)) := by rw [h, k]; rfl
theorem vTr {g : γ → PyData} {r : PR PyData} {a : α} {b : β} {c : γ} (h : p = .ok (e a)) (k : q = .ok (f b)) (j : r = .ok (g c)) : ((aconsP p (aconsP q (aconsP r (PR.ok [])))).bind tupF) = .ok (e3 e f g (a, b, c)) := by rw [h, k, j]; rfl
theorem vCons {a : α} (h : p = .ok (e a)) (k : ps = .ok (l.map e)) : aconsP p ps = .ok ((a :: l).map e) := by rw [h, k]; rfl
theorem vSeqL (h : p = .ok (eL e l)) : p.bind seqF = .ok (l.map e) := by rw [h]; rfl
theorem vSeqT (h : p = .ok (eT e l)) : p.bind seqF = .ok (l.map e) := by rw [h]; rfl
theorem vRng1 {n : Int} (h : p = .ok (.int n)) (hn : n ≤ 2000000 ∧ -2000000 ≤ n) : p.bind rng1F = .ok ((ran n.toNat).map PyData.int) := by
  rw [h]
  show (if n < 2 ^ 62 ∧ -(2 ^ 62) ≤ n then PR.ok (rngL 0 n.toNat) else .bad) = _
  rw [if_pos (by omega), rngL0]
theorem hdK_dE [DecidableEq α] (K : KeyE e) (D : List (α × β)) : hdK (dE e f D) = true := by
  cases D with
  | nil => rfl
  | cons p D => exact K.key p.1
variable {it : PR (List PyData)} {k : PyData → PR (Option PyData)}
theorem vMap {g : α → β} (h : it = .ok (l.map e)) (hl : l.length ≤ 2000000) (hk : ∀ a ∈ l, k (e a) = .ok (some (f (g a)))) : mcompP it k = .ok (eL f (l.map g)) := mcomp_mp g h hl hk
theorem vFil {c : α → Bool} (h : it = .ok (l.map e)) (hl : l.length ≤ 2000000) (hk : ∀ a ∈ l, k (e a) = .ok (if c a = true then some (e a) else none)) : mcompP it k = .ok (eL e (l.filter c)) := mcomp_f c h hl hk
theorem vFM {c : α → Bool} {g : α → β} (h : it = .ok (l.map e)) (hl : l.length ≤ 2000000) (hk : ∀ a ∈ l, k (e a) = .ok (if c a = true then some (f (g a)) else none)) : mcompP it k = .ok (eL f ((l.filter c).map g)) := by
  rw [mcomp_fm (e := e) (e2 := f) (fun a => if c a = true then some (g a) else none) h hl fun a ha => by rw [hk a ha]; split <;> rfl]
  congr 2
  clear h hl hk
  induction l with
  | nil => rfl
  | cons a l ih =>
    rw [List.filterMap_cons, List.filter_cons]
    by_cases q : c a = true
    · rw [if_pos q, if_pos q]; simp only [List.map_cons]; rw [ih]
    · rw [if_neg q, if_neg q]; exact ih
theorem stP_of {t : PR Bool} {c : Bool} {b : PyData} (h : t = .ok c) (hb : c = true → p = .ok b) : stP t p = .ok (if c = true then some b else none) := by
  rw [h]; cases c with
  | true => rw [hb rfl]; rfl
  | false => rfl
theorem vAll {g : α → Bool} (h : it = .ok (l.map e)) (hk : ∀ a ∈ l, k (e a) = .ok (some (.bool (g a)))) : mallP it k = .ok (.bool (l.all g)) := mall_at h (allP_m l hk)
end
section
variable {α β : Type} [DecidableEq α] {e : α → PyData} {f : β → PyData} {p q w : PR PyData} {ox : Out → PR PyData} {D : List (α × β)} {i : α}
structure KeyG (e : α → PyData) : Prop where
  same : ∀ a b, sameK (e a) (e b) = decide (a = b)
  key : (∀ a, (keyOfD (e a)).isSome = true) ∨ ∀ a, (keyT (e a)).isSome = true
theorem KeyE.g (h : KeyE e) : KeyG e := ⟨h.same, .inl h.key⟩
theorem kOkG (h : KeyG e) (D : List (α × β)) (i : α) : kOk (dE e f D) (e i) = true := by
  unfold kOk
  rcases h.key with k | k
  · rw [k i, Bool.true_and, show hdK (dE e f D) = true from by cases D with
      | nil => rfl
      | cons p D => exact k p.1, Bool.true_or]
  · rw [k i, Bool.true_and, show hdN (dE e f D) = true from by cases D with
      | nil => rfl
      | cons p D => exact k p.1, Bool.or_true]
theorem valDG (h : KeyG e) (D : List (α × β)) (i : α) : valD (dE e f D) (e i) = (getL D i).map f := by
  unfold valD dE getL
  rw [List.find?_map]
  simp only [Function.comp_def, h.same, Option.map_map]
theorem putDG (h : KeyG e) (D : List (α × β)) (i : α) (v : β) : putD (dE e f D) (e i) (f v) = dE e f (putL D i v) := by
  unfold putD dE putL
  rw [List.any_map]
  simp only [Function.comp_def, h.same]
  by_cases c : (D.any fun p => decide (p.1 = i)) = true
  · rw [if_pos c, if_pos c, List.map_map, List.map_map]
    refine List.map_congr_left fun p _ => ?_
    simp only [Function.comp_def, h.same]
    by_cases q : p.1 = i
    · rw [if_pos (decide_eq_true q), if_pos q]
    · rw [if_neg (by simpa using q), if_neg q]
  · rw [if_neg c, if_neg c, List.map_append]; rfl
theorem getG (h : KeyG e) (D : List (α × β)) (i : α) (z : PyData) : get2P (.ok (.dict (dE e f D))) (.ok (e i)) (.ok z) = .ok (((getL D i).map f).getD z) := by
  unfold get2P
  rw [bind_ok, show dctF (.dict (dE e f D)) = .ok (dE e f D) from rfl, bind_ok, bind_ok, bind_ok]
  unfold getR getF
  rw [if_pos (kOkG h D i), valDG h]
theorem key_ss : KeyE eS := ⟨fun a b => enc_ss.eq a b, fun _ => rfl⟩
theorem vGet2 (K : KeyG e) {z : β} (h : p = .ok (eD e f D)) (k : q = .ok (e i)) (l : w = .ok (f z)) : get2P p q w = .ok (f ((getL D i).getD z)) := by
  rw [h, k, l]; unfold eD; rw [getG K]; cases getL D i <;> rfl
theorem vDst (K : KeyG e) {v : β} (hl : D.length < 1000000) : dstF (eD e f D) (e i) (f v) = .ok (eD e f (putL D i v)) := by
  show dstF (.dict (dE e f D)) (e i) (f v) = _
  unfold dstF
  dsimp only
  rw [kOkG K, Bool.true_and, if_pos (decide_eq_true (by unfold dE; rw [List.length_map]; omega)), putDG K]; rfl
/-- trees as keys -/
def KN {γ : Type} (e : γ → PyData) (n : Nat) : Prop := ∀ a, ∃ k, keyN (e a) = some k ∧ k.depth ≤ n
theorem KN.up {γ : Type} {e : γ → PyData} {n m : Nat} (h : KN e n) (hm : n ≤ m) : KN e m := fun a => by
  obtain ⟨k, h1, h2⟩ := h a
  exact ⟨k, h1, by omega⟩
section
variable {γ δ ε : Type} {e1 : γ → PyData} {e2 : δ → PyData} {e3' : ε → PyData} {n : Nat}
end
end
section
variable {α β σ τ ρ R : Type}
theorem bind_v {p : PR σ} {f : σ → PR β} {e : τ → σ} {v : τ} {r : τ → PR β} {C : τ → Prop} (h : p = .ok (e v)) (k : ∀ x, C x → f (e x) = r x) (hc : C v) : p.bind f = r v := by rw [h]; exact k v hc
theorem if_v {w : τ → PR α} {t : PR Bool} {p q : PR α} {c : Bool} {a b : τ} (h : t = .ok c) (ha : c = true → p = w a) (hb : c = false → q = w b) : ifP t p q = w (if c = true then a else b) := by
  rw [h, ifP_ok]
  cases c with
  | true => rw [if_pos rfl, if_pos rfl]; exact ha rfl
  | false => rw [if_neg Bool.false_ne_true, if_neg Bool.false_ne_true]; exact hb rfl
def FoldC (g : τ → α → τ) (c : τ → α → Prop) : List α → τ → Prop
  | [], _ => True
  | a :: l, t => c t a ∧ FoldC g c l (g t a)
theorem fold_v {k : PyData → σ → PR σ} {e : α → PyData} {es : τ → σ} {g : τ → α → τ} {c : τ → α → Prop} : ∀ (l : List α) (t : τ), (∀ t a, a ∈ l → c t a → k (e a) (es t) = .ok (es (g t a))) → FoldC g c l t → foldP k (l.map e) (es t) = .ok (es (l.foldl g t))
  | [], _, _, _ => rfl
  | a :: l, t, hk, hc => by
    rw [List.map_cons, List.foldl_cons]
    unfold foldP
    rw [hk t a List.mem_cons_self hc.1]
    exact fold_v l (g t a) (fun t b hb => hk t b (List.mem_cons_of_mem _ hb)) hc.2
def LRm (es : τ → σ) (er : ρ → R) : LR τ ρ → LR σ R
  | .nx t => .nx (es t)
  | .bk t => .bk (es t)
  | .rt r => .rt (er r)
end
end ZP
namespace ZP
open PySem ZD
section
variable {α β γ δ : Type} {e : α → PyData} {f : β → PyData} {p q : PR PyData} {ps : PR (List PyData)} {ox : Out → PR PyData} {l m : List α}
theorem vLenP2 {a : α × β} (h : p = .ok (eP e f a)) (hx : ∀ d, ox (.d d) = .ok d := by intro _; rfl) : (o1 p fun a => ox (oLen a)) = .ok (.int 2) := by rw [h]; exact hx _
section
variable {g : γ → PyData} {g4 : δ → PyData} {x : α × β × γ × δ}
end
section
variable [DecidableEq α] {n : Nat} {a : α} {t : Bool}
end
theorem vNil (e : α → PyData) : PR.ok ([] : List PyData) = .ok (([] : List α).map e) := rfl
end
end ZP
namespace ZP
open PySem ZD
section
variable {σ ρ α : Type} {Q : α → Prop} {E : String → Prop}
end
end ZP


namespace ZP
open PySem ZD
section
variable {p q r : PR PyData} {ox : Out → PR PyData} {a b : SS}
def cps (a : SS) : List Nat := a.1.cps.toList
theorem cps_ok (a : SS) : ∀ c ∈ cps a, c < 0x110000 := fun c h => by
  have := a.2
  unfold PyData.strOk at this
  rw [← Array.all_toList, List.all_eq_true] at this
  exact of_decide_eq_true (this c h)
def mkS (l : List Nat) : SS := if h : (l.all fun c => decide (c < 0x110000)) = true then ⟨⟨l.toArray⟩, by unfold PyData.strOk; rw [← Array.all_toList]; exact h⟩ else ⟨⟨#[]⟩, by decide +kernel⟩
theorem mkS_ok {l : List Nat} (h : ∀ c ∈ l, c < 0x110000) : (mkS l).1 = ⟨l.toArray⟩ := by
  unfold mkS
  rw [dif_pos (List.all_eq_true.mpr fun c hc => decide_eq_true (h c hc))]
theorem cps_mk {l : List Nat} (h : ∀ c ∈ l, c < 0x110000) : cps (mkS l) = l := by
  unfold cps; rw [mkS_ok h]
def catS (a b : SS) : SS := mkS (cps a ++ cps b)
theorem vCatS (h : p = .ok (eS a)) (k : q = .ok (eS b)) (hl : (cps a).length + (cps b).length ≤ 2000000) (hx : ∀ d, ox (.d d) = .ok d := by intro _; rfl) : (o2 p q fun a b => ox (oAdd a b)) = .ok (eS (catS a b)) := by
  rw [h, k]
  show ox (if a.1.length + b.1.length ≤ 2000000 then .d (.str (a.1 ++ b.1)) else .bad) = _
  rw [if_pos (by simpa [cps, Str.length] using hl), hx]
  unfold eS catS
  rw [mkS_ok fun c h => by
    rcases List.mem_append.mp h with h | h
    · exact cps_ok a c h
    · exact cps_ok b c h]
  congr 2
  show Str.mk (a.1.cps ++ b.1.cps) = _
  congr 1
  unfold cps; simp
end
end ZP


namespace ZP
open PySem ZD
section
variable {α β : Type} [DecidableEq α] {e : α → PyData} {f : β → PyData} {p : PR PyData} {ox : Out → PR PyData}
def putsL (D l : List (α × β)) : List (α × β) := l.foldl (fun D q => putL D q.1 q.2) D
theorem pairs_dE (K : KeyE e) : ∀ l : List (α × β), pairsOf (l.map (eP e f)) = some (dE e f l)
  | [] => rfl
  | q :: l => by
    have h := pairs_dE K l
    obtain ⟨k, hk⟩ := Option.isSome_iff_exists.mp (K.key q.1)
    show (match keyOfD (e q.1) with | some _ => (pairsOf (l.map (eP e f))).map ((e q.1, f q.2) :: ·) | none => none) = _
    rw [hk, h]; rfl
theorem merge_dE (K : KeyE e) : ∀ (l D : List (α × β)), mergeD (dE e f D) (dE e f l) = dE e f (putsL D l)
  | [], D => rfl
  | q :: l, D => by
    show mergeD (putD (dE e f D) (e q.1) (f q.2)) (dE e f l) = dE e f (putsL (putL D q.1 q.2) l)
    rw [putD_dE K, merge_dE K]
theorem vDictT (K : KeyE e) {l : List (α × β)} (h : p = .ok (eT (eP e f) l)) : (o1 p fun a => outK (oDictP a)) = .ok (eD e f (putsL [] l)) := by
  rw [h]
  show outK (match pairsOf (l.map (eP e f)) with | some kvs => Out.nd (mergeD [] kvs) | none => .bad) = _
  rw [pairs_dE K]
  show PR.ok (PyData.dict (mergeD (dE e f []) (dE e f l))) = _
  rw [merge_dE K]; rfl
theorem vItsS (K : KeyE e) {D : List (α × β)} (h : p = .ok (eD e f D)) (hs : sortOk (D.map (eP e f)) = true) : p.bind (itxF srtF) = .ok (eL (eP e f) (sortV (eP e f) D)) := by
  have e1 : (dE e f D).map pairP = D.map (eP e f) := by unfold dE; rw [List.map_map]; rfl
  rw [h]
  show (if hdK (dE e f D) = true then (match srtF ((dE e f D).map pairP) with | some r => PR.ok (PyData.list r) | none => .bad) else .bad) = _
  rw [if_pos (hdK_dE K D), e1]
  unfold srtF
  rw [if_pos hs]
  show PR.ok (PyData.list (sortD (D.map (eP e f)))) = _
  rw [sortD_map]; rfl
end
section
variable {p q : PR PyData} {ox : Out → PR PyData} {a b : SS}
def ltS (a b : SS) : Bool := sLt a.1 b.1
theorem vLtS (h : p = .ok (eS a)) (k : q = .ok (eS b)) (hx : ∀ d, ox (.d d) = .ok d := by intro _; rfl) : (o2 p q fun a b => ox (oLt a b)) = .ok (.bool (ltS a b)) := by rw [h, k]; exact hx _
def chS (a : SS) : List SS := (cps a).map fun c => mkS [c]
theorem vSeqS (h : p = .ok (eS a)) : p.bind seqF = .ok ((chS a).map eS) := by
  rw [h]
  show PR.ok (signs a.1) = _
  unfold chS
  rw [List.map_map]
  congr 1
  show (cps a).map (fun c => PyData.str ⟨#[c]⟩) = _
  refine List.map_congr_left fun c hc => ?_
  show _ = PyData.str (mkS [c]).1
  rw [mkS_ok fun d hd => by rw [List.mem_singleton] at hd; subst hd; exact cps_ok a d hc]
end
theorem sortV_of {α : Type} {e : α → PyData} {l m : List α} (hp : l.Perm m) (hm : m.Pairwise fun a b => leE e b a = false) : sortV e l = m := by
  have hs : ∀ a b, leE e b a = false → leE e a b = true := fun a b h => by
    have := dLe_total (e a) (e b)
    unfold leE at *
    rwa [h, Bool.or_false] at this
  have hm2 : ∀ a ∈ m, ∀ b ∈ m, a = b ∨ leE e b a = false ∨ leE e a b = false := by
    intro a ha b hb
    obtain ⟨i, hi, rfl⟩ := List.mem_iff_getElem.mp ha
    obtain ⟨j, hj, rfl⟩ := List.mem_iff_getElem.mp hb
    rcases Nat.lt_trichotomy i j with h | h | h
    · exact .inr (.inl (List.pairwise_iff_getElem.mp hm i j hi hj h))
    · subst h; exact .inl rfl
    · exact .inr (.inr (List.pairwise_iff_getElem.mp hm j i hj hi h))
  unfold sortV
  have p1 : (l.mergeSort (leE e)).Perm m := (List.mergeSort_perm _ _).trans hp
  refine List.Perm.eq_of_pairwise (le := fun a b => leE e a b = true) (fun a b ha hb h1 h2 => ?_) ?_ (hm.imp fun {a b} h => hs a b h) p1
  · rcases hm2 a (p1.mem_iff.mp ha) b hb with h | h | h
    · exact h
    · rw [h] at h2; cases h2
    · rw [h] at h1; cases h1
  · exact List.pairwise_mergeSort (le := leE e) (fun a b c h1 h2 => dLe_trans _ _ _ h1 h2) (fun a b => dLe_total _ _) l
theorem leE_s (a b : SS) : leE eS a b = !ltS b a := by
  unfold leE ltS sLt eS
  rw [dLe_lt, PySem.W.dataLt_str]
theorem leE_si (a b : SS × Int) (h : a.1 ≠ b.1) : leE (eP eS PyData.int) a b = !ltS b.1 a.1 := by
  unfold leE
  rw [dLe_lt]
  have e1 : PyData.eqv (.str b.1.1) (.str a.1.1) = false := by
    have := enc_ss.eq b.1 a.1
    rw [show eS b.1 = PyData.str b.1.1 from rfl, show eS a.1 = PyData.str a.1.1 from rfl] at this
    rw [this]; simp [Ne.symm h]
  show (!PySem.W.dataLt (.tuple [.str b.1.1, .int b.2]) (.tuple [.str a.1.1, .int a.2])) = _
  rw [PySem.W.dataLt_pair rfl rfl, if_neg (by rw [e1]; decide), PySem.W.dataLt_str]
  rfl
theorem ltS_irr (a : SS) : ltS a a = false := by
  unfold ltS sLt
  exact decide_eq_false (List.lt_irrefl _)
theorem sortOk_s {l : List SS} (h : l.length ≤ 2000000) : sortOk (l.map eS) = true := by
  unfold sortOk
  simp only [Bool.and_eq_true, Bool.or_eq_true, List.all_eq_true, List.mem_map, decide_eq_true_eq, List.length_map]
  refine ⟨⟨⟨?_, .inr ?_⟩, ?_⟩, h⟩
  · rintro _ ⟨x, hx, rfl⟩ _ ⟨y, hy, rfl⟩; rfl
  · rintro _ ⟨x, hx, rfl⟩; rfl
  · rintro _ ⟨x, hx, rfl⟩; simp [eS, PyData.depth]
theorem sortOk_si {l : List (SS × Int)} (h : l.length ≤ 2000000) : sortOk (l.map (eP eS PyData.int)) = true := by
  unfold sortOk
  simp only [Bool.and_eq_true, Bool.or_eq_true, List.all_eq_true, List.mem_map, decide_eq_true_eq, List.length_map]
  refine ⟨⟨⟨?_, .inl ?_⟩, ?_⟩, h⟩
  · rintro _ ⟨x, hx, rfl⟩ _ ⟨y, hy, rfl⟩; simp [eP, eS, PySem.W.alike, PySem.W.alikeAll]
  · rintro _ ⟨x, hx, rfl⟩; simp [eP, eS]
  · rintro _ ⟨x, hx, rfl⟩; simp [eP, eS, PyData.depth, PyData.depthAll]
end ZP


namespace ZP
open PySem ZD
abbrev WM (τ : Type) := (τ → Prop) → Prop
@[irreducible] def Wp {τ : Type} (w : WM τ) (Q : τ → Prop) : Prop := w Q
theorem wp_iff {τ : Type} (w : WM τ) (Q : τ → Prop) : Wp w Q = w Q := by unfold Wp; rfl
section
variable {α β γ σ τ ρ χ R : Type} {e : τ → α} {es : τ → σ} {er : χ → β} {Q : τ → Prop}
def wP (C : Prop) (v : τ) : WM τ := fun Q => C ∧ Q v
def wA (C : Prop) (w : WM τ) : WM τ := fun Q => C ∧ w Q
def wB (C : Prop) (v : σ) (k : σ → WM τ) : WM τ := fun Q => C ∧ k v Q
def wD (w : WM σ) (k : σ → WM τ) : WM τ := fun Q => w fun a => k a Q
def wT (b : Int) : WM Int := fun Q => 0 < b ∧ ∀ r, 0 ≤ r → r < b → Q r
def wI (c : Bool) (a b : WM τ) : WM τ := fun Q => (c = true → a Q) ∧ (c = false → b Q)
def wLn : LR τ ρ → (τ → WM (LR τ ρ)) → WM (LR τ ρ)
  | .nx t, k => k t
  | .bk t, _ => fun Q => Q (.nx t)
  | .rt r, _ => fun Q => Q (.rt r)
def wL (g : τ → α → WM (LR τ ρ)) : List α → τ → WM (LR τ ρ)
  | [], t => fun Q => Q (.nx t)
  | a :: l, t => wD (g t a) fun r => wLn r (wL g l)
def wAft (k : τ → WM χ) (j : ρ → χ) : LR τ ρ → WM χ
  | .nx t => k t
  | .bk t => k t
  | .rt r => fun Q => Q (j r)
def wC (g : α → WM (Option β)) : List α → WM (List β)
  | [] => fun Q => Q []
  | a :: l => wD (g a) fun o => wD (wC g l) fun ys Q => Q (o.toList ++ ys)
theorem vEqNil {p q : PR PyData} {l : List PyData} (h : p = .ok (eL eR l)) (k : q = .ok (.list [])) (hs : l.all (shN 60) = true) : (o2 p q fun a b => outS (oEq a b)) = .ok (.bool l.isEmpty) := by
  have e : eL eR l = .list l := congrArg PyData.list (List.map_id' l)
  rw [h, k, e, o2_ok, oEq_nilL hs, outS_d]
structure Rf (e : τ → α) (d : Dm α) (w : WM τ) : Prop where
  go : ∀ Q Q' E, (∀ t, Q t → Q' (e t)) → w Q → d Q' E
theorem rf_ok {d : Dm α} {w : WM τ} {Q : τ → Prop} {Q' : α → Prop} {E : String → Prop} (h : Rf e d w) (k : Wp w Q) (hq : ∀ t, Q t → Q' (e t)) : Ok d Q' E := of_ok (h.go Q Q' E hq (by rw [wp_iff] at k; exact k))
theorem rf_pq {p : PR α} {C : Prop} {v : τ} (h : C → p = .ok (e v)) : Rf e (PQ p) (wP C v) := ⟨fun Q Q' E hq k => by rw [h k.1]; exact hq _ k.2⟩
theorem rf_let {p : PR α} {F : α → Dm β} {C : Prop} {v : τ} {w : τ → WM χ} (h : C → p = .ok (e v)) (k : ∀ v, Rf er (F (e v)) (w v)) : Rf er (bD (PQ p) F) (wB C v w) := ⟨fun Q Q' E hq q => by
  show PQ p (fun a => F a Q' E) E
  rw [h q.1]; exact (k v).go Q Q' E hq q.2⟩
theorem rf_skip {p : PR α} {a : α} {F : α → Dm β} {C : Prop} {w : WM χ} (h : C → p = .ok a) (k : Rf er (F a) w) : Rf er (bD (PQ p) F) (wA C w) := ⟨fun Q Q' E hq q => by
  show PQ p (fun a => F a Q' E) E
  rw [h q.1]; exact k.go Q Q' E hq q.2⟩
theorem rf_skip0 {p : PR α} {a : α} {F : α → Dm β} {w : WM χ} (h : p = .ok a) (k : Rf er (F a) w) : Rf er (bD (PQ p) F) w := ⟨fun Q Q' E hq q => by
  show PQ p (fun a => F a Q' E) E
  rw [h]; exact k.go Q Q' E hq q⟩
theorem rf_bind {d : Dm α} {w : WM τ} {F : α → Dm β} {k2 : τ → WM χ} (h : Rf e d w) (k : ∀ v, Rf er (F (e v)) (k2 v)) : Rf er (bD d F) (wD w k2) := ⟨fun Q Q' E hq q => h.go (fun a => k2 a Q) (fun a => F a Q' E) E (fun t z => (k t).go Q Q' E hq z) q⟩
theorem rf_nD {d : Dm α} {w : WM τ} (h : Rf e d w) : Rf e (nD d) w := ⟨fun Q Q' E hq q => h.go Q Q' _ hq q⟩
theorem rf_call {A : List PyData → Dm α} {ps : PR (List PyData)} {as : List PyData} {C : Prop} {w : WM τ} (h : C → ps = .ok as) (k : Rf e (A as) w) : Rf e (bD (PQ ps) fun ds => nD (A ds)) (wA C w) := rf_skip h (rf_nD k)
theorem rf_call2 {A : List PyData → Dm β} {d d2 : Dm PyData} {e : τ → PyData} {f : ρ → PyData} {w : WM τ} {w2 : WM ρ} {k2 : τ → ρ → WM χ} (h : Rf e d w) (h2 : Rf f d2 w2) (k : ∀ v u, Rf er (A [e v, f u]) (k2 v u)) : Rf er (bD (aconsD d (aconsD d2 (PQ (PR.ok [])))) fun ds => nD (A ds)) (wD w fun v => wD w2 fun u => k2 v u) := ⟨fun Q Q' E hq q => h.go (fun a => wD w2 (fun u => k2 a u) Q) _ E (fun t z => h2.go (fun u => k2 t u Q) _ E (fun u y => (k t u).go Q Q' _ hq y) z) q⟩
theorem rf_draw {ps : PR (List PyData)} {b : Int} {C : Prop} (h : C → ps = .ok [.int b]) : Rf PyData.int (bD (PQ ps) fun ds => nD (A__law_draw ds)) (wA (C ∧ b < 18446744073709551616) (wT b)) :=
  ⟨fun Q Q' E hq q => by
    obtain ⟨⟨hc, hb⟩, h0, h1⟩ := q
    rw [h hc]
    exact ⟨b, rfl, h0, hb, fun r r0 r1 => hq _ (h1 r r0 r1)⟩⟩
theorem rf_if {t : PR Bool} {c : Bool} {C : Prop} {a b : Dm α} {w1 w2 : WM τ} (h : C → t = .ok c) (ha : c = true → Rf e a w1) (hb : c = false → Rf e b w2) : Rf e (ifD (PQ t) a b) (wA C (wI c w1 w2)) := ⟨fun Q Q' E hq q => by
  show PQ t (fun b' => (if b' = true then a else b) Q' E) E
  rw [h q.1]
  show (if c = true then a else b) Q' E
  cases c with
  | true => exact (ha rfl).go Q Q' E hq (q.2.1 rfl)
  | false => exact (hb rfl).go Q Q' E hq (q.2.2 rfl)⟩
theorem rf_tst {d : Dm PyData} {w : WM Bool} (h : Rf PyData.bool d w) : Rf (fun b : Bool => b) (tstD d) w := ⟨fun Q Q' E hq q => h.go Q _ E (fun t z => hq t z) q⟩
theorem rf_b1 {d : Dm PyData} {w : WM σ} {e1 : σ → PyData} {e3 : τ → PyData} {f : PyData → PR PyData} {C : σ → Prop} {v : σ → τ} (h : Rf e1 d w) (k : ∀ a, C a → o1 (.ok (e1 a)) f = .ok (e3 (v a))) : Rf e3 (b1 d f) (wD w fun a => wP (C a) (v a)) := rf_bind h fun a => rf_pq (k a)
theorem rf_b2 {d d2 : Dm PyData} {w : WM σ} {w2 : WM ρ} {e1 : σ → PyData} {e2 : ρ → PyData} {e3 : τ → PyData} {f : PyData → PyData → PR PyData} {C : σ → ρ → Prop} {v : σ → ρ → τ} (h : Rf e1 d w) (h2 : Rf e2 d2 w2) (k : ∀ a b, C a b → o2 (.ok (e1 a)) (.ok (e2 b)) f = .ok (e3 (v a b))) : Rf e3 (b2 d d2 f) (wD w fun a => wD w2 fun b => wP (C a b) (v a b)) := rf_bind h fun a => rf_bind h2 fun b => rf_pq (k a b)
theorem rf_b2l {p : PR PyData} {a : PyData} {d2 : Dm PyData} {w2 : WM ρ} {e2 : ρ → PyData} {e3 : τ → PyData} {f : PyData → PyData → PR PyData} {C0 : Prop} {C : ρ → Prop} {v : ρ → τ} (h : C0 → p = .ok a) (h2 : Rf e2 d2 w2) (k : ∀ b, C b → o2 (.ok a) (.ok (e2 b)) f = .ok (e3 (v b))) : Rf e3 (b2 (PQ p) d2 f) (wA C0 (wD w2 fun b => wP (C b) (v b))) := rf_skip h (rf_bind h2 fun b => rf_pq (k b))
theorem rf_b2r {p : PR PyData} {b : PyData} {d : Dm PyData} {w : WM σ} {e1 : σ → PyData} {e3 : τ → PyData} {f : PyData → PyData → PR PyData} {C0 : σ → Prop} {C : σ → Prop} {v : σ → τ} (h : Rf e1 d w) (h2 : ∀ a, C0 a → p = .ok b) (k : ∀ a, C a → o2 (.ok (e1 a)) (.ok b) f = .ok (e3 (v a))) : Rf e3 (b2 d (PQ p) f) (wD w fun a => wP (C0 a ∧ C a) (v a)) := rf_bind h fun a => ⟨fun Q Q' E hq q => (rf_skip (h2 a) (rf_pq (e := e3) (k a))).go Q Q' E hq ⟨q.1.1, q.1.2, q.2⟩⟩
theorem rf_nil {e : τ → PyData} : Rf (List.map e) (PQ (PR.ok [])) (wP True []) := rf_pq fun _ => rfl
theorem rf_acons {d : Dm PyData} {ds : Dm (List PyData)} {e : τ → PyData} {w : WM τ} {ws : WM (List τ)} (h : Rf e d w) (k : Rf (List.map e) ds ws) : Rf (List.map e) (aconsD d ds) (wD w fun a => wD ws fun as => wP True (a :: as)) := rf_bind h fun a => rf_bind k fun as => rf_pq fun _ => rfl
theorem rf_lst {ds : Dm (List PyData)} {e : τ → PyData} {ws : WM (List τ)} (h : Rf (List.map e) ds ws) : Rf (eL e) (bD ds fun ds => PQ (lstF ds)) (wD ws fun as => wP (as.length ≤ 1000) as) := rf_bind h fun as => rf_pq fun hc => if_pos (by simpa using hc)
theorem rf_pr {d d2 : Dm PyData} {e : τ → PyData} {f : σ → PyData} {w : WM τ} {w2 : WM σ} (h : Rf e d w) (h2 : Rf f d2 w2) : Rf (eP e f) (bD (aconsD d (aconsD d2 (PQ (PR.ok [])))) fun ds => PQ (tupF ds)) (wD w fun a => wD w2 fun b => wP True (a, b)) := ⟨fun Q Q' E hq q => h.go _ _ E (fun a z => h2.go _ _ E (fun b y => show Q' (eP e f (a, b)) from hq (a, b) y.2) z) q⟩
theorem rf_loop {a : α → PyData} {ed : ρ → R} {k : PyData → σ → Dm (LR σ R)} {g : τ → α → WM (LR τ ρ)} (hk : ∀ t x, Rf (LRm es ed) (k (a x) (es t)) (g t x)) : ∀ (l : List α) (t : τ), Rf (LRm es ed) (loopD k (l.map a) (es t)) (wL g l t)
  | [], t => ⟨fun Q Q' E hq q => hq _ q⟩
  | x :: l, t => by
    rw [List.map_cons]
    unfold loopD wL
    refine rf_bind (hk t x) fun r => ?_
    cases r with
    | nx t' => exact rf_loop hk l t'
    | bk t' => exact ⟨fun Q Q' E hq q => hq _ q⟩
    | rt r => exact ⟨fun Q Q' E hq q => hq _ q⟩
theorem rf_aft {ed : ρ → R} {d : Dm (LR σ R)} {w : WM (LR τ ρ)} {d2 : σ → Dm β} {inj : R → β} {k2 : τ → WM χ} {j : ρ → χ} (h : Rf (LRm es ed) d w) (hj : ∀ r, inj (ed r) = er (j r)) (k : ∀ t, Rf er (d2 (es t)) (k2 t)) : Rf er (bD d (aftD d2 inj)) (wD w (wAft k2 j)) := rf_bind h fun r => by
  cases r with
  | nx t => exact k t
  | bk t => exact k t
  | rt r => exact ⟨fun Q Q' E hq q => by
      show Q' (inj (ed r))
      rw [hj]; exact hq _ q⟩
theorem rf_loopX {a : α → PyData} {it : PR (List PyData)} {l : List α} {C : Prop} {ed : ρ → R} {k : PyData → σ → Dm (LR σ R)} {g : τ → α → WM (LR τ ρ)} {d2 : σ → Dm β} {inj : R → β} {k2 : τ → WM χ} {j : ρ → χ} (hi : C → it = .ok (l.map a)) (t : τ) (hk : ∀ t x, Rf (LRm es ed) (k (a x) (es t)) (g t x)) (hj : ∀ r, inj (ed r) = er (j r)) (h2 : ∀ t, Rf er (d2 (es t)) (k2 t)) : Rf er (bD (PQ it) fun ds => bD (loopD k ds (es t)) (aftD d2 inj)) (wA C (wD (wL g l t) (wAft k2 j))) := rf_skip hi (rf_aft (rf_loop hk l t) hj h2)
theorem rf_st {t : Dm Bool} {d : Dm PyData} {e : τ → PyData} {wt : WM Bool} {w : WM τ} (h : Rf (fun b : Bool => b) t wt) (k : Rf e d w) : Rf (Option.map e) (stD t d) (wD wt fun c => wI c (wD w fun y => wP True (some y)) (wP True none)) := rf_bind h fun c => ⟨fun Q Q' E hq q => by
  cases c with
  | true => exact (rf_bind k fun y => rf_pq (e := Option.map e) (C := True) (v := some y) fun _ => rfl).go Q Q' E hq (q.1 rfl)
  | false => exact hq none (q.2 rfl).2⟩
theorem rf_cmp {a : α → PyData} {e : τ → PyData} {k : PyData → Dm (Option PyData)} {g : α → WM (Option τ)} (hk : ∀ x, Rf (Option.map e) (k (a x)) (g x)) : ∀ (l : List α), Rf (List.map e) (compD k (l.map a)) (wC g l)
  | [] => ⟨fun Q Q' E hq q => hq _ q⟩
  | x :: l => by
    rw [List.map_cons]
    unfold compD wC
    refine rf_bind (hk x) fun o => ?_
    cases o with
    | none => exact ⟨fun Q Q' E hq q => (rf_cmp hk l).go (fun ys => Q ([] ++ ys)) _ E (fun t z => hq _ z) q⟩
    | some y => exact ⟨fun Q Q' E hq q => (rf_cmp hk l).go (fun ys => Q ([y] ++ ys)) _ E (fun t z => hq _ z) q⟩
theorem rf_comp {a : α → PyData} {e : τ → PyData} {it : Dm (List PyData)} {wi : WM (List α)} {k : PyData → Dm (Option PyData)} {g : α → WM (Option τ)} (hi : Rf (List.map a) it wi) (hk : ∀ x, Rf (Option.map e) (k (a x)) (g x)) : Rf (eL e) (mcompD it k) (wD wi fun l => wA (l.length ≤ 2000000) (wC g l)) := rf_bind hi fun l => ⟨fun Q Q' E hq q => by
  unfold mcompG
  rw [if_pos (by simpa using q.1)]
  exact (rf_cmp hk l).go Q (fun ys => Q' (.list ys)) _ (fun t z => hq t z) q.2⟩
theorem rf_draws {ps : PR (List PyData)} {d : PyData} {C : Prop} (h : C → ps = .ok [d]) : Rf (fun u : Unit => u) (bD (PQ ps) fun ds => nD (A__law_draws ds)) (wP (C ∧ GoodScr d) ()) := ⟨fun Q Q' E hq q => by
  show PQ ps _ E
  rw [h q.1.1]
  exact ⟨d, rfl, q.1.2, hq _ q.2⟩⟩
theorem p_P {C : Prop} {v : τ} : Wp (wP C v) Q ↔ C ∧ Q v := by rw [wp_iff]; exact Iff.rfl
theorem p_A {C : Prop} {w : WM τ} : Wp (wA C w) Q ↔ C ∧ Wp w Q := by rw [wp_iff, wp_iff]; exact Iff.rfl
theorem p_B {C : Prop} {v : σ} {k : σ → WM τ} : Wp (wB C v k) Q ↔ C ∧ Wp (k v) Q := by rw [wp_iff, wp_iff]; exact Iff.rfl
theorem p_D {w : WM σ} {k : σ → WM τ} : Wp (wD w k) Q ↔ Wp w fun a => Wp (k a) Q := by simp only [wp_iff]; exact Iff.rfl
theorem p_T {b : Int} {Q : Int → Prop} : Wp (wT b) Q ↔ 0 < b ∧ ∀ r, 0 ≤ r → r < b → Q r := by rw [wp_iff]; exact Iff.rfl
theorem p_I {c : Bool} {a b : WM τ} : Wp (wI c a b) Q ↔ (c = true → Wp a Q) ∧ (c = false → Wp b Q) := by simp only [wp_iff]; exact Iff.rfl
theorem p_nx {k : τ → WM χ} {j : ρ → χ} {t : τ} {Q : χ → Prop} : Wp (wAft k j (.nx t)) Q ↔ Wp (k t) Q := Iff.rfl
theorem w_D {w : WM σ} {k : σ → WM τ} (h : Wp w fun a => Wp (k a) Q) : Wp (wD w k) Q := p_D.mpr h
/-- a loop that goes on to its end -/
theorem w_loop {g : τ → α → WM (LR τ ρ)} {Q : LR τ ρ → Prop} (Iv : Nat → τ → Prop) : ∀ {l : List α} {t : τ}, Iv 0 t → (∀ (i : Nat) (x : α) (s : τ), l[i]? = some x → Iv i s → ∀ Q' : LR τ ρ → Prop, (∀ s', Iv (i + 1) s' → Q' (.nx s')) → Wp (g s x) Q') → (∀ s, Iv l.length s → Q (.nx s)) → Wp (wL g l t) Q
  | [], t, h0, _, h => by rw [wp_iff]; exact h t h0
  | x :: l, t, h0, hk, h => by
    unfold wL
    exact w_D (hk 0 x t rfl h0 _ fun s' h1 => w_loop (fun i => Iv (i + 1)) h1 (fun i y s hy => hk (i + 1) y s hy) h)
/-- some of the items are taken -/
inductive Sel {α β : Type} (R : α → β → Prop) : List α → List β → Prop
  | nil : Sel R [] []
  | skip {a : α} {l : List α} {ys : List β} : Sel R l ys → Sel R (a :: l) ys
  | take {a : α} {l : List α} {y : β} {ys : List β} : R a y → Sel R l ys → Sel R (a :: l) (y :: ys)
theorem w_comp {g : α → WM (Option β)} {Q : List β → Prop} (R : α → β → Prop) : ∀ {l : List α}, (∀ x ∈ l, ∀ Q' : Option β → Prop, Q' none → (∀ y, R x y → Q' (some y)) → Wp (g x) Q') → (∀ ys, Sel R l ys → Q ys) → Wp (wC g l) Q
  | [], _, h => by rw [wp_iff]; exact h [] .nil
  | x :: l, hk, h => by
    unfold wC
    refine w_D (hk x List.mem_cons_self _ ?_ fun y hy => ?_)
    · refine w_D (w_comp R (fun z hz => hk z (List.mem_cons_of_mem _ hz)) fun ys hys => ?_)
      rw [wp_iff]; exact h _ (.skip hys)
    · refine w_D (w_comp R (fun z hz => hk z (List.mem_cons_of_mem _ hz)) fun ys hys => ?_)
      rw [wp_iff]; exact h _ (.take hy hys)
end
end ZP


namespace Q57
open PySem PySem.Spec PyProof.Rows L2 ZD
noncomputable section
def top (i : Nat) : Stmt := PySem.Challenge.pw_happenedfirst_k57_vectors.main.body.getD i (.Pass ⟨0, 0, 0, 0⟩)
def tf : List He.Defn := [("is_name", none), ("is_names", none), ("is_vector", none), ("at_most", none)]
abbrev TT (K : PySem.W.Frag) : TL := tf.map fun p => (none, (He.cT K p).2)
/-- what the top has left -/
structure Tops (w : World) (K : PySem.W.Frag) (mg : Str → Option Value) (base : Heap) : Prop where
  n_abs : mg "abs" = none
  n_all : mg "all" = none
  n_bool : mg "bool" = none
  n_dict : mg "dict" = none
  n_int : mg "int" = none
  n_isinstance : mg "isinstance" = none
  n_len : mg "len" = none
  n_list : mg "list" = none
  n_max : mg "max" = none
  n_range : mg "range" = none
  n_sorted : mg "sorted" = none
  n_str : mg "str" = none
  n_sum : mg "sum" = none
  n_tuple : mg "tuple" = none
  g_MOST_NODES : Glo K mg "MOST_NODES" (.int 8)
  g_MOST_NUMBER : Glo K mg "MOST_NUMBER" (.int 1000000000)
  f_is_number : ∃ fd, FunD K "is_number" "is_number" (defArgs (top 1)) (defBody (top 1)) (defScope (top 1)) [] [] (He.ga K "is_number") fd ∧ mg "is_number" = some (.ref (He.ga K "is_number"))
  f_is_name : ∃ fd, FunD K "is_name" "is_name" (defArgs (top 2)) (defBody (top 2)) (defScope (top 2)) [] [] (He.ga K "is_name") fd ∧ mg "is_name" = some (.ref (He.ga K "is_name"))
  f_is_names : ∃ fd, FunD K "is_names" "is_names" (defArgs (top 3)) (defBody (top 3)) (defScope (top 3)) [] [] (He.ga K "is_names") fd ∧ mg "is_names" = some (.ref (He.ga K "is_names"))
  f_is_vector : ∃ fd, FunD K "is_vector" "is_vector" (defArgs (top 7)) (defBody (top 7)) (defScope (top 7)) [] [] (He.ga K "is_vector") fd ∧ mg "is_vector" = some (.ref (He.ga K "is_vector"))
  f_number_of : ∃ fd, FunD K "number_of" "number_of" (defArgs (top 8)) (defBody (top 8)) (defScope (top 8)) [] [] (He.ga K "number_of") fd ∧ mg "number_of" = some (.ref (He.ga K "number_of"))
  f_at_most : ∃ fd, FunD K "at_most" "at_most" (defArgs (top 9)) (defBody (top 9)) (defScope (top 9)) [] [] (He.ga K "at_most") fd ∧ mg "at_most" = some (.ref (He.ga K "at_most"))
  f_join : ∃ fd, FunD K "join" "join" (defArgs (top 10)) (defBody (top 10)) (defScope (top 10)) [] [] (He.ga K "join") fd ∧ mg "join" = some (.ref (He.ga K "join"))
  f_compare : ∃ fd, FunD K "compare" "compare" (defArgs (top 11)) (defBody (top 11)) (defScope (top 11)) [] [] (He.ga K "compare") fd ∧ mg "compare" = some (.ref (He.ga K "compare"))
  f_raised : ∃ fd, FunD K "raised" "raised" (defArgs (top 12)) (defBody (top 12)) (defScope (top 12)) [] [] (He.ga K "raised") fd ∧ mg "raised" = some (.ref (He.ga K "raised"))
  f__law_open : ∃ fd, FunD K "_law_open" "_law_open" (defArgs (top 14)) (defBody (top 14)) (defScope (top 14)) [] [] (He.ga K "_law_open") fd ∧ mg "_law_open" = some (.ref (He.ga K "_law_open"))
  f__law_mixed : ∃ fd, FunD K "_law_mixed" "_law_mixed" (defArgs (top 15)) (defBody (top 15)) (defScope (top 15)) [] [] (He.ga K "_law_mixed") fd ∧ mg "_law_mixed" = some (.ref (He.ga K "_law_mixed"))
  f__law_draw : ∃ fd, FunD K "_law_draw" "_law_draw" (defArgs (top 16)) (defBody (top 16)) (defScope (top 16)) [] [] (He.ga K "_law_draw") fd ∧ mg "_law_draw" = some (.ref (He.ga K "_law_draw"))
  f__law_int : ∃ fd, FunD K "_law_int" "_law_int" (defArgs (top 17)) (defBody (top 17)) (defScope (top 17)) [] [] (He.ga K "_law_int") fd ∧ mg "_law_int" = some (.ref (He.ga K "_law_int"))
  f__law_same : ∃ fd, FunD K "_law_same" "_law_same" (defArgs (top 18)) (defBody (top 18)) (defScope (top 18)) [] [] (He.ga K "_law_same") fd ∧ mg "_law_same" = some (.ref (He.ga K "_law_same"))
  f__law_vector : ∃ fd, FunD K "_law_vector" "_law_vector" (defArgs (top 19)) (defBody (top 19)) (defScope (top 19)) [] [] (He.ga K "_law_vector") fd ∧ mg "_law_vector" = some (.ref (He.ga K "_law_vector"))
  f__law_number : ∃ fd, FunD K "_law_number" "_law_number" (defArgs (top 20)) (defBody (top 20)) (defScope (top 20)) [] [] (He.ga K "_law_number") fd ∧ mg "_law_number" = some (.ref (He.ga K "_law_number"))
  f__law_join : ∃ fd, FunD K "_law_join" "_law_join" (defArgs (top 21)) (defBody (top 21)) (defScope (top 21)) [] [] (He.ga K "_law_join") fd ∧ mg "_law_join" = some (.ref (He.ga K "_law_join"))
  f__law_at_most : ∃ fd, FunD K "_law_at_most" "_law_at_most" (defArgs (top 22)) (defBody (top 22)) (defScope (top 22)) [] [] (He.ga K "_law_at_most") fd ∧ mg "_law_at_most" = some (.ref (He.ga K "_law_at_most"))
  f__law_wrong : ∃ fd, FunD K "_law_wrong" "_law_wrong" (defArgs (top 23)) (defBody (top 23)) (defScope (top 23)) [] [] (He.ga K "_law_wrong") fd ∧ mg "_law_wrong" = some (.ref (He.ga K "_law_wrong"))
  f_law : ∃ fd, FunD K "law" "law" (defArgs (top 24)) (defBody (top 24)) (defScope (top 24)) [] [] (He.ga K "law") fd ∧ mg "law" = some (.ref (He.ga K "law"))
  t_is_name : GxR.TabB base mg (He.cT K ("is_name", none)).1 (He.cT K ("is_name", none)).2
  t_is_names : GxR.TabB base mg (He.cT K ("is_names", none)).1 (He.cT K ("is_names", none)).2
  t_is_vector : GxR.TabB base mg (He.cT K ("is_vector", none)).1 (He.cT K ("is_vector", none)).2
  t_at_most : GxR.TabB base mg (He.cT K ("at_most", none)).1 (He.cT K ("at_most", none)).2
section
variable {P : Program} {w : World} {K : PySem.W.Frag} {mg : Str → Option Value} {base : Heap}
theorem sc_is_number : FnScope ["value", "least", "most"] ["value", "least", "most"] (defScope (top 1)) := ⟨rfl, rfl, rfl, by decide +kernel, rfl, by decide +kernel, by decide +kernel⟩
def m_is_number : M Fl := (mret (shV (vand (fz (op1 (oTest isiInt) (nm 0))) (vand (vnot (fz (op1 (oTest isiBool) (nm 0)))) (fz (op2c oLe oLe (nm 1) (nm 0) (nm 2)))))))
def F_is_number : Fn := run 3 m_is_number
theorem ok_is_number (t : Tops w K mg base) : Has P w K mg base (TT K) "is_number" 1 ["value", "least", "most"] 3 F_is_number := by
  obtain ⟨fd, F, hm⟩ := t.f_is_number
  have key := fn_okD (P := P) (w := w) (mg := mg) (base := base) (T := TT K) (k := 0) (m := m_is_number) F sc_is_number fun cdv A outer s H E hcd hr => (gss_one (gs_ret (ge_sh (gd_and (gd_fz (ge_isi isi_int rfl t.n_isinstance rfl t.n_int (go_s 0 (pv 0)))) (gd_and (gd_not (gd_fz (ge_isi isi_bool rfl t.n_isinstance rfl t.n_bool (go_s 0 (pv 0))))) (gd_one (gd_fz (ge_chain c_le c_le (go_s 1 (pv 1)) (go_s 0 (pv 0)) (go_s 2 (pv 2))))))))))
  exact ⟨fd, hm, F.kp, F.bindsN (fun _ _ _ _ _ _ us hl => match us, hl with | [_, _, _], _ => rfl), key⟩
theorem sc_is_name : FnScope ["value", "sign"] ["value"] (defScope (top 2)) := ⟨rfl, rfl, rfl, by decide +kernel, rfl, by decide +kernel, by decide +kernel⟩
def c1_is_name : M PyData := mall [1] (seqM (nv 0)) (tgN 1) mtrue (fz (op2c oLe oLe (odD (cst (.str "a"))) (nm 1) (odD (cst (.str "z")))))
def m_is_name : M Fl := (mret (shV (vand (fz (op1 (oTest isiStr) (nm 0))) (vand (fz (op2c oLe oLe (odD (cst (.int 1))) (odD (fz (op1 oLen (nm 0)))) (odD (cst (.int 16))))) c1_is_name))))
def F_is_name : Fn := run 2 m_is_name
theorem ok_is_name (t : Tops w K mg base) : Has P w K mg base (TT K) "is_name" 3 ["value"] 1 F_is_name := by
  obtain ⟨fd, F, hm⟩ := t.f_is_name
  have hTB := t.t_is_name
  have hP : ((none : Option Addr), (He.cT K ("is_name", none)).2) ∈ TT K := List.mem_map.mpr ⟨("is_name", none), by decide, rfl⟩
  have hcode := code_of (K := ⟨K, P, w⟩) (p := ("is_name", none)) F rfl
  have key := fn_okD (P := P) (w := w) (mg := mg) (base := base) (T := TT K) (k := 2) (m := m_is_name) F sc_is_name fun cdv A outer s H E hcd hr => (gss_one (gs_ret (ge_sh (gd_and (gd_fz (ge_isi isi_str rfl t.n_isinstance rfl t.n_str (go_s 0 (pv 0)))) (gd_and (gd_fz (ge_chain c_le c_le (go_d gd_int) (go_d (gd_fz (ge_len rfl t.n_len (go_s 0 (pv 0))))) (go_d gd_int))) (gd_one (gd_all (k := 0) (own := [("sign", 1)]) rfl (cdin_top hP hTB (hcd.symm.trans hcode)) (hr.mono (by omega)) sc_is_name.nd rfl rfl t.n_all rfl rfl (blk_of (by kernel_rfl)) (gi_seq (gd_v 0 (pv 0))) (fun _ _ _ _ _ _ _ hr2 => (gg_name (by decide) sc_is_name.nd rfl (by first | exact .inl rfl | exact .inr rfl))) (fun _ _ _ _ _ _ _ hr2 => gts_nil) (fun _ _ _ _ _ _ _ hr2 => (gd_fz (ge_chain c_le c_le (go_d gd_str) (go_s 1 (pv 1)) (go_d gd_str)))))))))))
  exact ⟨fd, hm, F.kp, F.bindsN (fun _ _ _ _ _ _ us hl => match us, hl with | [_], _ => rfl), key⟩
theorem sc_is_names : FnScope ["value", "least", "most", "one", "k"] ["value", "least", "most"] (defScope (top 3)) := ⟨rfl, rfl, rfl, by decide +kernel, rfl, by decide +kernel, by decide +kernel⟩
def c1_is_names : M PyData := mall [3] (seqM (nv 0)) (tgN 3) mtrue (fz (mcall 1 F_is_name (macons (nv 3) manil)))
def c2_is_names : M PyData := mall [4] (rngM1 (fz (op2 oSub (odD (fz (op1 oLen (nm 0)))) (odD (cst (.int 1)))))) (tgN 4) mtrue (fz (op2 oLt (odD (fz (op2 oIx (nm 0) (nm 4)))) (odD (fz (op2 oIx (nm 0) (odD (fz (op2 oAdd (nm 4) (odD (cst (.int 1)))))))))))
def m_is_names : M Fl := (mseq (mifS (mor (mnot (tst (fz (op1 (oTest isiTup) (nm 0))))) (mnot (tst (fz (op2c oLe oLe (nm 1) (odD (fz (op1 oLen (nm 0)))) (nm 2))))))
  (mret (shV (cst (.bool false))))
  mnx)
 (mseq (mifS (mnot (tst c1_is_names))
  (mret (shV (cst (.bool false))))
  mnx)
 (mret (shV c2_is_names))))
def F_is_names : Fn := run 5 m_is_names
theorem ok_is_names (t : Tops w K mg base) : Has P w K mg base (TT K) "is_names" 6 ["value", "least", "most"] 3 F_is_names := by
  obtain ⟨fd, F, hm⟩ := t.f_is_names
  have hTB := t.t_is_names
  have hP : ((none : Option Addr), (He.cT K ("is_names", none)).2) ∈ TT K := List.mem_map.mpr ⟨("is_names", none), by decide, rfl⟩
  have hcode := code_of (K := ⟨K, P, w⟩) (p := ("is_names", none)) F rfl
  have H_is_name := ok_is_name (P := P) t
  have key := fn_okD (P := P) (w := w) (mg := mg) (base := base) (T := TT K) (k := 5) (m := m_is_names) F sc_is_names fun cdv A outer s H E hcd hr => (gss_cons (gs_if (gt_w (gw_or (gt_not (gt_val (gd_fz (ge_isi isi_tup rfl t.n_isinstance rfl t.n_tuple (go_s 0 (pv 0)))))) (gw_or1 (gt_not (gt_chain c_le c_le (go_s 1 (pv 1)) (go_d (gd_fz (ge_len rfl t.n_len (go_s 0 (pv 0))))) (go_s 2 (pv 2)))))))
  (gss_one (gs_ret (ge_sh gd_bool)))
  gss_nil)
 (gss_cons (gs_if (gt_not (gt_val (gd_all (k := 3) (own := [("one", 3)]) rfl (cdin_top hP hTB (hcd.symm.trans hcode)) (hr.mono (by omega)) sc_is_names.nd rfl rfl t.n_all rfl rfl (blk_of (by kernel_rfl)) (gi_seq (gd_v 0 (pv 0))) (fun _ _ _ _ _ _ _ hr2 => (gg_name (by decide) sc_is_names.nd rfl (by first | exact .inl rfl | exact .inr rfl))) (fun _ _ _ _ _ _ _ hr2 => gts_nil) (fun _ _ _ _ _ _ _ hr2 => (gd_fz (ge_callH (has_up H_is_name) hr2 (by omega) rfl (ga_cons (gd_v 3 (pv 3)) ga_nil)))))))
  (gss_one (gs_ret (ge_sh gd_bool)))
  gss_nil)
 (gss_one (gs_ret (ge_sh (gd_all (k := 0) (own := [("k", 4)]) rfl (cdin_top hP hTB (hcd.symm.trans hcode)) (hr.mono (by omega)) sc_is_names.nd rfl rfl t.n_all rfl rfl (blk_of (by kernel_rfl)) (gi_range1 rfl t.n_range (gd_fz (ge_sub (go_d (gd_fz (ge_len rfl t.n_len (go_s 0 (pv 0))))) (go_d gd_int)))) (fun _ _ _ _ _ _ _ hr2 => (gg_name (by decide) sc_is_names.nd rfl (by first | exact .inl rfl | exact .inr rfl))) (fun _ _ _ _ _ _ _ hr2 => gts_nil) (fun _ _ _ _ _ _ _ hr2 => (gd_fz (ge_cmp c_lt (go_d (gd_fz (ge_ix (go_s 0 (pv 0)) (go_s 4 (pv 4))))) (go_d (gd_fz (ge_ix (go_s 0 (pv 0)) (go_d (gd_fz (ge_add (go_s 4 (pv 4)) (go_d gd_int))))))))))))))))
  exact ⟨fd, hm, F.kp, F.bindsN (fun _ _ _ _ _ _ us hl => match us, hl with | [_, _, _], _ => rfl), key⟩
theorem sc_is_vector : FnScope ["value", "pair"] ["value"] (defScope (top 7)) := ⟨rfl, rfl, rfl, by decide +kernel, rfl, by decide +kernel, by decide +kernel⟩
def c1_is_vector : M PyData := mall [1] (seqM (nv 0)) (tgN 1) mtrue (vand (fz (op1 (oTest isiTup) (nm 1))) (fz (op2 oEq (odD (fz (op1 oLen (nm 1)))) (odD (cst (.int 2))))))
def c2_is_vector : M Vl := mcomp [1] (seqM (nv 0)) (tgN 1) mtrue (fz (op2 oIx (nm 1) (odD (cst (.int 0)))))
def c3_is_vector : M PyData := mall [1] (seqM (nv 0)) (tgN 1) mtrue (fz (mcall 3 F_is_number (macons (fz (op2 oIx (nm 1) (odD (cst (.int 1))))) (macons (cst (.int 1)) (macons (cst (.int 1000000000)) manil)))))
def m_is_vector : M Fl := (mseq (mifS (mor (mnot (tst (fz (op1 (oTest isiTup) (nm 0))))) (mnot (tst c1_is_vector)))
  (mret (shV (cst (.bool false))))
  mnx)
 (mseq (mifS (mnot (tst (fz (mcall 3 F_is_names (macons (fz (op1 oTuple (odD (fz c2_is_vector)))) (macons (cst (.int 0)) (macons (cst (.int 8)) manil)))))))
  (mret (shV (cst (.bool false))))
  mnx)
 (mret (shV c3_is_vector))))
def F_is_vector : Fn := run 2 m_is_vector
theorem ok_is_vector (t : Tops w K mg base) : Has P w K mg base (TT K) "is_vector" 7 ["value"] 1 F_is_vector := by
  obtain ⟨fd, F, hm⟩ := t.f_is_vector
  have hTB := t.t_is_vector
  have hP : ((none : Option Addr), (He.cT K ("is_vector", none)).2) ∈ TT K := List.mem_map.mpr ⟨("is_vector", none), by decide, rfl⟩
  have hcode := code_of (K := ⟨K, P, w⟩) (p := ("is_vector", none)) F rfl
  have H_is_names := ok_is_names (P := P) t
  have H_is_number := ok_is_number (P := P) t
  have key := fn_okD (P := P) (w := w) (mg := mg) (base := base) (T := TT K) (k := 6) (m := m_is_vector) F sc_is_vector fun cdv A outer s H E hcd hr => (gss_cons (gs_if (gt_w (gw_or (gt_not (gt_val (gd_fz (ge_isi isi_tup rfl t.n_isinstance rfl t.n_tuple (go_s 0 (pv 0)))))) (gw_or1 (gt_not (gt_val (gd_all (k := 0) (own := [("pair", 1)]) rfl (cdin_top hP hTB (hcd.symm.trans hcode)) (hr.mono (by omega)) sc_is_vector.nd rfl rfl t.n_all rfl rfl (blk_of (by kernel_rfl)) (gi_seq (gd_v 0 (pv 0))) (fun _ _ _ _ _ _ _ hr2 => (gg_name (by decide) sc_is_vector.nd rfl (by first | exact .inl rfl | exact .inr rfl))) (fun _ _ _ _ _ _ _ hr2 => gts_nil) (fun _ _ _ _ _ _ _ hr2 => (gd_and (gd_fz (ge_isi isi_tup rfl t.n_isinstance rfl t.n_tuple (go_s 1 (pv 1)))) (gd_one (gd_fz (ge_cmp (c_eq hr2) (go_d (gd_fz (ge_len rfl t.n_len (go_s 1 (pv 1))))) (go_d gd_int))))))))))))
  (gss_one (gs_ret (ge_sh gd_bool)))
  gss_nil)
 (gss_cons (gs_if (gt_not (gt_val (gd_fz (ge_callH H_is_names hr (by omega) rfl (ga_cons (gd_fz (ge_tuple rfl t.n_tuple (go_d (gd_fz (ge_lc (own := [("pair", 1)]) rfl rfl sc_is_vector.nd (gi_seq (gd_v 0 (pv 0))) (blk_of (by kernel_rfl)) (fun _ _ _ _ _ => (gg_name (by decide) sc_is_vector.nd rfl (by first | exact .inl rfl | exact .inr rfl))) (fun _ _ _ _ _ => gts_nil) (fun _ _ _ _ _ => (gd_fz (ge_ix (go_s 1 (pv 1)) (go_d gd_int))))))))) (ga_cons gd_int (ga_cons (gd_glo t.g_MOST_NODES rfl) ga_nil)))))))
  (gss_one (gs_ret (ge_sh gd_bool)))
  gss_nil)
 (gss_one (gs_ret (ge_sh (gd_all (k := 1) (own := [("pair", 1)]) rfl (cdin_top hP hTB (hcd.symm.trans hcode)) (hr.mono (by omega)) sc_is_vector.nd rfl rfl t.n_all rfl rfl (blk_of (by kernel_rfl)) (gi_seq (gd_v 0 (pv 0))) (fun _ _ _ _ _ _ _ hr2 => (gg_name (by decide) sc_is_vector.nd rfl (by first | exact .inl rfl | exact .inr rfl))) (fun _ _ _ _ _ _ _ hr2 => gts_nil) (fun _ _ _ _ _ _ _ hr2 => (gd_fz (ge_callH (has_up H_is_number) hr2 (by omega) rfl (ga_cons (gd_fz (ge_ix (go_s 1 (pv 1)) (go_d gd_int))) (ga_cons gd_int (ga_cons (gd_glo t.g_MOST_NUMBER rfl) ga_nil))))))))))))
  exact ⟨fd, hm, F.kp, F.bindsN (fun _ _ _ _ _ _ us hl => match us, hl with | [_], _ => rfl), key⟩
theorem sc_number_of : FnScope ["vector", "node"] ["vector", "node"] (defScope (top 8)) := ⟨rfl, rfl, rfl, by decide +kernel, rfl, by decide +kernel, by decide +kernel⟩
def m_number_of : M Fl := (mret (shV (mget2v (op1L oDictP (lkO (nm 0))) (nm 1) (cst (.int 0)))))
def F_number_of : Fn := run 2 m_number_of
theorem ok_number_of (t : Tops w K mg base) : Has P w K mg base (TT K) "number_of" 1 ["vector", "node"] 2 F_number_of := by
  obtain ⟨fd, F, hm⟩ := t.f_number_of
  have key := fn_okD (P := P) (w := w) (mg := mg) (base := base) (T := TT K) (k := 0) (m := m_number_of) F sc_number_of fun cdv A outer s H E hcd hr => (gss_one (gs_ret (ge_sh (gd_get2v hr (ge_dictP rfl (gl_o (go_s 0 (pv 0))) rfl t.n_dict) (go_s 1 (pv 1)) gd_int ⟨rfl, rfl, rfl, rfl⟩))))
  exact ⟨fd, hm, F.kp, F.bindsN (fun _ _ _ _ _ _ us hl => match us, hl with | [_, _], _ => rfl), key⟩
theorem sc_at_most : FnScope ["one", "other", "node", "number"] ["one", "other"] (defScope (top 9)) := ⟨rfl, rfl, rfl, by decide +kernel, rfl, by decide +kernel, by decide +kernel⟩
def c1_at_most : M PyData := mall [2, 3] (seqM (nv 0)) (tgtup 2 (tgcons (tgN 2) (tgcons (tgN 3) tgnil))) mtrue (fz (op2 oLe (nm 3) (odD (fz (mcall 2 F_number_of (macons (nv 1) (macons (nv 2) manil)))))))
def m_at_most : M Fl := (mret (shV c1_at_most))
def F_at_most : Fn := run 4 m_at_most
theorem ok_at_most (t : Tops w K mg base) : Has P w K mg base (TT K) "at_most" 4 ["one", "other"] 2 F_at_most := by
  obtain ⟨fd, F, hm⟩ := t.f_at_most
  have hTB := t.t_at_most
  have hP : ((none : Option Addr), (He.cT K ("at_most", none)).2) ∈ TT K := List.mem_map.mpr ⟨("at_most", none), by decide, rfl⟩
  have hcode := code_of (K := ⟨K, P, w⟩) (p := ("at_most", none)) F rfl
  have H_number_of := ok_number_of (P := P) t
  have key := fn_okD (P := P) (w := w) (mg := mg) (base := base) (T := TT K) (k := 3) (m := m_at_most) F sc_at_most fun cdv A outer s H E hcd hr => (gss_one (gs_ret (ge_sh (gd_all (k := 1) (own := [("node", 2), ("number", 3)]) rfl (cdin_top hP hTB (hcd.symm.trans hcode)) (hr.mono (by omega)) sc_at_most.nd rfl rfl t.n_all rfl rfl (blk_of (by kernel_rfl)) (gi_seq (gd_v 0 (pv 0))) (fun _ _ _ _ _ _ _ hr2 => (gg_top (ggt_tup rfl (ggs_cons (gg_name (by decide) sc_at_most.nd rfl (by first | exact .inl rfl | exact .inr rfl)) (ggs_cons (gg_name (by decide) sc_at_most.nd rfl (by first | exact .inl rfl | exact .inr rfl)) ggs_nil))))) (fun _ _ _ _ _ _ _ hr2 => gts_nil) (fun _ _ _ _ _ _ _ hr2 => (gd_fz (ge_cmp c_le (go_s 3 (pv 3)) (go_d (gd_fz (ge_callH (has_up H_number_of) hr2 (by omega) rfl (ga_cons (gd_v 1 (pv 1)) (ga_cons (gd_v 2 (pv 2)) ga_nil))))))))))))
  exact ⟨fd, hm, F.kp, F.bindsN (fun _ _ _ _ _ _ us hl => match us, hl with | [_, _], _ => rfl), key⟩
theorem sc_join : FnScope ["one", "other", "told", "node", "number"] ["one", "other"] (defScope (top 10)) := ⟨rfl, rfl, rfl, by decide +kernel, rfl, by decide +kernel, by decide +kernel⟩
def l1_join : M Fl := mfor (seqM (nv 0)) (tgtup 2 (tgcons (tgN 3) (tgcons (tgN 4) tgnil)))
  (mdst 2 (fz (op2 oMax2 (nm 4) (odD (mget2 (nm 2) (nm 3) (cst (.int 0)))))) (nm 3))
def m_join : M Fl := (mseq (asgN 2 (op1L oDictP (lkO (nm 1))))
 (mseq l1_join
 (mret (op1 oTuple (odD (fz (mItX srtF (lkO (nm 2)))))))))
def F_join : Fn := run 5 m_join
theorem ok_join (t : Tops w K mg base) : Has P w K mg base (TT K) "join" 1 ["one", "other"] 2 F_join := by
  obtain ⟨fd, F, hm⟩ := t.f_join
  have key := fn_okD (P := P) (w := w) (mg := mg) (base := base) (T := TT K) (k := 0) (m := m_join) F sc_join fun cdv A outer s H E hcd hr => (gss_cons (gs_set (i := 2) sc_join.nd rfl (by first | exact .inl rfl | exact .inr rfl) (ge_dictP rfl (gl_o (go_s 1 (pv 1))) rfl t.n_dict))
 (gss_cons (gs_for (L := [3, 4]) PassesOwn.never rfl (gi_seq (gd_v 0 (pv 0))) (gg_top (ggt_tup rfl (ggs_cons (gg_name (by decide) sc_join.nd rfl (by first | exact .inl rfl | exact .inr rfl)) (ggs_cons (gg_name (by decide) sc_join.nd rfl (by first | exact .inl rfl | exact .inr rfl)) ggs_nil))))
  (gss_one (gs_dstore hr (pv 2) (go_s 3 (pv 3)) (gd_fz (ge_max2 rfl rfl t.n_max (go_s 4 (pv 4)) (go_d (gd_get2 hr (go_s 2 (pv 2)) (go_s 3 (pv 3)) gd_int ⟨rfl, rfl, rfl, rfl⟩)))))))
 (gss_one (gs_ret (ge_tuple rfl t.n_tuple (go_d (gd_fz (ge_sitems hr rfl (gl_o (go_s 2 (pv 2))) rfl t.n_sorted))))))))
  exact ⟨fd, hm, F.kp, F.bindsN (fun _ _ _ _ _ _ us hl => match us, hl with | [_, _], _ => rfl), key⟩
theorem sc_compare : FnScope ["one", "other"] ["one", "other"] (defScope (top 11)) := ⟨rfl, rfl, rfl, by decide +kernel, rfl, by decide +kernel, by decide +kernel⟩
def m_compare : M Fl := (mseq (mifS (tst (fz (mcall 2 F_at_most (macons (nv 0) (macons (nv 1) manil)))))
  (mret (shV (mif (tst (fz (op2 oEq (nm 0) (nm 1)))) (cst (.str "same")) (cst (.str "older")))))
  mnx)
 (mret (shV (mif (tst (fz (mcall 2 F_at_most (macons (nv 1) (macons (nv 0) manil))))) (cst (.str "newer")) (cst (.str "beside"))))))
def F_compare : Fn := run 2 m_compare
theorem ok_compare (t : Tops w K mg base) : Has P w K mg base (TT K) "compare" 5 ["one", "other"] 2 F_compare := by
  obtain ⟨fd, F, hm⟩ := t.f_compare
  have H_at_most := ok_at_most (P := P) t
  have key := fn_okD (P := P) (w := w) (mg := mg) (base := base) (T := TT K) (k := 4) (m := m_compare) F sc_compare fun cdv A outer s H E hcd hr => (gss_cons (gs_if (gt_val (gd_fz (ge_callH H_at_most hr (by omega) rfl (ga_cons (gd_v 0 (pv 0)) (ga_cons (gd_v 1 (pv 1)) ga_nil)))))
  (gss_one (gs_ret (ge_sh (gd_if (gt_cmp (c_eq hr) (go_s 0 (pv 0)) (go_s 1 (pv 1))) gd_str gd_str))))
  gss_nil)
 (gss_one (gs_ret (ge_sh (gd_if (gt_val (gd_fz (ge_callH H_at_most hr (by omega) rfl (ga_cons (gd_v 1 (pv 1)) (ga_cons (gd_v 0 (pv 0)) ga_nil))))) gd_str gd_str)))))
  exact ⟨fd, hm, F.kp, F.bindsN (fun _ _ _ _ _ _ us hl => match us, hl with | [_, _], _ => rfl), key⟩
theorem sc_raised : FnScope ["vector", "node", "number", "told"] ["vector", "node", "number"] (defScope (top 12)) := ⟨rfl, rfl, rfl, by decide +kernel, rfl, by decide +kernel, by decide +kernel⟩
def m_raised : M Fl := (mseq (asgN 3 (op1L oDictP (lkO (nm 0))))
 (mseq (mdst 3 (fz (op2 oAdd (odD (mget2 (nm 3) (nm 1) (cst (.int 0)))) (nm 2))) (nm 1))
 (mret (op1 oTuple (odD (fz (mItX srtF (lkO (nm 3)))))))))
def F_raised : Fn := run 4 m_raised
theorem ok_raised (t : Tops w K mg base) : Has P w K mg base (TT K) "raised" 1 ["vector", "node", "number"] 3 F_raised := by
  obtain ⟨fd, F, hm⟩ := t.f_raised
  have key := fn_okD (P := P) (w := w) (mg := mg) (base := base) (T := TT K) (k := 0) (m := m_raised) F sc_raised fun cdv A outer s H E hcd hr => (gss_cons (gs_set (i := 3) sc_raised.nd rfl (by first | exact .inl rfl | exact .inr rfl) (ge_dictP rfl (gl_o (go_s 0 (pv 0))) rfl t.n_dict))
 (gss_cons (gs_dstore hr (pv 3) (go_s 1 (pv 1)) (gd_fz (ge_add (go_d (gd_get2 hr (go_s 3 (pv 3)) (go_s 1 (pv 1)) gd_int ⟨rfl, rfl, rfl, rfl⟩)) (go_s 2 (pv 2)))))
 (gss_one (gs_ret (ge_tuple rfl t.n_tuple (go_d (gd_fz (ge_sitems hr rfl (gl_o (go_s 3 (pv 3))) rfl t.n_sorted))))))))
  exact ⟨fd, hm, F.kp, F.bindsN (fun _ _ _ _ _ _ us hl => match us, hl with | [_, _, _], _ => rfl), key⟩
theorem sc__law_open : FnScope ["script", "cells", "cell"] ["script"] (defScope (top 14)) := ⟨rfl, rfl, rfl, by decide +kernel, rfl, by decide +kernel, by decide +kernel⟩
def c1__law_open : M Vl := mcomp [2] (seqM (fz (mslice (nm 0) pno (pso (odD (cst (.int 63))))))) (tgN 2) mtrue (fz (op1 (oI1 absI) (odD (fz (op1 (oI1 fun i => i) (nm 2))))))
def m__law_open : M Fl := (mseq (asgN 1 c1__law_open)
 (mret (mlst (macons (cst (.int 0)) (macons (cst (.int 0)) (macons (fz (op2 oAdd (nm 1) (odD (fz (mlst (macons (cst (.int 0)) manil)))))) manil))))))
def F__law_open : Fn := run 3 m__law_open
theorem ok__law_open (t : Tops w K mg base) : Has P w K mg base (TT K) "_law_open" 1 ["script"] 1 F__law_open := by
  obtain ⟨fd, F, hm⟩ := t.f__law_open
  have key := fn_okD (P := P) (w := w) (mg := mg) (base := base) (T := TT K) (k := 0) (m := m__law_open) F sc__law_open fun cdv A outer s H E hcd hr => (gss_cons (gs_setLc (own := [("cell", 2)]) rfl rfl sc__law_open.nd rfl rfl rfl (gi_seq (gd_fz (ge_slice (go_s 0 (pv 0)) gp_no (gp_so (go_d gd_int))))) (blk_of (by kernel_rfl)) (fun _ _ _ _ _ => (gg_name (by decide) sc__law_open.nd rfl (by first | exact .inl rfl | exact .inr rfl))) (fun _ _ _ _ _ => gts_nil) (fun _ _ _ _ _ => (gd_fz (ge_abs rfl t.n_abs (go_d (gd_fz (ge_int rfl t.n_int (go_s 2 (pv 2)))))))))
 (gss_one (gs_ret (ge_lst (ga_cons gd_int (ga_cons gd_int (ga_cons (gd_fz (ge_add (go_s 1 (pv 1)) (go_d (gd_fz (ge_lst (ga_cons gd_int ga_nil)))))) ga_nil)))))))
  exact ⟨fd, hm, F.kp, F.bindsN (fun _ _ _ _ _ _ us hl => match us, hl with | [_], _ => rfl), key⟩
theorem sc__law_mixed : FnScope ["cell", "turn", "number"] ["cell", "turn"] (defScope (top 15)) := ⟨rfl, rfl, rfl, by decide +kernel, rfl, by decide +kernel, by decide +kernel⟩
def m__law_mixed : M Fl := (mseq (asgN 2 (op2 oMod (odD (fz (op2 oAdd (odD (fz (op2 oAdd (odD (fz (op2 oMulU (odD (fz (op2 oMod (nm 0) (odD (fz (op2 oSub (odD (fz (op2 oPow (odD (cst (.int 2))) (odD (cst (.int 61)))))) (odD (cst (.int 1))))))))) (odD (cst (.int 6364136223846793005)))))) (odD (fz (op2 oMulU (nm 1) (odD (cst (.int 1442695040888963407))))))))) (odD (cst (.int 97)))))) (odD (fz (op2 oPow (odD (cst (.int 2))) (odD (cst (.int 61))))))))
 (mseq (asgN 2 (op2 oMod (odD (fz (op2 oMulU (odD (fz (op2 oXor (nm 2) (odD (fz (op2 oShr (nm 2) (odD (cst (.int 29))))))))) (odD (cst (.int 3935559000370003845)))))) (odD (fz (op2 oPow (odD (cst (.int 2))) (odD (cst (.int 61))))))))
 (mret (op2 oMod (odD (fz (op2 oMulU (odD (fz (op2 oXor (nm 2) (odD (fz (op2 oShr (nm 2) (odD (cst (.int 31))))))))) (odD (cst (.int 2862933555777941757)))))) (odD (fz (op2 oPow (odD (cst (.int 2))) (odD (cst (.int 61))))))))))
def F__law_mixed : Fn := run 3 m__law_mixed
theorem ok__law_mixed (t : Tops w K mg base) : Has P w K mg base (TT K) "_law_mixed" 1 ["cell", "turn"] 2 F__law_mixed := by
  obtain ⟨fd, F, hm⟩ := t.f__law_mixed
  have key := fn_okD (P := P) (w := w) (mg := mg) (base := base) (T := TT K) (k := 0) (m := m__law_mixed) F sc__law_mixed fun cdv A outer s H E hcd hr => (gss_cons (gs_set (i := 2) sc__law_mixed.nd rfl (by first | exact .inl rfl | exact .inr rfl) (ge_mod (go_d (gd_fz (ge_add (go_d (gd_fz (ge_add (go_d (gd_fz (ge_mulU (go_d (gd_fz (ge_mod (go_s 0 (pv 0)) (go_d (gd_fz (ge_sub (go_d (gd_fz (ge_pow (go_d gd_int) (go_d gd_int)))) (go_d gd_int))))))) (go_d gd_int)))) (go_d (gd_fz (ge_mulU (go_s 1 (pv 1)) (go_d gd_int))))))) (go_d gd_int)))) (go_d (gd_fz (ge_pow (go_d gd_int) (go_d gd_int))))))
 (gss_cons (gs_set (i := 2) sc__law_mixed.nd rfl (by first | exact .inl rfl | exact .inr rfl) (ge_mod (go_d (gd_fz (ge_mulU (go_d (gd_fz (ge_xor (go_s 2 (pv 2)) (go_d (gd_fz (ge_shr (go_s 2 (pv 2)) (go_d gd_int))))))) (go_d gd_int)))) (go_d (gd_fz (ge_pow (go_d gd_int) (go_d gd_int))))))
 (gss_one (gs_ret (ge_mod (go_d (gd_fz (ge_mulU (go_d (gd_fz (ge_xor (go_s 2 (pv 2)) (go_d (gd_fz (ge_shr (go_s 2 (pv 2)) (go_d gd_int))))))) (go_d gd_int)))) (go_d (gd_fz (ge_pow (go_d gd_int) (go_d gd_int)))))))))
  exact ⟨fd, hm, F.kp, F.bindsN (fun _ _ _ _ _ _ us hl => match us, hl with | [_, _], _ => rfl), key⟩
theorem sc__law_draw : FnScope ["draws", "size", "turn", "left", "cells", "cell"] ["draws", "size"] (defScope (top 16)) := ⟨rfl, rfl, rfl, by decide +kernel, rfl, by decide +kernel, by decide +kernel⟩
def m__law_draw : M Fl := (mseq (asgT (tgtup 3 (tgcons (tgN 2) (tgcons (tgN 3) (tgcons (tgN 4) tgnil)))) (nm 0))
 (mseq (mifS (tst (fz (op2 oLt (nm 3) (nm 1))))
  (mseq (asgN 5 (op2 oIx (nm 4) (odD (fz (op2 oMod (nm 2) (odD (fz (op1 oLen (nm 4)))))))))
 (mseq (asgN 3 (mif (mand (tst (fz (op2 oLt (nm 2) (odD (fz (op1 oLen (nm 4))))))) (tst (fz (op2 oGe (nm 5) (odD (fz (op2 oPow (odD (cst (.int 10))) (odD (cst (.int 18)))))))))) (shV (nv 5)) (mcall 2 F__law_mixed (macons (nv 5) (macons (nv 2) manil)))))
 (asgN 2 (op2 oAdd (nm 2) (odD (cst (.int 1)))))))
  mnx)
 (mseq (mst 0 (nv 2) (odD (cst (.int 0))))
 (mseq (mst 0 (fz (op2 oDiv (nm 3) (nm 1))) (odD (cst (.int 1))))
 (mret (op2 oMod (nm 3) (nm 1)))))))
def F__law_draw : Fn := run 6 m__law_draw
theorem ok__law_draw (t : Tops w K mg base) : Has P w K mg base (TT K) "_law_draw" 2 ["draws", "size"] 2 F__law_draw := by
  obtain ⟨fd, F, hm⟩ := t.f__law_draw
  have H__law_mixed := ok__law_mixed (P := P) t
  have key := fn_okD (P := P) (w := w) (mg := mg) (base := base) (T := TT K) (k := 1) (m := m__law_draw) F sc__law_draw fun cdv A outer s H E hcd hr => (gss_cons (gs_asgT (L := [2, 3, 4]) (go_s 0 (pv 0)) (ggt_tup rfl (ggs_cons (gg_name (by decide) sc__law_draw.nd rfl (by first | exact .inl rfl | exact .inr rfl)) (ggs_cons (gg_name (by decide) sc__law_draw.nd rfl (by first | exact .inl rfl | exact .inr rfl)) (ggs_cons (gg_name (by decide) sc__law_draw.nd rfl (by first | exact .inl rfl | exact .inr rfl)) ggs_nil)))))
 (gss_cons (gs_if (gt_cmp c_lt (go_s 3 (pv 3)) (go_s 1 (pv 1)))
  (gss_cons (gs_set (i := 5) sc__law_draw.nd rfl (by first | exact .inl rfl | exact .inr rfl) (ge_ix (go_s 4 (pv 4)) (go_d (gd_fz (ge_mod (go_s 2 (pv 2)) (go_d (gd_fz (ge_len rfl t.n_len (go_s 4 (pv 4))))))))))
 (gss_cons (gs_set (i := 3) sc__law_draw.nd rfl (by first | exact .inl rfl | exact .inr rfl) (ge_if (gt_w (gw_and (gt_cmp c_lt (go_s 2 (pv 2)) (go_d (gd_fz (ge_len rfl t.n_len (go_s 4 (pv 4)))))) (gw_and1 (gt_cmp c_ge (go_s 5 (pv 5)) (go_d (gd_fz (ge_pow (go_d gd_int) (go_d gd_int)))))))) (ge_sh (gd_v 5 (pv 5))) (ge_callH H__law_mixed hr (by omega) rfl (ga_cons (gd_v 5 (pv 5)) (ga_cons (gd_v 2 (pv 2)) ga_nil)))))
 (gss_one (gs_set (i := 2) sc__law_draw.nd rfl (by first | exact .inl rfl | exact .inr rfl) (ge_add (go_s 2 (pv 2)) (go_d gd_int))))))
  gss_nil)
 (gss_cons (gs_store (pv 0) (go_d gd_int) (gd_v 2 (pv 2)))
 (gss_cons (gs_store (pv 0) (go_d gd_int) (gd_fz (ge_div (go_s 3 (pv 3)) (go_s 1 (pv 1)))))
 (gss_one (gs_ret (ge_mod (go_s 3 (pv 3)) (go_s 1 (pv 1)))))))))
  exact ⟨fd, hm, F.kp, F.bindsN (fun _ _ _ _ _ _ us hl => match us, hl with | [_, _], _ => rfl), key⟩
theorem sc__law_int : FnScope ["value"] ["value"] (defScope (top 17)) := ⟨rfl, rfl, rfl, by decide +kernel, rfl, by decide +kernel, by decide +kernel⟩
def m__law_int : M Fl := (mret (shV (vand (fz (op1 (oTest isiInt) (nm 0))) (vnot (fz (op1 (oTest isiBool) (nm 0)))))))
def F__law_int : Fn := run 1 m__law_int
theorem ok__law_int (t : Tops w K mg base) : Has P w K mg base (TT K) "_law_int" 1 ["value"] 1 F__law_int := by
  obtain ⟨fd, F, hm⟩ := t.f__law_int
  have key := fn_okD (P := P) (w := w) (mg := mg) (base := base) (T := TT K) (k := 0) (m := m__law_int) F sc__law_int fun cdv A outer s H E hcd hr => (gss_one (gs_ret (ge_sh (gd_and (gd_fz (ge_isi isi_int rfl t.n_isinstance rfl t.n_int (go_s 0 (pv 0)))) (gd_one (gd_not (gd_fz (ge_isi isi_bool rfl t.n_isinstance rfl t.n_bool (go_s 0 (pv 0))))))))))
  exact ⟨fd, hm, F.kp, F.bindsN (fun _ _ _ _ _ _ us hl => match us, hl with | [_], _ => rfl), key⟩
theorem sc__law_same : FnScope ["told", "due"] ["told", "due"] (defScope (top 18)) := ⟨rfl, rfl, rfl, by decide +kernel, rfl, by decide +kernel, by decide +kernel⟩
def m__law_same : M Fl := (mret (mif (tst (nv 1)) (op2 (oIs false) (nm 0) (odD (cst (.bool true)))) (op2 (oIs false) (nm 0) (odD (cst (.bool false))))))
def F__law_same : Fn := run 2 m__law_same
theorem ok__law_same (t : Tops w K mg base) : Has P w K mg base (TT K) "_law_same" 1 ["told", "due"] 2 F__law_same := by
  obtain ⟨fd, F, hm⟩ := t.f__law_same
  have key := fn_okD (P := P) (w := w) (mg := mg) (base := base) (T := TT K) (k := 0) (m := m__law_same) F sc__law_same fun cdv A outer s H E hcd hr => (gss_one (gs_ret (ge_if (gt_val (gd_v 1 (pv 1))) (ge_cmp c_is (go_s 0 (pv 0)) (go_d gd_bool)) (ge_cmp c_is (go_s 0 (pv 0)) (go_d gd_bool)))))
  exact ⟨fd, hm, F.kp, F.bindsN (fun _ _ _ _ _ _ us hl => match us, hl with | [_, _], _ => rfl), key⟩
theorem sc__law_vector : FnScope ["draws", "most", "names", "size", "name"] ["draws", "most"] (defScope (top 19)) := ⟨rfl, rfl, rfl, by decide +kernel, rfl, by decide +kernel, by decide +kernel⟩
def c1__law_vector : M Vl := mcomp [4] (seqM (fz (mslice (nm 2) pno (pso (nm 1))))) (tgN 4) (tst (fz (op2 oGt (odD (fz (mcallI 2 F__law_draw 0 (macons (cst (.int 3)) manil)))) (odD (cst (.int 0)))))) (mtup (macons (nv 4) (macons (fz (op2 oAdd (odD (cst (.int 1))) (odD (fz (mcallI 2 F__law_draw 0 (macons (nv 3) manil)))))) manil)))
def m__law_vector : M Fl := (mseq (asgN 2 (mlst (macons (cst (.str "a")) (macons (cst (.str "bob")) (macons (cst (.str "c")) (macons (cst (.str "d")) (macons (cst (.str "e")) (macons (cst (.str "f")) (macons (cst (.str "g")) (macons (cst (.str "h")) manil))))))))))
 (mseq (asgN 3 (opv2 oIx (mlst (macons (cst (.int 2)) (macons (cst (.int 4)) (macons (fz (op2 oPow (odD (cst (.int 10))) (odD (cst (.int 9))))) manil)))) (odD (fz (mcallI 2 F__law_draw 0 (macons (cst (.int 3)) manil))))))
 (mret (op1 oTuple (odD (fz c1__law_vector))))))
def F__law_vector : Fn := run 5 m__law_vector
theorem ok__law_vector (t : Tops w K mg base) : Has P w K mg base (TT K) "_law_vector" 3 ["draws", "most"] 2 F__law_vector := by
  obtain ⟨fd, F, hm⟩ := t.f__law_vector
  have H__law_draw := ok__law_draw (P := P) t
  have key := fn_okD (P := P) (w := w) (mg := mg) (base := base) (T := TT K) (k := 2) (m := m__law_vector) F sc__law_vector fun cdv A outer s H E hcd hr => (gss_cons (gs_set (i := 2) sc__law_vector.nd rfl (by first | exact .inl rfl | exact .inr rfl) (ge_lst (ga_cons gd_str (ga_cons gd_str (ga_cons gd_str (ga_cons gd_str (ga_cons gd_str (ga_cons gd_str (ga_cons gd_str (ga_cons gd_str ga_nil))))))))))
 (gss_cons (gs_set (i := 3) sc__law_vector.nd rfl (by first | exact .inl rfl | exact .inr rfl) (ge_ixv (ge_lst (ga_cons gd_int (ga_cons gd_int (ga_cons (gd_fz (ge_pow (go_d gd_int) (go_d gd_int))) ga_nil)))) (go_d (gd_fz (ge_callHI H__law_draw hr (by omega) rfl (pv 0) (ga_cons gd_int ga_nil))))))
 (gss_one (gs_ret (ge_tuple rfl t.n_tuple (go_d (gd_fz (ge_lc (own := [("name", 4)]) rfl rfl sc__law_vector.nd (gi_seq (gd_fz (ge_slice (go_s 2 (pv 2)) gp_no (gp_so (go_s 1 (pv 1)))))) (blk_of (by kernel_rfl)) (fun _ _ _ _ _ => (gg_name (by decide) sc__law_vector.nd rfl (by first | exact .inl rfl | exact .inr rfl))) (fun _ _ _ _ _ => (gts_one (gt_cmp c_gt (go_d (gd_fz (ge_callHI H__law_draw hr (by omega) rfl (pv 0) (ga_cons gd_int ga_nil)))) (go_d gd_int)))) (fun _ _ _ _ _ => (gd_tup (ga_cons (gd_v 4 (pv 4)) (ga_cons (gd_fz (ge_add (go_d gd_int) (go_d (gd_fz (ge_callHI H__law_draw hr (by omega) rfl (pv 0) (ga_cons (gd_v 3 (pv 3)) ga_nil)))))) ga_nil))))))))))))
  exact ⟨fd, hm, F.kp, F.bindsN (fun _ _ _ _ _ _ us hl => match us, hl with | [_, _], _ => rfl), key⟩
theorem sc__law_number : FnScope ["vector", "node", "name", "number"] ["vector", "node"] (defScope (top 20)) := ⟨rfl, rfl, rfl, by decide +kernel, rfl, by decide +kernel, by decide +kernel⟩
def c1__law_number : M Vl := mcomp [2, 3] (seqM (nv 0)) (tgtup 2 (tgcons (tgN 2) (tgcons (tgN 3) tgnil))) (tst (fz (op2 oEq (nm 2) (nm 1)))) (nv 3)
def m__law_number : M Fl := (mret (op1 oSum (odD (fz c1__law_number))))
def F__law_number : Fn := run 4 m__law_number
theorem ok__law_number (t : Tops w K mg base) : Has P w K mg base (TT K) "_law_number" 1 ["vector", "node"] 2 F__law_number := by
  obtain ⟨fd, F, hm⟩ := t.f__law_number
  have key := fn_okD (P := P) (w := w) (mg := mg) (base := base) (T := TT K) (k := 0) (m := m__law_number) F sc__law_number fun cdv A outer s H E hcd hr => (gss_one (gs_ret (ge_sum rfl rfl t.n_sum (go_d (gd_fz (ge_lc (own := [("name", 2), ("number", 3)]) rfl rfl sc__law_number.nd (gi_seq (gd_v 0 (pv 0))) (blk_of (by kernel_rfl)) (fun _ _ _ _ _ => (gg_top (ggt_tup rfl (ggs_cons (gg_name (by decide) sc__law_number.nd rfl (by first | exact .inl rfl | exact .inr rfl)) (ggs_cons (gg_name (by decide) sc__law_number.nd rfl (by first | exact .inl rfl | exact .inr rfl)) ggs_nil))))) (fun _ _ _ _ _ => (gts_one (gt_cmp (c_eq hr) (go_s 2 (pv 2)) (go_s 1 (pv 1))))) (fun _ _ _ _ _ => (gd_v 3 (pv 3)))))))))
  exact ⟨fd, hm, F.kp, F.bindsN (fun _ _ _ _ _ _ us hl => match us, hl with | [_, _], _ => rfl), key⟩
theorem sc__law_join : FnScope ["one", "other", "nodes", "name", "number"] ["one", "other"] (defScope (top 21)) := ⟨rfl, rfl, rfl, by decide +kernel, rfl, by decide +kernel, by decide +kernel⟩
def c1__law_join : M Vl := mcomp [3, 4] (seqM (nv 0)) (tgtup 2 (tgcons (tgN 3) (tgcons (tgN 4) tgnil))) mtrue (nv 3)
def c2__law_join : M Vl := mcomp [3, 4] (seqM (nv 1)) (tgtup 2 (tgcons (tgN 3) (tgcons (tgN 4) tgnil))) (tst (fz (op2 oEq (odD (fz (mcall 2 F__law_number (macons (nv 0) (macons (nv 3) manil))))) (odD (cst (.int 0)))))) (nv 3)
def c3__law_join : M Vl := mcomp [3] (seqM (nv 2)) (tgN 3) mtrue (mtup (macons (nv 3) (macons (fz (op2 oMax2 (odD (fz (mcall 2 F__law_number (macons (nv 0) (macons (nv 3) manil))))) (odD (fz (mcall 2 F__law_number (macons (nv 1) (macons (nv 3) manil))))))) manil)))
def m__law_join : M Fl := (mseq (asgN 2 (op1 oSorted (odD (fz (op2 oAdd (odD (fz c1__law_join)) (odD (fz c2__law_join)))))))
 (mret (op1 oTuple (odD (fz c3__law_join)))))
def F__law_join : Fn := run 5 m__law_join
theorem ok__law_join (t : Tops w K mg base) : Has P w K mg base (TT K) "_law_join" 2 ["one", "other"] 2 F__law_join := by
  obtain ⟨fd, F, hm⟩ := t.f__law_join
  have H__law_number := ok__law_number (P := P) t
  have key := fn_okD (P := P) (w := w) (mg := mg) (base := base) (T := TT K) (k := 1) (m := m__law_join) F sc__law_join fun cdv A outer s H E hcd hr => (gss_cons (gs_set (i := 2) sc__law_join.nd rfl (by first | exact .inl rfl | exact .inr rfl) (ge_sorted hr rfl t.n_sorted (go_d (gd_fz (ge_add (go_d (gd_fz (ge_lc (own := [("name", 3), ("number", 4)]) rfl rfl sc__law_join.nd (gi_seq (gd_v 0 (pv 0))) (blk_of (by kernel_rfl)) (fun _ _ _ _ _ => (gg_top (ggt_tup rfl (ggs_cons (gg_name (by decide) sc__law_join.nd rfl (by first | exact .inl rfl | exact .inr rfl)) (ggs_cons (gg_name (by decide) sc__law_join.nd rfl (by first | exact .inl rfl | exact .inr rfl)) ggs_nil))))) (fun _ _ _ _ _ => gts_nil) (fun _ _ _ _ _ => (gd_v 3 (pv 3)))))) (go_d (gd_fz (ge_lc (own := [("name", 3), ("number", 4)]) rfl rfl sc__law_join.nd (gi_seq (gd_v 1 (pv 1))) (blk_of (by kernel_rfl)) (fun _ _ _ _ _ => (gg_top (ggt_tup rfl (ggs_cons (gg_name (by decide) sc__law_join.nd rfl (by first | exact .inl rfl | exact .inr rfl)) (ggs_cons (gg_name (by decide) sc__law_join.nd rfl (by first | exact .inl rfl | exact .inr rfl)) ggs_nil))))) (fun _ _ _ _ _ => (gts_one (gt_cmp (c_eq hr) (go_d (gd_fz (ge_callH H__law_number hr (by omega) rfl (ga_cons (gd_v 0 (pv 0)) (ga_cons (gd_v 3 (pv 3)) ga_nil))))) (go_d gd_int)))) (fun _ _ _ _ _ => (gd_v 3 (pv 3)))))))))))
 (gss_one (gs_ret (ge_tuple rfl t.n_tuple (go_d (gd_fz (ge_lc (own := [("name", 3)]) rfl rfl sc__law_join.nd (gi_seq (gd_v 2 (pv 2))) (blk_of (by kernel_rfl)) (fun _ _ _ _ _ => (gg_name (by decide) sc__law_join.nd rfl (by first | exact .inl rfl | exact .inr rfl))) (fun _ _ _ _ _ => gts_nil) (fun _ _ _ _ _ => (gd_tup (ga_cons (gd_v 3 (pv 3)) (ga_cons (gd_fz (ge_max2 rfl rfl t.n_max (go_d (gd_fz (ge_callH H__law_number hr (by omega) rfl (ga_cons (gd_v 0 (pv 0)) (ga_cons (gd_v 3 (pv 3)) ga_nil))))) (go_d (gd_fz (ge_callH H__law_number hr (by omega) rfl (ga_cons (gd_v 1 (pv 1)) (ga_cons (gd_v 3 (pv 3)) ga_nil))))))) ga_nil)))))))))))
  exact ⟨fd, hm, F.kp, F.bindsN (fun _ _ _ _ _ _ us hl => match us, hl with | [_, _], _ => rfl), key⟩
theorem sc__law_at_most : FnScope ["one", "other", "name", "number"] ["one", "other"] (defScope (top 22)) := ⟨rfl, rfl, rfl, by decide +kernel, rfl, by decide +kernel, by decide +kernel⟩
def c1__law_at_most : M Vl := mcomp [2, 3] (seqM (nv 0)) (tgtup 2 (tgcons (tgN 2) (tgcons (tgN 3) tgnil))) (tst (fz (op2 oGt (nm 3) (odD (fz (mcall 2 F__law_number (macons (nv 1) (macons (nv 2) manil)))))))) (nv 2)
def m__law_at_most : M Fl := (mret (op2 oEq (odD (fz c1__law_at_most)) (odD (fz (mlst manil)))))
def F__law_at_most : Fn := run 4 m__law_at_most
theorem ok__law_at_most (t : Tops w K mg base) : Has P w K mg base (TT K) "_law_at_most" 2 ["one", "other"] 2 F__law_at_most := by
  obtain ⟨fd, F, hm⟩ := t.f__law_at_most
  have H__law_number := ok__law_number (P := P) t
  have key := fn_okD (P := P) (w := w) (mg := mg) (base := base) (T := TT K) (k := 1) (m := m__law_at_most) F sc__law_at_most fun cdv A outer s H E hcd hr => (gss_one (gs_ret (ge_cmp (c_eq hr) (go_d (gd_fz (ge_lc (own := [("name", 2), ("number", 3)]) rfl rfl sc__law_at_most.nd (gi_seq (gd_v 0 (pv 0))) (blk_of (by kernel_rfl)) (fun _ _ _ _ _ => (gg_top (ggt_tup rfl (ggs_cons (gg_name (by decide) sc__law_at_most.nd rfl (by first | exact .inl rfl | exact .inr rfl)) (ggs_cons (gg_name (by decide) sc__law_at_most.nd rfl (by first | exact .inl rfl | exact .inr rfl)) ggs_nil))))) (fun _ _ _ _ _ => (gts_one (gt_cmp c_gt (go_s 3 (pv 3)) (go_d (gd_fz (ge_callH H__law_number hr (by omega) rfl (ga_cons (gd_v 1 (pv 1)) (ga_cons (gd_v 2 (pv 2)) ga_nil)))))))) (fun _ _ _ _ _ => (gd_v 2 (pv 2)))))) (go_d (gd_fz (ge_lst ga_nil))))))
  exact ⟨fd, hm, F.kp, F.bindsN (fun _ _ _ _ _ _ us hl => match us, hl with | [_, _], _ => rfl), key⟩
theorem sc__law_wrong : FnScope ["vector", "wrong", "sign", "eight", "value"] ["vector"] (defScope (top 23)) := ⟨rfl, rfl, rfl, by decide +kernel, rfl, by decide +kernel, by decide +kernel⟩
def c1__law_wrong : M Vl := mcomp [2] (seqM (cst (.str "abcdefghi"))) (tgN 2) mtrue (mtup (macons (fz (op2 oAdd (odD (cst (.str "n"))) (nm 2))) (macons (cst (.int 1)) manil)))
def c2__law_wrong : M Vl := mcomp [2] (seqM (cst (.str "abcdefgh"))) (tgN 2) mtrue (mtup (macons (fz (op2 oAdd (odD (cst (.str "n"))) (nm 2))) (macons (fz (op2 oPow (odD (cst (.int 10))) (odD (cst (.int 9))))) manil)))
def c3__law_wrong : M Vl := mcomp [4] (seqM (nv 1)) (tgN 4) (tst (fz (op2 (oIs true) (odD (fz (mcall 1 F_is_vector (macons (nv 4) manil)))) (odD (cst (.bool false)))))) (nv 4)
def m__law_wrong : M Fl := (mseq (asgN 1 (mlst (macons (cst .none) (macons (fz (op1 oList (nm 0))) (macons (mtup (macons (cst .none) manil)) (macons (mtup (macons (mtup (macons (cst (.str "a")) manil)) manil)) (macons (mtup (macons (mtup (macons (cst (.str "a")) (macons (cst (.int 0)) manil))) manil)) (macons (mtup (macons (mtup (macons (cst (.str "a")) (macons (fz (op2 oAdd (odD (fz (op2 oPow (odD (cst (.int 10))) (odD (cst (.int 9)))))) (odD (cst (.int 1))))) manil))) manil)) (macons (mtup (macons (mtup (macons (cst (.str "a")) (macons (cst (.bool true)) manil))) manil)) (macons (mtup (macons (mtup (macons (cst (.str "a")) (macons (cst .none) manil))) manil)) (macons (mtup (macons (mtup (macons (cst (.str "a")) (macons (cst (.int 1)) (macons (cst (.int 1)) manil)))) manil)) (macons (mtup (macons (fz (mlst (macons (cst (.str "a")) (macons (cst (.int 1)) manil)))) manil)) (macons (mtup (macons (mtup (macons (cst (.str "A")) (macons (cst (.int 1)) manil))) manil)) (macons (mtup (macons (mtup (macons (cst (.str "")) (macons (cst (.int 1)) manil))) manil)) (macons (mtup (macons (mtup (macons (cst (.str "b")) (macons (cst (.int 1)) manil))) (macons (mtup (macons (cst (.str "a")) (macons (cst (.int 1)) manil))) manil))) (macons (mtup (macons (mtup (macons (cst (.str "a")) (macons (cst (.int 1)) manil))) (macons (mtup (macons (cst (.str "a")) (macons (cst (.int 2)) manil))) manil))) (macons (mtup (macons (mtup (macons (cst (.str "a")) (macons (cst (.int 1)) manil))) (macons (mtup (macons (cst (.str "a")) (macons (cst (.int 1)) manil))) manil))) (macons (fz (op1 oTuple (odD (fz c1__law_wrong)))) (macons (mtup (macons (cst (.str "a")) (macons (cst (.int 1)) manil))) (macons (cst (.int 5)) (macons (cst (.str "a")) manil)))))))))))))))))))))
 (mseq (asgN 3 (op1 oTuple (odD (fz c2__law_wrong))))
 (mret (shV (vand (fz (op2 (oIs false) (odD (fz (mcall 1 F_is_vector (macons (nv 0) manil)))) (odD (cst (.bool true))))) (vand (fz (op2 (oIs false) (odD (fz (mcall 1 F_is_vector (macons (mtup manil) manil)))) (odD (cst (.bool true))))) (vand (fz (op2 (oIs false) (odD (fz (mcall 1 F_is_vector (macons (nv 3) manil)))) (odD (cst (.bool true))))) (fz (op2 oEq (odD (fz c3__law_wrong)) (odD (fz (mlst manil))))))))))))
def F__law_wrong : Fn := run 5 m__law_wrong
theorem ok__law_wrong (t : Tops w K mg base) : Has P w K mg base (TT K) "_law_wrong" 8 ["vector"] 1 F__law_wrong := by
  obtain ⟨fd, F, hm⟩ := t.f__law_wrong
  have H_is_vector := ok_is_vector (P := P) t
  have key := fn_okD (P := P) (w := w) (mg := mg) (base := base) (T := TT K) (k := 7) (m := m__law_wrong) F sc__law_wrong fun cdv A outer s H E hcd hr => (gss_cons (gs_set (i := 1) sc__law_wrong.nd rfl (by first | exact .inl rfl | exact .inr rfl) (ge_lst (ga_cons gd_none (ga_cons (gd_fz (ge_list rfl t.n_list (go_s 0 (pv 0)))) (ga_cons (gd_tup (ga_cons gd_none ga_nil)) (ga_cons (gd_tup (ga_cons (gd_tup (ga_cons gd_str ga_nil)) ga_nil)) (ga_cons (gd_tup (ga_cons (gd_tup (ga_cons gd_str (ga_cons gd_int ga_nil))) ga_nil)) (ga_cons (gd_tup (ga_cons (gd_tup (ga_cons gd_str (ga_cons (gd_fz (ge_add (go_d (gd_fz (ge_pow (go_d gd_int) (go_d gd_int)))) (go_d gd_int))) ga_nil))) ga_nil)) (ga_cons (gd_tup (ga_cons (gd_tup (ga_cons gd_str (ga_cons gd_bool ga_nil))) ga_nil)) (ga_cons (gd_tup (ga_cons (gd_tup (ga_cons gd_str (ga_cons gd_none ga_nil))) ga_nil)) (ga_cons (gd_tup (ga_cons (gd_tup (ga_cons gd_str (ga_cons gd_int (ga_cons gd_int ga_nil)))) ga_nil)) (ga_cons (gd_tup (ga_cons (gd_fz (ge_lst (ga_cons gd_str (ga_cons gd_int ga_nil)))) ga_nil)) (ga_cons (gd_tup (ga_cons (gd_tup (ga_cons gd_str (ga_cons gd_int ga_nil))) ga_nil)) (ga_cons (gd_tup (ga_cons (gd_tup (ga_cons gd_str (ga_cons gd_int ga_nil))) ga_nil)) (ga_cons (gd_tup (ga_cons (gd_tup (ga_cons gd_str (ga_cons gd_int ga_nil))) (ga_cons (gd_tup (ga_cons gd_str (ga_cons gd_int ga_nil))) ga_nil))) (ga_cons (gd_tup (ga_cons (gd_tup (ga_cons gd_str (ga_cons gd_int ga_nil))) (ga_cons (gd_tup (ga_cons gd_str (ga_cons gd_int ga_nil))) ga_nil))) (ga_cons (gd_tup (ga_cons (gd_tup (ga_cons gd_str (ga_cons gd_int ga_nil))) (ga_cons (gd_tup (ga_cons gd_str (ga_cons gd_int ga_nil))) ga_nil))) (ga_cons (gd_fz (ge_tuple rfl t.n_tuple (go_d (gd_fz (ge_lc (own := [("sign", 2)]) rfl rfl sc__law_wrong.nd (gi_seq gd_str) (blk_of (by kernel_rfl)) (fun _ _ _ _ _ => (gg_name (by decide) sc__law_wrong.nd rfl (by first | exact .inl rfl | exact .inr rfl))) (fun _ _ _ _ _ => gts_nil) (fun _ _ _ _ _ => (gd_tup (ga_cons (gd_fz (ge_add (go_d gd_str) (go_s 2 (pv 2)))) (ga_cons gd_int ga_nil))))))))) (ga_cons (gd_tup (ga_cons gd_str (ga_cons gd_int ga_nil))) (ga_cons gd_int (ga_cons gd_str ga_nil)))))))))))))))))))))
 (gss_cons (gs_set (i := 3) sc__law_wrong.nd rfl (by first | exact .inl rfl | exact .inr rfl) (ge_tuple rfl t.n_tuple (go_d (gd_fz (ge_lc (own := [("sign", 2)]) rfl rfl sc__law_wrong.nd (gi_seq gd_str) (blk_of (by kernel_rfl)) (fun _ _ _ _ _ => (gg_name (by decide) sc__law_wrong.nd rfl (by first | exact .inl rfl | exact .inr rfl))) (fun _ _ _ _ _ => gts_nil) (fun _ _ _ _ _ => (gd_tup (ga_cons (gd_fz (ge_add (go_d gd_str) (go_s 2 (pv 2)))) (ga_cons (gd_fz (ge_pow (go_d gd_int) (go_d gd_int))) ga_nil)))))))))
 (gss_one (gs_ret (ge_sh (gd_and (gd_fz (ge_cmp c_is (go_d (gd_fz (ge_callH H_is_vector hr (by omega) rfl (ga_cons (gd_v 0 (pv 0)) ga_nil)))) (go_d gd_bool))) (gd_and (gd_fz (ge_cmp c_is (go_d (gd_fz (ge_callH H_is_vector hr (by omega) rfl (ga_cons (gd_tup ga_nil) ga_nil)))) (go_d gd_bool))) (gd_and (gd_fz (ge_cmp c_is (go_d (gd_fz (ge_callH H_is_vector hr (by omega) rfl (ga_cons (gd_v 3 (pv 3)) ga_nil)))) (go_d gd_bool))) (gd_one (gd_fz (ge_cmp (c_eq hr) (go_d (gd_fz (ge_lc (own := [("value", 4)]) rfl rfl sc__law_wrong.nd (gi_seq (gd_v 1 (pv 1))) (blk_of (by kernel_rfl)) (fun _ _ _ _ _ => (gg_name (by decide) sc__law_wrong.nd rfl (by first | exact .inl rfl | exact .inr rfl))) (fun _ _ _ _ _ => (gts_one (gt_cmp c_isnot (go_d (gd_fz (ge_callH H_is_vector hr (by omega) rfl (ga_cons (gd_v 4 (pv 4)) ga_nil)))) (go_d gd_bool)))) (fun _ _ _ _ _ => (gd_v 4 (pv 4)))))) (go_d (gd_fz (ge_lst ga_nil))))))))))))))
  exact ⟨fd, hm, F.kp, F.bindsN (fun _ _ _ _ _ _ us hl => match us, hl with | [_], _ => rfl), key⟩
theorem sc_law : FnScope ["script", "draws", "one", "other", "third", "first", "second", "told", "due", "word", "above", "node", "more", "pair"] ["script"] (defScope (top 24)) := ⟨rfl, rfl, rfl, by decide +kernel, rfl, by decide +kernel, by decide +kernel⟩
def l1_law : M Fl := mfor (seqM (fz (mlst (macons (mtup (macons (nv 2) (macons (nv 3) manil))) (macons (mtup (macons (nv 3) (macons (nv 2) manil))) (macons (mtup (macons (nv 2) (macons (nv 2) manil))) (macons (mtup (macons (nv 4) (macons (nv 2) manil))) manil))))))) (tgtup 2 (tgcons (tgN 5) (tgcons (tgN 6) tgnil)))
  (mseq (asgN 7 (mcall 2 F_join (macons (nv 5) (macons (nv 6) manil))))
 (mseq (asgN 8 (mcall 2 F__law_join (macons (nv 5) (macons (nv 6) manil))))
 (mseq (mifS (mor (tst (fz (op2 (oIs true) (odD (fz (mcall 1 F_is_vector (macons (nv 7) manil)))) (odD (cst (.bool true)))))) (mor (tst (fz (op2 oNe (nm 7) (nm 8)))) (mnot (tst (fz (mcall 2 F__law_same (macons (fz (mcall 2 F_at_most (macons (nv 5) (macons (nv 6) manil)))) (macons (fz (mcall 2 F__law_at_most (macons (nv 5) (macons (nv 6) manil)))) manil))))))))
  (mret (shV (cst (.bool false))))
  mnx)
 (mseq (asgN 9 (shV (cst (.str "beside"))))
 (mseq (mifS (tst (fz (op2 oEq (nm 5) (nm 6))))
  (asgN 9 (shV (cst (.str "same"))))
  (mifS (tst (fz (mcall 2 F__law_at_most (macons (nv 5) (macons (nv 6) manil)))))
  (asgN 9 (shV (cst (.str "older"))))
  (mifS (tst (fz (mcall 2 F__law_at_most (macons (nv 6) (macons (nv 5) manil)))))
  (asgN 9 (shV (cst (.str "newer"))))
  mnx)))
 (mifS (mor (tst (fz (op2 oNe (odD (fz (mcall 2 F_compare (macons (nv 5) (macons (nv 6) manil))))) (nm 9)))) (mor (tst (fz (op2 (oIs true) (odD (fz (mcall 2 F_at_most (macons (nv 5) (macons (nv 7) manil))))) (odD (cst (.bool true)))))) (mor (tst (fz (op2 (oIs true) (odD (fz (mcall 2 F_at_most (macons (nv 6) (macons (nv 7) manil))))) (odD (cst (.bool true)))))) (tst (fz (op2 oNe (odD (fz (mcall 2 F_join (macons (nv 7) (macons (nv 6) manil))))) (nm 7)))))))
  (mret (shV (cst (.bool false))))
  mnx))))))
def c2_law : M Vl := mcomp [13] (seqM (nv 2)) (tgN 13) (tst (fz (op2 oNe (odD (fz (op2 oIx (nm 13) (odD (cst (.int 0)))))) (nm 11)))) (nv 13)
def m_law : M Fl := (mseq (asgN 1 (mcall 1 F__law_open (macons (nv 0) manil)))
 (mseq (asgN 2 (mcallI 2 F__law_vector 1 (macons (cst (.int 8)) manil)))
 (mseq (asgN 3 (opv2 oIx (mlst (macons (fz (mcallI 2 F__law_vector 1 (macons (cst (.int 8)) manil))) (macons (nv 2) (macons (fz (mcall 2 F__law_join (macons (nv 2) (macons (fz (mcallI 2 F__law_vector 1 (macons (cst (.int 3)) manil))) manil)))) (macons (mtup manil) manil))))) (odD (fz (mcallI 2 F__law_draw 1 (macons (cst (.int 4)) manil))))))
 (mseq (asgN 4 (mcallI 2 F__law_vector 1 (macons (cst (.int 5)) manil)))
 (mseq (mifS (mnot (tst (fz (mcall 1 F__law_wrong (macons (nv 2) manil)))))
  (mret (shV (cst (.bool false))))
  mnx)
 (mseq l1_law
 (mseq (mifS (mor (tst (fz (op2 oNe (odD (fz (mcall 2 F_join (macons (fz (mcall 2 F_join (macons (nv 2) (macons (nv 3) manil)))) (macons (nv 4) manil))))) (odD (fz (mcall 2 F_join (macons (nv 2) (macons (fz (mcall 2 F_join (macons (nv 3) (macons (nv 4) manil)))) manil)))))))) (tst (fz (op2 oNe (odD (fz (mcall 2 F_join (macons (nv 2) (macons (nv 3) manil))))) (odD (fz (mcall 2 F_join (macons (nv 3) (macons (nv 2) manil)))))))))
  (mret (shV (cst (.bool false))))
  mnx)
 (mseq (asgN 10 (mcall 2 F__law_join (macons (fz (mcall 2 F__law_join (macons (nv 2) (macons (nv 3) manil)))) (macons (nv 4) manil))))
 (mseq (mifS (tst (fz (op2 (oIs true) (odD (fz (mcall 2 F_at_most (macons (fz (mcall 2 F_join (macons (nv 2) (macons (nv 3) manil)))) (macons (nv 10) manil))))) (odD (cst (.bool true))))))
  (mret (shV (cst (.bool false))))
  mnx)
 (mseq (asgN 11 (opv2 oIx (mlst (macons (cst (.str "a")) (macons (cst (.str "c")) (macons (cst (.str "h")) (macons (cst (.str "zed")) manil))))) (odD (fz (mcallI 2 F__law_draw 1 (macons (cst (.int 4)) manil))))))
 (mseq (asgN 12 (op2 oAdd (odD (cst (.int 1))) (odD (fz (mcallI 2 F__law_draw 1 (macons (cst (.int 9)) manil))))))
 (mseq (mifS (mand (tst (fz (op2 oLt (odD (fz (mcall 2 F__law_number (macons (nv 2) (macons (nv 11) manil))))) (odD (fz (op2 oSub (odD (fz (op2 oPow (odD (cst (.int 10))) (odD (cst (.int 9)))))) (odD (cst (.int 10))))))))) (tst (fz (op2 oLt (odD (fz (op1 oLen (nm 2)))) (odD (cst (.int 8)))))))
  (mseq (asgN 7 (mcall 3 F_raised (macons (nv 2) (macons (nv 11) (macons (nv 12) manil)))))
 (mseq (asgN 8 (op1 oTuple (odD (fz (op1 oSorted (odD (fz (op2 oAdd (odD (fz c2_law)) (odD (fz (mlst (macons (mtup (macons (nv 11) (macons (fz (op2 oAdd (odD (fz (mcall 2 F__law_number (macons (nv 2) (macons (nv 11) manil))))) (nm 12))) manil))) manil))))))))))))
 (mifS (mor (tst (fz (op2 oNe (nm 7) (nm 8)))) (mor (tst (fz (op2 (oIs true) (odD (fz (mcall 1 F_is_vector (macons (nv 7) manil)))) (odD (cst (.bool true)))))) (tst (fz (op2 oNe (odD (fz (mcall 2 F_number_of (macons (nv 7) (macons (nv 11) manil))))) (odD (fz (op2 oAdd (odD (fz (mcall 2 F__law_number (macons (nv 2) (macons (nv 11) manil))))) (nm 12)))))))))
  (mret (shV (cst (.bool false))))
  mnx)))
  mnx)
 (mret (shV (vand (fz (mcall 1 F__law_int (macons (fz (mcall 2 F_number_of (macons (nv 2) (macons (nv 11) manil)))) manil))) (fz (op2 oEq (odD (fz (mcall 2 F_number_of (macons (nv 2) (macons (nv 11) manil))))) (odD (fz (mcall 2 F__law_number (macons (nv 2) (macons (nv 11) manil))))))))))))))))))))))
def F_law : Fn := run 14 m_law
theorem fn_law (t : Tops w K mg base) {fd : FuncData} (F : FunD K "law" "law" (defArgs (top 24)) (defBody (top 24)) (defScope (top 24)) [] [] (He.ga K "law") fd) : FnOk P w K mg base CX0 9 (He.ga K "law") fd ["script"] (spF ⟨⟨K, P, w⟩, TT K⟩ 1 F_law) := by
  have H__law_open := ok__law_open (P := P) t
  have H__law_vector := ok__law_vector (P := P) t
  have H__law_join := ok__law_join (P := P) t
  have H__law_draw := ok__law_draw (P := P) t
  have H__law_wrong := ok__law_wrong (P := P) t
  have H_join := ok_join (P := P) t
  have H_is_vector := ok_is_vector (P := P) t
  have H__law_same := ok__law_same (P := P) t
  have H_at_most := ok_at_most (P := P) t
  have H__law_at_most := ok__law_at_most (P := P) t
  have H_compare := ok_compare (P := P) t
  have H__law_number := ok__law_number (P := P) t
  have H_raised := ok_raised (P := P) t
  have H_number_of := ok_number_of (P := P) t
  have H__law_int := ok__law_int (P := P) t
  have key := fn_okD (P := P) (w := w) (mg := mg) (base := base) (T := TT K) (k := 8) (m := m_law) F sc_law fun cdv A outer s H E hcd hr => (gss_cons (gs_set (i := 1) sc_law.nd rfl (by first | exact .inl rfl | exact .inr rfl) (ge_callH H__law_open hr (by omega) rfl (ga_cons (gd_v 0 (pv 0)) ga_nil)))
 (gss_cons (gs_set (i := 2) sc_law.nd rfl (by first | exact .inl rfl | exact .inr rfl) (ge_callHI H__law_vector hr (by omega) rfl (pv 1) (ga_cons gd_int ga_nil)))
 (gss_cons (gs_set (i := 3) sc_law.nd rfl (by first | exact .inl rfl | exact .inr rfl) (ge_ixv (ge_lst (ga_cons (gd_fz (ge_callHI H__law_vector hr (by omega) rfl (pv 1) (ga_cons gd_int ga_nil))) (ga_cons (gd_v 2 (pv 2)) (ga_cons (gd_fz (ge_callH H__law_join hr (by omega) rfl (ga_cons (gd_v 2 (pv 2)) (ga_cons (gd_fz (ge_callHI H__law_vector hr (by omega) rfl (pv 1) (ga_cons gd_int ga_nil))) ga_nil)))) (ga_cons (gd_tup ga_nil) ga_nil))))) (go_d (gd_fz (ge_callHI H__law_draw hr (by omega) rfl (pv 1) (ga_cons gd_int ga_nil))))))
 (gss_cons (gs_set (i := 4) sc_law.nd rfl (by first | exact .inl rfl | exact .inr rfl) (ge_callHI H__law_vector hr (by omega) rfl (pv 1) (ga_cons gd_int ga_nil)))
 (gss_cons (gs_if (gt_not (gt_val (gd_fz (ge_callH H__law_wrong hr (by omega) rfl (ga_cons (gd_v 2 (pv 2)) ga_nil)))))
  (gss_one (gs_ret (ge_sh gd_bool)))
  gss_nil)
 (gss_cons (gs_for (L := [5, 6]) PassesOwn.never rfl (gi_seq (gd_fz (ge_lst (ga_cons (gd_tup (ga_cons (gd_v 2 (pv 2)) (ga_cons (gd_v 3 (pv 3)) ga_nil))) (ga_cons (gd_tup (ga_cons (gd_v 3 (pv 3)) (ga_cons (gd_v 2 (pv 2)) ga_nil))) (ga_cons (gd_tup (ga_cons (gd_v 2 (pv 2)) (ga_cons (gd_v 2 (pv 2)) ga_nil))) (ga_cons (gd_tup (ga_cons (gd_v 4 (pv 4)) (ga_cons (gd_v 2 (pv 2)) ga_nil))) ga_nil))))))) (gg_top (ggt_tup rfl (ggs_cons (gg_name (by decide) sc_law.nd rfl (by first | exact .inl rfl | exact .inr rfl)) (ggs_cons (gg_name (by decide) sc_law.nd rfl (by first | exact .inl rfl | exact .inr rfl)) ggs_nil))))
  (gss_cons (gs_set (i := 7) sc_law.nd rfl (by first | exact .inl rfl | exact .inr rfl) (ge_callH H_join hr (by omega) rfl (ga_cons (gd_v 5 (pv 5)) (ga_cons (gd_v 6 (pv 6)) ga_nil))))
 (gss_cons (gs_set (i := 8) sc_law.nd rfl (by first | exact .inl rfl | exact .inr rfl) (ge_callH H__law_join hr (by omega) rfl (ga_cons (gd_v 5 (pv 5)) (ga_cons (gd_v 6 (pv 6)) ga_nil))))
 (gss_cons (gs_if (gt_w (gw_or (gt_cmp c_isnot (go_d (gd_fz (ge_callH H_is_vector hr (by omega) rfl (ga_cons (gd_v 7 (pv 7)) ga_nil)))) (go_d gd_bool)) (gw_or (gt_cmp (c_ne hr) (go_s 7 (pv 7)) (go_s 8 (pv 8))) (gw_or1 (gt_not (gt_val (gd_fz (ge_callH H__law_same hr (by omega) rfl (ga_cons (gd_fz (ge_callH H_at_most hr (by omega) rfl (ga_cons (gd_v 5 (pv 5)) (ga_cons (gd_v 6 (pv 6)) ga_nil)))) (ga_cons (gd_fz (ge_callH H__law_at_most hr (by omega) rfl (ga_cons (gd_v 5 (pv 5)) (ga_cons (gd_v 6 (pv 6)) ga_nil)))) ga_nil))))))))))
  (gss_one (gs_ret (ge_sh gd_bool)))
  gss_nil)
 (gss_cons (gs_set (i := 9) sc_law.nd rfl (by first | exact .inl rfl | exact .inr rfl) (ge_sh gd_str))
 (gss_cons (gs_if (gt_cmp (c_eq hr) (go_s 5 (pv 5)) (go_s 6 (pv 6)))
  (gss_one (gs_set (i := 9) sc_law.nd rfl (by first | exact .inl rfl | exact .inr rfl) (ge_sh gd_str)))
  (gss_one (gs_if (gt_val (gd_fz (ge_callH H__law_at_most hr (by omega) rfl (ga_cons (gd_v 5 (pv 5)) (ga_cons (gd_v 6 (pv 6)) ga_nil)))))
  (gss_one (gs_set (i := 9) sc_law.nd rfl (by first | exact .inl rfl | exact .inr rfl) (ge_sh gd_str)))
  (gss_one (gs_if (gt_val (gd_fz (ge_callH H__law_at_most hr (by omega) rfl (ga_cons (gd_v 6 (pv 6)) (ga_cons (gd_v 5 (pv 5)) ga_nil)))))
  (gss_one (gs_set (i := 9) sc_law.nd rfl (by first | exact .inl rfl | exact .inr rfl) (ge_sh gd_str)))
  gss_nil)))))
 (gss_one (gs_if (gt_w (gw_or (gt_cmp (c_ne hr) (go_d (gd_fz (ge_callH H_compare hr (by omega) rfl (ga_cons (gd_v 5 (pv 5)) (ga_cons (gd_v 6 (pv 6)) ga_nil))))) (go_s 9 (pv 9))) (gw_or (gt_cmp c_isnot (go_d (gd_fz (ge_callH H_at_most hr (by omega) rfl (ga_cons (gd_v 5 (pv 5)) (ga_cons (gd_v 7 (pv 7)) ga_nil))))) (go_d gd_bool)) (gw_or (gt_cmp c_isnot (go_d (gd_fz (ge_callH H_at_most hr (by omega) rfl (ga_cons (gd_v 6 (pv 6)) (ga_cons (gd_v 7 (pv 7)) ga_nil))))) (go_d gd_bool)) (gw_or1 (gt_cmp (c_ne hr) (go_d (gd_fz (ge_callH H_join hr (by omega) rfl (ga_cons (gd_v 7 (pv 7)) (ga_cons (gd_v 6 (pv 6)) ga_nil))))) (go_s 7 (pv 7))))))))
  (gss_one (gs_ret (ge_sh gd_bool)))
  gss_nil))))))))
 (gss_cons (gs_if (gt_w (gw_or (gt_cmp (c_ne hr) (go_d (gd_fz (ge_callH H_join hr (by omega) rfl (ga_cons (gd_fz (ge_callH H_join hr (by omega) rfl (ga_cons (gd_v 2 (pv 2)) (ga_cons (gd_v 3 (pv 3)) ga_nil)))) (ga_cons (gd_v 4 (pv 4)) ga_nil))))) (go_d (gd_fz (ge_callH H_join hr (by omega) rfl (ga_cons (gd_v 2 (pv 2)) (ga_cons (gd_fz (ge_callH H_join hr (by omega) rfl (ga_cons (gd_v 3 (pv 3)) (ga_cons (gd_v 4 (pv 4)) ga_nil)))) ga_nil)))))) (gw_or1 (gt_cmp (c_ne hr) (go_d (gd_fz (ge_callH H_join hr (by omega) rfl (ga_cons (gd_v 2 (pv 2)) (ga_cons (gd_v 3 (pv 3)) ga_nil))))) (go_d (gd_fz (ge_callH H_join hr (by omega) rfl (ga_cons (gd_v 3 (pv 3)) (ga_cons (gd_v 2 (pv 2)) ga_nil)))))))))
  (gss_one (gs_ret (ge_sh gd_bool)))
  gss_nil)
 (gss_cons (gs_set (i := 10) sc_law.nd rfl (by first | exact .inl rfl | exact .inr rfl) (ge_callH H__law_join hr (by omega) rfl (ga_cons (gd_fz (ge_callH H__law_join hr (by omega) rfl (ga_cons (gd_v 2 (pv 2)) (ga_cons (gd_v 3 (pv 3)) ga_nil)))) (ga_cons (gd_v 4 (pv 4)) ga_nil))))
 (gss_cons (gs_if (gt_cmp c_isnot (go_d (gd_fz (ge_callH H_at_most hr (by omega) rfl (ga_cons (gd_fz (ge_callH H_join hr (by omega) rfl (ga_cons (gd_v 2 (pv 2)) (ga_cons (gd_v 3 (pv 3)) ga_nil)))) (ga_cons (gd_v 10 (pv 10)) ga_nil))))) (go_d gd_bool))
  (gss_one (gs_ret (ge_sh gd_bool)))
  gss_nil)
 (gss_cons (gs_set (i := 11) sc_law.nd rfl (by first | exact .inl rfl | exact .inr rfl) (ge_ixv (ge_lst (ga_cons gd_str (ga_cons gd_str (ga_cons gd_str (ga_cons gd_str ga_nil))))) (go_d (gd_fz (ge_callHI H__law_draw hr (by omega) rfl (pv 1) (ga_cons gd_int ga_nil))))))
 (gss_cons (gs_set (i := 12) sc_law.nd rfl (by first | exact .inl rfl | exact .inr rfl) (ge_add (go_d gd_int) (go_d (gd_fz (ge_callHI H__law_draw hr (by omega) rfl (pv 1) (ga_cons gd_int ga_nil))))))
 (gss_cons (gs_if (gt_w (gw_and (gt_cmp c_lt (go_d (gd_fz (ge_callH H__law_number hr (by omega) rfl (ga_cons (gd_v 2 (pv 2)) (ga_cons (gd_v 11 (pv 11)) ga_nil))))) (go_d (gd_fz (ge_sub (go_d (gd_fz (ge_pow (go_d gd_int) (go_d gd_int)))) (go_d gd_int))))) (gw_and1 (gt_cmp c_lt (go_d (gd_fz (ge_len rfl t.n_len (go_s 2 (pv 2))))) (go_d gd_int)))))
  (gss_cons (gs_set (i := 7) sc_law.nd rfl (by first | exact .inl rfl | exact .inr rfl) (ge_callH H_raised hr (by omega) rfl (ga_cons (gd_v 2 (pv 2)) (ga_cons (gd_v 11 (pv 11)) (ga_cons (gd_v 12 (pv 12)) ga_nil)))))
 (gss_cons (gs_set (i := 8) sc_law.nd rfl (by first | exact .inl rfl | exact .inr rfl) (ge_tuple rfl t.n_tuple (go_d (gd_fz (ge_sorted hr rfl t.n_sorted (go_d (gd_fz (ge_add (go_d (gd_fz (ge_lc (own := [("pair", 13)]) rfl rfl sc_law.nd (gi_seq (gd_v 2 (pv 2))) (blk_of (by kernel_rfl)) (fun _ _ _ _ _ => (gg_name (by decide) sc_law.nd rfl (by first | exact .inl rfl | exact .inr rfl))) (fun _ _ _ _ _ => (gts_one (gt_cmp (c_ne hr) (go_d (gd_fz (ge_ix (go_s 13 (pv 13)) (go_d gd_int)))) (go_s 11 (pv 11))))) (fun _ _ _ _ _ => (gd_v 13 (pv 13)))))) (go_d (gd_fz (ge_lst (ga_cons (gd_tup (ga_cons (gd_v 11 (pv 11)) (ga_cons (gd_fz (ge_add (go_d (gd_fz (ge_callH H__law_number hr (by omega) rfl (ga_cons (gd_v 2 (pv 2)) (ga_cons (gd_v 11 (pv 11)) ga_nil))))) (go_s 12 (pv 12)))) ga_nil))) ga_nil))))))))))))
 (gss_one (gs_if (gt_w (gw_or (gt_cmp (c_ne hr) (go_s 7 (pv 7)) (go_s 8 (pv 8))) (gw_or (gt_cmp c_isnot (go_d (gd_fz (ge_callH H_is_vector hr (by omega) rfl (ga_cons (gd_v 7 (pv 7)) ga_nil)))) (go_d gd_bool)) (gw_or1 (gt_cmp (c_ne hr) (go_d (gd_fz (ge_callH H_number_of hr (by omega) rfl (ga_cons (gd_v 7 (pv 7)) (ga_cons (gd_v 11 (pv 11)) ga_nil))))) (go_d (gd_fz (ge_add (go_d (gd_fz (ge_callH H__law_number hr (by omega) rfl (ga_cons (gd_v 2 (pv 2)) (ga_cons (gd_v 11 (pv 11)) ga_nil))))) (go_s 12 (pv 12))))))))))
  (gss_one (gs_ret (ge_sh gd_bool)))
  gss_nil))))
  gss_nil)
 (gss_one (gs_ret (ge_sh (gd_and (gd_fz (ge_callH H__law_int hr (by omega) rfl (ga_cons (gd_fz (ge_callH H_number_of hr (by omega) rfl (ga_cons (gd_v 2 (pv 2)) (ga_cons (gd_v 11 (pv 11)) ga_nil)))) ga_nil))) (gd_one (gd_fz (ge_cmp (c_eq hr) (go_d (gd_fz (ge_callH H_number_of hr (by omega) rfl (ga_cons (gd_v 2 (pv 2)) (ga_cons (gd_v 11 (pv 11)) ga_nil))))) (go_d (gd_fz (ge_callH H__law_number hr (by omega) rfl (ga_cons (gd_v 2 (pv 2)) (ga_cons (gd_v 11 (pv 11)) ga_nil))))))))))))))))))))))))
  exact key
end
def dfn (x : Str) (i : Nat) : He.DefD := ⟨(x, none), x, x, defArgs (top i), defBody (top i), defScope (top i), [], []⟩
def fn : List He.DefD := [dfn "is_number" 1, dfn "is_name" 2, dfn "is_names" 3, dfn "is_vector" 7, dfn "number_of" 8, dfn "at_most" 9, dfn "join" 10, dfn "compare" 11, dfn "raised" 12, dfn "_law_open" 14, dfn "_law_mixed" 15, dfn "_law_draw" 16, dfn "_law_int" 17, dfn "_law_same" 18, dfn "_law_vector" 19, dfn "_law_number" 20, dfn "_law_join" 21, dfn "_law_at_most" 22, dfn "_law_wrong" 23, dfn "law" 24]
def fa : List He.Fa := [.glo "is_number", .glo "is_name", .glo "is_names", .glo "is_vector", .glo "number_of", .glo "at_most", .glo "join", .glo "compare", .glo "raised", .glo "_law_open", .glo "_law_mixed", .glo "_law_draw", .glo "_law_int", .glo "_law_same", .glo "_law_vector", .glo "_law_number", .glo "_law_join", .glo "_law_at_most", .glo "_law_wrong", .glo "law", .free "abs", .free "all", .free "bool", .free "dict", .free "int", .free "isinstance", .free "len", .free "list", .free "max", .free "range", .free "sorted", .free "str", .free "sum", .free "tuple"]
def ts : List He.Tab := []
def exs (K : PySem.W.Frag) : List Bool := [gloB K "MOST_NODES" (.int 8), gloB K "MOST_NUMBER" (.int 1000000000)]
def ex (K : PySem.W.Frag) : Bool := (exs K).all fun b => b
abbrev R : PySem.W.OpenRow := PySem.W.OpenLaw.row PySem.Challenge.rw_happenedfirst_k57_vectors
abbrev hk : PySem.W.Hook := He.hookX 6 fa fn ts tf ex
def ob (s : PySem.W.SharedT) : He.AlX := He.obsX 6 fa fn ts tf ex (HandSHeadRun.getT s)
theorem ob_eq (s : PySem.W.SharedT) : ob s = hk.obs s.abs := He.obsX_eq (HandSHeadRun.getT_eq s)
theorem head_run (w : World) : HandSHeadRun.RunEq R (PySem.W.view R.prog [24]) hk ob 4000 (("is_number" : Str) :: ("is_name" : Str) :: ("is_names" : Str) :: ("MOST_NODES" : Str) :: ("MOST_NUMBER" : Str) :: ("is_vector" : Str) :: ("number_of" : Str) :: ("at_most" : Str) :: ("join" : Str) :: ("compare" : Str) :: ("raised" : Str) :: ("_law_open" : Str) :: ("_law_mixed" : Str) :: ("_law_draw" : Str) :: ("_law_int" : Str) :: ("_law_same" : Str) :: ("_law_vector" : Str) :: ("_law_number" : Str) :: ("_law_join" : Str) :: ("_law_at_most" : Str) :: ("_law_wrong" : Str) :: ([] : List Str)) w := by
  refine PySem.W.byRow2 "special-get-raises" (P := fun w => HandSHeadRun.RunEq R (PySem.W.view R.prog [24]) hk ob 4000 (("is_number" : Str) :: ("is_name" : Str) :: ("is_names" : Str) :: ("MOST_NODES" : Str) :: ("MOST_NUMBER" : Str) :: ("is_vector" : Str) :: ("number_of" : Str) :: ("at_most" : Str) :: ("join" : Str) :: ("compare" : Str) :: ("raised" : Str) :: ("_law_open" : Str) :: ("_law_mixed" : Str) :: ("_law_draw" : Str) :: ("_law_int" : Str) :: ("_law_same" : Str) :: ("_law_vector" : Str) :: ("_law_number" : Str) :: ("_law_join" : Str) :: ("_law_at_most" : Str) :: ("_law_wrong" : Str) :: ([] : List Str)) w) (fun w => ?_) (fun w => ?_) w
  · intro os; kernel_rfl
  · intro os; kernel_rfl
theorem tops_of {w : World} {K : PySem.W.Frag} {mg : Str → Option Value} {h base : Heap} (KX : K.In h) (G : h.Ns mainGlobals mg) (c : He.SaysX fa fn ts tf ex w h K) (TB : ∀ p ∈ tf, GxR.TabB base mg (He.cT K p).1 (He.cT K p).2) : Tops w K mg base where
  n_abs := He.free_ok KX G (c.t.d.fact 20 (f := .free "abs") rfl)
  n_all := He.free_ok KX G (c.t.d.fact 21 (f := .free "all") rfl)
  n_bool := He.free_ok KX G (c.t.d.fact 22 (f := .free "bool") rfl)
  n_dict := He.free_ok KX G (c.t.d.fact 23 (f := .free "dict") rfl)
  n_int := He.free_ok KX G (c.t.d.fact 24 (f := .free "int") rfl)
  n_isinstance := He.free_ok KX G (c.t.d.fact 25 (f := .free "isinstance") rfl)
  n_len := He.free_ok KX G (c.t.d.fact 26 (f := .free "len") rfl)
  n_list := He.free_ok KX G (c.t.d.fact 27 (f := .free "list") rfl)
  n_max := He.free_ok KX G (c.t.d.fact 28 (f := .free "max") rfl)
  n_range := He.free_ok KX G (c.t.d.fact 29 (f := .free "range") rfl)
  n_sorted := He.free_ok KX G (c.t.d.fact 30 (f := .free "sorted") rfl)
  n_str := He.free_ok KX G (c.t.d.fact 31 (f := .free "str") rfl)
  n_sum := He.free_ok KX G (c.t.d.fact 32 (f := .free "sum") rfl)
  n_tuple := He.free_ok KX G (c.t.d.fact 33 (f := .free "tuple") rfl)
  g_MOST_NODES := glo_of KX G (ex_get c.more 0)
  g_MOST_NUMBER := glo_of KX G (ex_get c.more 1)
  f_is_number := (c.t.d.def_ 0 (d := dfn "is_number" 1) rfl).imp fun fd F => ⟨F, He.glo_ok KX G (c.t.d.fact 0 (f := .glo "is_number") rfl)⟩
  f_is_name := (c.t.d.def_ 1 (d := dfn "is_name" 2) rfl).imp fun fd F => ⟨F, He.glo_ok KX G (c.t.d.fact 1 (f := .glo "is_name") rfl)⟩
  f_is_names := (c.t.d.def_ 2 (d := dfn "is_names" 3) rfl).imp fun fd F => ⟨F, He.glo_ok KX G (c.t.d.fact 2 (f := .glo "is_names") rfl)⟩
  f_is_vector := (c.t.d.def_ 3 (d := dfn "is_vector" 7) rfl).imp fun fd F => ⟨F, He.glo_ok KX G (c.t.d.fact 3 (f := .glo "is_vector") rfl)⟩
  f_number_of := (c.t.d.def_ 4 (d := dfn "number_of" 8) rfl).imp fun fd F => ⟨F, He.glo_ok KX G (c.t.d.fact 4 (f := .glo "number_of") rfl)⟩
  f_at_most := (c.t.d.def_ 5 (d := dfn "at_most" 9) rfl).imp fun fd F => ⟨F, He.glo_ok KX G (c.t.d.fact 5 (f := .glo "at_most") rfl)⟩
  f_join := (c.t.d.def_ 6 (d := dfn "join" 10) rfl).imp fun fd F => ⟨F, He.glo_ok KX G (c.t.d.fact 6 (f := .glo "join") rfl)⟩
  f_compare := (c.t.d.def_ 7 (d := dfn "compare" 11) rfl).imp fun fd F => ⟨F, He.glo_ok KX G (c.t.d.fact 7 (f := .glo "compare") rfl)⟩
  f_raised := (c.t.d.def_ 8 (d := dfn "raised" 12) rfl).imp fun fd F => ⟨F, He.glo_ok KX G (c.t.d.fact 8 (f := .glo "raised") rfl)⟩
  f__law_open := (c.t.d.def_ 9 (d := dfn "_law_open" 14) rfl).imp fun fd F => ⟨F, He.glo_ok KX G (c.t.d.fact 9 (f := .glo "_law_open") rfl)⟩
  f__law_mixed := (c.t.d.def_ 10 (d := dfn "_law_mixed" 15) rfl).imp fun fd F => ⟨F, He.glo_ok KX G (c.t.d.fact 10 (f := .glo "_law_mixed") rfl)⟩
  f__law_draw := (c.t.d.def_ 11 (d := dfn "_law_draw" 16) rfl).imp fun fd F => ⟨F, He.glo_ok KX G (c.t.d.fact 11 (f := .glo "_law_draw") rfl)⟩
  f__law_int := (c.t.d.def_ 12 (d := dfn "_law_int" 17) rfl).imp fun fd F => ⟨F, He.glo_ok KX G (c.t.d.fact 12 (f := .glo "_law_int") rfl)⟩
  f__law_same := (c.t.d.def_ 13 (d := dfn "_law_same" 18) rfl).imp fun fd F => ⟨F, He.glo_ok KX G (c.t.d.fact 13 (f := .glo "_law_same") rfl)⟩
  f__law_vector := (c.t.d.def_ 14 (d := dfn "_law_vector" 19) rfl).imp fun fd F => ⟨F, He.glo_ok KX G (c.t.d.fact 14 (f := .glo "_law_vector") rfl)⟩
  f__law_number := (c.t.d.def_ 15 (d := dfn "_law_number" 20) rfl).imp fun fd F => ⟨F, He.glo_ok KX G (c.t.d.fact 15 (f := .glo "_law_number") rfl)⟩
  f__law_join := (c.t.d.def_ 16 (d := dfn "_law_join" 21) rfl).imp fun fd F => ⟨F, He.glo_ok KX G (c.t.d.fact 16 (f := .glo "_law_join") rfl)⟩
  f__law_at_most := (c.t.d.def_ 17 (d := dfn "_law_at_most" 22) rfl).imp fun fd F => ⟨F, He.glo_ok KX G (c.t.d.fact 17 (f := .glo "_law_at_most") rfl)⟩
  f__law_wrong := (c.t.d.def_ 18 (d := dfn "_law_wrong" 23) rfl).imp fun fd F => ⟨F, He.glo_ok KX G (c.t.d.fact 18 (f := .glo "_law_wrong") rfl)⟩
  f_law := (c.t.d.def_ 19 (d := dfn "law" 24) rfl).imp fun fd F => ⟨F, He.glo_ok KX G (c.t.d.fact 19 (f := .glo "law") rfl)⟩
  t_is_name := TB ("is_name", none) (by decide)
  t_is_names := TB ("is_names", none) (by decide)
  t_is_vector := TB ("is_vector", none) (by decide)
  t_at_most := TB ("at_most", none) (by decide)
theorem the_end (hF : ∀ ns : List Int, ns.length ≤ 63 → (∀ z ∈ ns, Builtin.Int.intBits z ≤ 1048576) → ∃ en', F_law (scr ns) = .ok (.sh (.bool true)) en') : PySem.Challenge.rw_happenedfirst_k57_vectors.Holds := by
  w_on; o_law
  refine HandSHeadRun.head_any (r := R) (q := PySem.W.view R.prog [24]) (H := hk) (ob := ob) (M := 4000) (loose := (("is_number" : Str) :: ("is_name" : Str) :: ("is_names" : Str) :: ("MOST_NODES" : Str) :: ("MOST_NUMBER" : Str) :: ("is_vector" : Str) :: ("number_of" : Str) :: ("at_most" : Str) :: ("join" : Str) :: ("compare" : Str) :: ("raised" : Str) :: ("_law_open" : Str) :: ("_law_mixed" : Str) :: ("_law_draw" : Str) :: ("_law_int" : Str) :: ("_law_same" : Str) :: ("_law_vector" : Str) :: ("_law_number" : Str) :: ("_law_join" : Str) :: ("_law_at_most" : Str) :: ("_law_wrong" : Str) :: ([] : List Str))) (d := HandSHeadRun.topDef R.prog 24) (kwd := []) ob_eq
    (by kernel_rfl) (fun s => by kernel_rfl) head_run (by kernel_rfl) (by kernel_rfl) (by kernel_rfl) (by rfl) (by first | assumption | decide +kernel) (by decide +kernel) ⟨rfl, rfl, rfl, rfl, rfl, by decide +kernel⟩ ?hw ?hc
  case hw => w_witness2
  case hc =>
    refine LamX.walk_ofTsE (l := PySem.Challenge.rw_happenedfirst_k57_vectors) (n := 63) (k := 9) (x := "script") (CX := fun _ => L2.CX0) rfl (by decide) (by kernel_rfl) ⟨rfl, by decide, by decide⟩ ?F (fun _ _ _ _ _ z => z)
    intro w mg fa0 h Y G hmg0
    obtain ⟨K, KX, c⟩ := Y
    have hmg : mg ("law" : PySem.Str) = some (.ref fa0) := by
      have e : (HandSHeadRun.topDef R.prog 24).name = ("law" : PySem.Str) := by kernel_rfl
      rw [← e]
      exact hmg0
    obtain ⟨fd, F⟩ := c.t.d.def_ 19 (d := dfn "law" 24) rfl
    have e := hmg.symm.trans (He.glo_ok KX G (c.t.d.fact 19 (f := .glo "law") rfl))
    cases e
    have b := FunD.bindsA (ps := ["script"]) F fun _ _ _ _ _ _ us hl => match us, hl with | [_], _ => rfl
    exact ⟨K, KX, law_at KX c (fun s v => b s [v] rfl) hF fun base _ _ TB => fn_law (tops_of KX G c TB) F⟩
end
end Q57


namespace Q57
open PySem ZD ZP
def DS (d : PyData) : Prop := ∃ (t l : Int) (cs : List Int), d = .list [.int t, .int l, .list (cs.map .int)] ∧ 0 ≤ t ∧ 0 ≤ l ∧ cs ≠ [] ∧ ∀ c ∈ cs, 0 ≤ c
theorem mul_k {i j : Int} (h : j.natAbs < 2 ^ 64) : oMulU (.int i) (.int j) = .d (.int (i * j)) := by
  show oMulX (.int i) (.int j) = _
  unfold oMulX oInt
  simp only
  rw [if_pos (decide_eq_true (.inr (.inr h)))]
theorem add_ok (i j : Int) : oAdd (.int i) (.int j) = .d (.int (i + j)) := rfl
theorem sub_ok (i j : Int) : oSub (.int i) (.int j) = .d (.int (i - j)) := rfl
theorem xor_ok (i j : Int) : oXor (.int i) (.int j) = .d (.int (Builtin.bitXor i j)) := rfl
theorem mod_ok {i j : Int} (h : 0 < j) : oMod (.int i) (.int j) = .d (.int (i % j)) := if_pos (decide_eq_true h)
theorem div_ok {i j : Int} (h : 0 < j) (h2 : j.natAbs.log2 < 9000) : oDiv (.int i) (.int j) = .d (.int (i / j)) := if_pos (decide_eq_true ⟨h, h2⟩)
theorem shr_ok {i j : Int} (h : 0 ≤ j) : oShr (.int i) (.int j) = .d (.int (i / 2 ^ j.toNat)) := if_pos (decide_eq_true h)
theorem pow_ok {i j : Int} (h : 0 ≤ j ∧ j ≤ 1000000 ∧ i.natAbs < 2 ^ 64) : oPow (.int i) (.int j) = .d (.int (i ^ j.toNat)) := if_pos (decide_eq_true h)
theorem p61 : oPow (.int 2) (.int 61) = .d (.int 2305843009213693952) := pow_ok (by decide)
theorem p18 : oPow (.int 10) (.int 18) = .d (.int 1000000000000000000) := pow_ok (by decide)
theorem s_mixed (c t : Int) : ∃ (r : Int) (en : En), F__law_mixed [.sh (.int c), .sh (.int t)] = .ok (.sh (.int r)) en ∧ 0 ≤ r := by
  have m0 : ∀ i : Int, oMod (.int i) (.int (2305843009213693952 - 1)) = .d (.int (i % (2305843009213693952 - 1))) := fun i => mod_ok (by decide)
  have m1 : ∀ i : Int, oMod (.int i) (.int 2305843009213693952) = .d (.int (i % 2305843009213693952)) := fun i => mod_ok (by decide)
  have k1 : ∀ i : Int, oMulU (.int i) (.int 6364136223846793005) = .d (.int (i * 6364136223846793005)) := fun i => mul_k (by decide)
  have k2 : ∀ i : Int, oMulU (.int i) (.int 1442695040888963407) = .d (.int (i * 1442695040888963407)) := fun i => mul_k (by decide)
  have k3 : ∀ i : Int, oMulU (.int i) (.int 3935559000370003845) = .d (.int (i * 3935559000370003845)) := fun i => mul_k (by decide)
  have k4 : ∀ i : Int, oMulU (.int i) (.int 2862933555777941757) = .d (.int (i * 2862933555777941757)) := fun i => mul_k (by decide)
  have h1 : ∀ i : Int, oShr (.int i) (.int 29) = .d (.int (i / 2 ^ (29 : Int).toNat)) := fun i => shr_ok (by decide)
  have h2 : ∀ i : Int, oShr (.int i) (.int 31) = .d (.int (i / 2 ^ (31 : Int).toNat)) := fun i => shr_ok (by decide)
  generalize hn1 : (c % (2305843009213693952 - 1) * 6364136223846793005 + t * 1442695040888963407 + 97) % 2305843009213693952 = n1
  generalize hn2 : (Builtin.bitXor n1 (n1 / 2 ^ (29 : Int).toNat) * 3935559000370003845) % 2305843009213693952 = n2
  refine ⟨(Builtin.bitXor n2 (n2 / 2 ^ (31 : Int).toNat) * 2862933555777941757) % 2305843009213693952, [.sh (.int c), .sh (.int t), .sh (.int n2)], ?_, Int.emod_nonneg _ (by decide)⟩
  simp only [F__law_mixed, m__law_mixed, ZD.run, mret, mretN, shV, vand, vor, vnot, fz, op1, op2, op2c, opv2, nm, nv, cst, odD, bnd, ZD.ret, ZD.fail, out, look, tst, mnot, mand, mor, mif, mifS, mseq, mnx, macons, manil, mtup, mlst, asgN, masg, slOf, asgT, tgtup, tgcons, tgnil, tgN, Vl.d, stepC, ZD.wp, wipeable, wipeE, restE, isPlain, mtrue, List.replicate, List.set, oTest, isiInt, isiBool, isiStr, isiTup, isiList, oLe, oLt, oGe, oGt, oOrd, oLen, oIx, gotD, p61, m0, m1, k1, k2, k3, k4, h1, h2, hn1, hn2, sub_ok, add_ok, xor_ok, List.length_cons, List.length_nil, List.cons_append, List.nil_append, List.getElem?_cons_succ, List.getElem?_cons_zero, List.append_nil]
theorem getCell {cs : List Int} (h : cs ≠ []) (hc : ∀ c ∈ cs, 0 ≤ c) (t : Int) (ht : 0 ≤ t) : ∃ c : Int, 0 ≤ c ∧ L2.atI (cs.map PyData.int) (t % (cs.length : Int)) = some (.int c) := by
  have hl : 0 < cs.length := List.length_pos_iff.mpr h
  have h0 : 0 ≤ t % (cs.length : Int) := Int.emod_nonneg _ (by omega)
  have h1 : t % (cs.length : Int) < cs.length := Int.emod_lt_of_pos _ (by omega)
  obtain ⟨n, hn⟩ := Int.eq_ofNat_of_zero_le h0
  rw [hn] at h1 ⊢
  have hn' : n < cs.length := by omega
  refine ⟨cs[n], hc _ (List.getElem_mem hn'), ?_⟩
  simp [L2.atI, L2.ixN, hn']
theorem log64 {b : Int} (h0 : 0 < b) (h : b < 18446744073709551616) : b.natAbs.log2 < 9000 := by
  have : b.natAbs.log2 < 64 := (Nat.log2_lt (by omega)).mpr (by omega)
  omega
theorem s_draw {d : PyData} (hd : DS d) (b : Int) (hb : 0 < b) (hb2 : b < 18446744073709551616) :
    ∃ (r : Int) (d' : PyData) (en : En), F__law_draw [.io d, .sh (.int b)] = .ok (.sh (.int r)) (.io d' :: en) ∧ 0 ≤ r ∧ r < b ∧ DS d' := by
  obtain ⟨t, l, cs, rfl, ht, hl, hne, hcs⟩ := hd
  have dv : ∀ i : Int, oDiv (.int i) (.int b) = .d (.int (i / b)) := fun i => div_ok hb (log64 hb hb2)
  have md : ∀ i : Int, oMod (.int i) (.int b) = .d (.int (i % b)) := fun i => mod_ok hb
  have fin : ∀ (t l : Int) (c5 : Sl) (x y : Int), 0 ≤ t → 0 ≤ l → ∃ (d' : PyData) (en : En),
      (mseq (mst 0 (nv 2) (odD (cst (.int 0)))) (mseq (mst 0 (fz (op2 oDiv (nm 3) (nm 1))) (odD (cst (.int 1)))) (mret (op2 oMod (nm 3) (nm 1))))) [.io (.list [.int x, .int y, .list (cs.map .int)]), .sh (.int b), .sh (.int t), .sh (.int l), .sh (.list (cs.map .int)), c5] = .ok (.rt (.sh (.int (l % b)))) (.io d' :: en) ∧ DS d' := fun t l c5 x y h0 h1 => by
    refine ⟨.list [.int t, .int (l / b), .list (cs.map .int)], [.sh (.int b), .sh (.int t), .sh (.int l), .sh (.list (cs.map .int)), c5], ?_, t, l / b, cs, rfl, h0, Int.ediv_nonneg h1 (by omega), hne, hcs⟩
    simp [ZD.run, mret, mretN, shV, vand, vor, vnot, fz, op1, op2, op2c, opv2, nm, nv, cst, odD, bnd, ZD.ret, ZD.fail, out, look, tst, mnot, mand, mor, mif, mifS, mseq, mnx, macons, manil, mtup, mlst, asgN, masg, slOf, asgT, tgtup, tgcons, tgnil, tgN, Vl.d, stepC, ZD.wp, wipeable, wipeE, restE, isPlain, mtrue, List.replicate, List.set, oTest, isiInt, isiBool, isiStr, isiTup, isiList, oLe, oLt, oGe, oGt, oOrd, oLen, oIx, gotD, mst, mstW, gSt, isLs, chk, wr, dv, md, L2.ixN]
  have done : ∀ (t l : Int) (c5 : Sl), 0 ≤ t → 0 ≤ l → ∀ (x y : Int), WP (mseq (mst 0 (nv 2) (odD (cst (.int 0)))) (mseq (mst 0 (fz (op2 oDiv (nm 3) (nm 1))) (odD (cst (.int 1)))) (mret (op2 oMod (nm 3) (nm 1))))) [.io (.list [.int x, .int y, .list (cs.map .int)]), .sh (.int b), .sh (.int t), .sh (.int l), .sh (.list (cs.map .int)), c5] fun fl e => match fl with
      | .rt v => ∃ (r : Int) (d' : PyData) (en : En), v = .sh (.int r) ∧ e = .io d' :: en ∧ 0 ≤ r ∧ r < b ∧ DS d'
      | .nx => ∃ (r : Int) (d' : PyData) (en : En), Vl.sh .none = .sh (.int r) ∧ e = .io d' :: en ∧ 0 ≤ r ∧ r < b ∧ DS d'
      | _ => False := fun t l c5 h0 h1 x y => by
    obtain ⟨d', en, e1, e2⟩ := fin t l c5 x y h0 h1
    exact wp_eq e1 ⟨_, d', en, rfl, rfl, Int.emod_nonneg _ (by omega), Int.emod_lt_of_pos _ hb, e2⟩
  have key := run_wp (n := 6) (m := m__law_draw) (ps := [.io (.list [.int t, .int l, .list (cs.map .int)]), .sh (.int b)]) (Q := fun v e => ∃ (r : Int) (d' : PyData) (en : En), v = .sh (.int r) ∧ e = .io d' :: en ∧ 0 ≤ r ∧ r < b ∧ DS d') ?_
  · obtain ⟨v, e, h1, r, d', en, rfl, rfl, h2, h3, h4⟩ := key
    exact ⟨r, d', en, h1, h2, h3, h4⟩
  show WP m__law_draw [.io (.list [.int t, .int l, .list (cs.map .int)]), .sh (.int b), .no, .no, .no, .no] _
  unfold m__law_draw
  refine wp_mseq (wp_eq (a := Fl.nx) (en1 := [.io (.list [.int t, .int l, .list (cs.map .int)]), .sh (.int b), .sh (.int t), .sh (.int l), .sh (.list (cs.map .int)), .no]) (by simp [ZD.run, mret, mretN, shV, vand, vor, vnot, fz, op1, op2, op2c, opv2, nm, nv, cst, odD, bnd, ZD.ret, ZD.fail, out, look, tst, mnot, mand, mor, mif, mifS, mseq, mnx, macons, manil, mtup, mlst, asgN, masg, slOf, asgT, tgtup, tgcons, tgnil, tgN, Vl.d, stepC, ZD.wp, wipeable, wipeE, restE, isPlain, mtrue, List.replicate, List.set, oTest, isiInt, isiBool, isiStr, isiTup, isiList, oLe, oLt, oGe, oGt, oOrd, oLen, oIx, gotD, asgT, tgtup, tgcons, tgnil, tgN]) ?_)
  by_cases hlt : l < b
  · obtain ⟨c, hc0, hc⟩ := getCell hne hcs t ht
    have hm : oMod (.int t) (.int (cs.length : Int)) = .d (.int (t % (cs.length : Int))) := mod_ok (by have := List.length_pos_iff.mpr hne; omega)
    by_cases hcnd : t < (cs.length : Int) ∧ 1000000000000000000 ≤ c
    · refine wp_mseq (wp_eq (a := Fl.nx) (en1 := [.io (.list [.int t, .int l, .list (cs.map .int)]), .sh (.int b), .sh (.int (t + 1)), .sh (.int c), .sh (.list (cs.map .int)), .sh (.int c)]) ?_ ?_)
      · simp [ZD.run, mret, mretN, shV, vand, vor, vnot, fz, op1, op2, op2c, opv2, nm, nv, cst, odD, bnd, ZD.ret, ZD.fail, out, look, tst, mnot, mand, mor, mif, mifS, mseq, mnx, macons, manil, mtup, mlst, asgN, masg, slOf, asgT, tgtup, tgcons, tgnil, tgN, Vl.d, stepC, ZD.wp, wipeable, wipeE, restE, isPlain, mtrue, List.replicate, List.set, oTest, isiInt, isiBool, isiStr, isiTup, isiList, oLe, oLt, oGe, oGt, oOrd, oLen, oIx, gotD, hlt, hm, hc, p18, hcnd.1, hcnd.2, add_ok]
      · exact done (t + 1) c _ (by omega) hc0 _ _
    · obtain ⟨r, en2, hr, hr0⟩ := s_mixed c t
      refine wp_mseq (wp_eq (a := Fl.nx) (en1 := [.io (.list [.int t, .int l, .list (cs.map .int)]), .sh (.int b), .sh (.int (t + 1)), .sh (.int r), .sh (.list (cs.map .int)), .sh (.int c)]) ?_ ?_)
      · by_cases h1 : t < (cs.length : Int)
        · have h2 : ¬ 1000000000000000000 ≤ c := fun h => hcnd ⟨h1, h⟩
          simp [ZD.run, mret, mretN, shV, vand, vor, vnot, fz, op1, op2, op2c, opv2, nm, nv, cst, odD, bnd, ZD.ret, ZD.fail, out, look, tst, mnot, mand, mor, mif, mifS, mseq, mnx, macons, manil, mtup, mlst, asgN, masg, slOf, asgT, tgtup, tgcons, tgnil, tgN, Vl.d, stepC, ZD.wp, wipeable, wipeE, restE, isPlain, mtrue, List.replicate, List.set, oTest, isiInt, isiBool, isiStr, isiTup, isiList, oLe, oLt, oGe, oGt, oOrd, oLen, oIx, gotD, hlt, hm, hc, p18, h1, h2, add_ok, mcall, hr]
        · simp [ZD.run, mret, mretN, shV, vand, vor, vnot, fz, op1, op2, op2c, opv2, nm, nv, cst, odD, bnd, ZD.ret, ZD.fail, out, look, tst, mnot, mand, mor, mif, mifS, mseq, mnx, macons, manil, mtup, mlst, asgN, masg, slOf, asgT, tgtup, tgcons, tgnil, tgN, Vl.d, stepC, ZD.wp, wipeable, wipeE, restE, isPlain, mtrue, List.replicate, List.set, oTest, isiInt, isiBool, isiStr, isiTup, isiList, oLe, oLt, oGe, oGt, oOrd, oLen, oIx, gotD, hlt, hm, hc, p18, h1, add_ok, mcall, hr]
      · exact done (t + 1) r _ (by omega) hr0 _ _
  · refine wp_mseq (wp_eq (a := Fl.nx) (en1 := [.io (.list [.int t, .int l, .list (cs.map .int)]), .sh (.int b), .sh (.int t), .sh (.int l), .sh (.list (cs.map .int)), .no]) (by simp [ZD.run, mret, mretN, shV, vand, vor, vnot, fz, op1, op2, op2c, opv2, nm, nv, cst, odD, bnd, ZD.ret, ZD.fail, out, look, tst, mnot, mand, mor, mif, mifS, mseq, mnx, macons, manil, mtup, mlst, asgN, masg, slOf, asgT, tgtup, tgcons, tgnil, tgN, Vl.d, stepC, ZD.wp, wipeable, wipeE, restE, isPlain, mtrue, List.replicate, List.set, oTest, isiInt, isiBool, isiStr, isiTup, isiList, oLe, oLt, oGe, oGt, oOrd, oLen, oIx, gotD, hlt]) ?_)
    exact done t l _ ht hl _ _
theorem q__law_draw : FnI VS DS 2 F__law_draw A__law_draw := fun d ds Qd hd ⟨b, hb, h0, h1, hq⟩ => by
  subst hb
  obtain ⟨r, d', en, h1, h2, h3, h4⟩ := s_draw hd b h0 h1
  exact ⟨rfl, _, en, .int r, d', h1, rfl, h4, hq r h2 h3⟩
end Q57


namespace Q57
open PySem ZD ZP
def P0__law_open (script_1 : PyData) : PR PyData :=
 ((mcompP ((slcP outR (PR.ok script_1) (PR.ok none) ((PR.ok (.int 63)).bind posF)).bind seqF) (fun x_2 => (st1 (o1 (o1 (PR.ok x_2) fun a => outS ((oI1 fun i => i) a)) fun a => outS ((oI1 absI) a))))).bind fun cells_3 =>  ((aconsP (PR.ok (.int 0)) (aconsP (PR.ok (.int 0)) (aconsP (o2 (PR.ok cells_3) ((aconsP (PR.ok (.int 0)) (PR.ok [])).bind lstF) fun a b => outR (oAdd a b)) (PR.ok [])))).bind lstF))
def A0__law_open : List PyData → PR PyData
  | [script_1] => P0__law_open script_1
  | _ => PR.bad
theorem q0__law_open : FnD VL 1 F__law_open (fun ds => PQ (A0__law_open ds)) := fnD_of (n := 3) (m := m__law_open) (fun ds Qd h => (match ds, h with | [_], _ => rfl | [], h => h.elim | _ :: _ :: _, h => h.elim)) fun ds hl => match ds, hl with | [script_1], _ => (show RS [(.shd script_1), .pl, .pl] m__law_open (PQ (P0__law_open script_1)) (PF VL) from
 (RS_asgP (i := 1) (L := ([] : List Nat)) (J_compP (vs := [2]) (J_seqP (J_fz (fun _ _ h => h) (J_slcP (L2 := ([] : List Nat)) ov_w (JO_shd (i := 0) rfl) J_pno (J_psoP (JO_d J_cst)) (fun _ h => nomatch h) (fun _ h => nomatch h)))) rfl (fun x_2 => J_stepN (i := 2) rfl (by decide) (J2_tail1P rfl rfl (by decide) (J_fz (fun _ _ => vs_vw) (J_op1P ov_s (JO_d (J_fz (fun _ _ => vs_vw) (J_op1P ov_s (JO_shd (i := 2) rfl))))))))) v_ownl rfl fun cells_3 => (RS_ret0 (L := ([] : List Nat)) (J_lstP (J_consP J_cst (J_consP J_cst (J_consP (J_fz (fun _ _ h => h) (J_op2P (L2 := ([] : List Nat)) ov_w (JO_ownl (i := 1) rfl) (JO_d (J_fz (fun _ _ => vl_vw) (J_lstP (J_consP J_cst J_nil)))) (fun _ h => nomatch h) (fun _ h => nomatch h))) J_nil)))) (fun r x en hv he => pf_rt r x en hv he))))
end Q57
namespace Q57
open PySem ZD ZP
theorem absI_nn (i : Int) : 0 ≤ absI i := by unfold absI; split <;> omega
theorem open_ok (ns : List Int) (hl : ns.length ≤ 63) : P0__law_open (.list (ns.map .int)) = .ok (.list [.int 0, .int 0, .list ((ns.map absI ++ [0]).map .int)]) := by
  unfold P0__law_open
  have e1 : ((slcP outR (PR.ok (PyData.list (ns.map .int))) (PR.ok none) ((PR.ok (.int 63)).bind posF)).bind seqF) = .ok (ns.map PyData.int) := by
    show ((outR (oSl none (some 63) (PyData.list (ns.map .int)))).bind seqF) = _
    rw [oSl_l, cut_to (by decide)]
    rw [List.take_of_length_le (by rw [List.length_map]; exact hl)]
    rfl
  rw [mcomp_mp (e := PyData.int) (e2 := PyData.int) absI e1 (by omega) fun x _ => rfl]
  have e2 : (o2 (PR.ok (PyData.list ((ns.map absI).map .int))) ((aconsP (PR.ok (.int 0)) (PR.ok [])).bind lstF) fun a b => outR (oAdd a b)) = .ok (.list ((ns.map absI ++ [0]).map .int)) := by
    show outR (if ((ns.map absI).map PyData.int).length + [PyData.int 0].length ≤ 2000000 then Out.nl ((ns.map absI).map PyData.int ++ [PyData.int 0]) else .bad) = _
    rw [if_pos (by rw [List.length_map, List.length_map, List.length_singleton]; omega), List.map_append]; rfl
  rw [bind_ok, e2]; rfl
theorem q__law_open : FnW DS 1 F__law_open A__law_open := fun ds Qd ⟨d, hd, ⟨ns, hns, hl, hb⟩, hq⟩ => by
  subst hd hns
  obtain ⟨h1, x, en, b, h2, h3, h4⟩ := q0__law_open [.list (ns.map .int)] (fun b => b = .list [.int 0, .int 0, .list ((ns.map absI ++ [0]).map .int)]) (by
    show PQ (P0__law_open (.list (ns.map .int))) _ _
    rw [open_ok ns hl]; exact rfl)
  subst h4
  obtain ⟨h5, _⟩ := h3
  subst h5
  refine ⟨rfl, _, en, h2, ⟨0, 0, ns.map absI ++ [0], rfl, Int.le_refl _, Int.le_refl _, by simp, fun c hc => ?_⟩, hq⟩
  rcases List.mem_append.mp hc with hc | hc
  · obtain ⟨i, _, rfl⟩ := List.mem_map.mp hc
    exact absI_nn i
  · rw [List.mem_singleton.mp hc]; exact Int.le_refl _
/-- the end, by the functions of trees -/
theorem law_end {P : PyData → Dm PyData} {A : List PyData → Dm PyData} {F : Fn} (hq : FnD VW 1 F A) (hA : ∀ d, A [d] = P d) (hP : ∀ d, GoodScr d → P d (fun b => b = .bool true) fun _ => False) (ns : List Int) (h1 : ns.length ≤ 63) (h2 : ∀ z ∈ ns, Builtin.Int.intBits z ≤ 1048576) : ∃ en', F (scr ns) = .ok (.sh (.bool true)) en' := by
  obtain ⟨_, x, en, b, e1, e2, e3⟩ := hq [.list (ns.map .int)] _ (by rw [hA]; exact hP _ ⟨ns, rfl, h1, h2⟩)
  subst e3
  rcases e2 with rfl | ⟨⟨_, h⟩ | ⟨_, h⟩, _⟩
  · exact ⟨en, e1⟩
  · cases h
  · cases h
end Q57


namespace Q57
open PySem ZD ZP
def P_is_number (value_1 : PyData) (least_2 : PyData) (most_3 : PyData) : PR PyData :=
 (vandP (o1 (PR.ok value_1) fun a => outS ((oTest isiInt) a)) (vandP (vnotP (o1 (PR.ok value_1) fun a => outS ((oTest isiBool) a))) (chainP oLe oLe (PR.ok least_2) (PR.ok value_1) (PR.ok most_3))))
def A_is_number : List PyData → PR PyData
  | [value_1, least_2, most_3] => P_is_number value_1 least_2 most_3
  | _ => PR.bad
theorem q_is_number : FnD VS 3 F_is_number (fun ds => PQ (A_is_number ds)) := fnD_of (n := 3) (m := m_is_number) (fun ds Qd h => (match ds, h with | [_, _, _], _ => rfl | [], h => h.elim | [_], h => h.elim | [_, _], h => h.elim | _ :: _ :: _ :: _ :: _, h => h.elim)) fun ds hl => match ds, hl with | [value_1, least_2, most_3], _ => (show RS [(.shd value_1), (.shd least_2), (.shd most_3)] m_is_number (PQ (P_is_number value_1 least_2 most_3)) (PF VS) from
 (RS_ret0 (L := ([] : List Nat)) (J_shV (J_vandP (J_fz (fun _ _ => vs_vw) (J_op1P ov_s (JO_shd (i := 0) rfl))) (J_vandP (J_vnotP (J_fz (fun _ _ => vs_vw) (J_op1P ov_s (JO_shd (i := 0) rfl)))) (J_fz (fun _ _ => vs_vw) (J_op2cP (L2 := ([] : List Nat)) (L3 := ([] : List Nat)) (JO_shd (i := 1) rfl) (JO_shd (i := 0) rfl) (JO_shd (i := 2) rfl) (fun _ h => nomatch h) (fun _ h => nomatch h) (fun _ h => nomatch h) (fun _ h => nomatch h)))))) (fun r x en hv he => pf_rt r x en hv he)))
def P_is_name (value_1 : PyData) : PR PyData :=
 (vandP (o1 (PR.ok value_1) fun a => outS ((oTest isiStr) a)) (vandP (chainP oLe oLe (PR.ok (.int 1)) (o1 (PR.ok value_1) fun a => outS (oLen a)) (PR.ok (.int 16))) (mallP ((PR.ok value_1).bind seqF) (fun x_2 => (st1 (chainP oLe oLe (PR.ok (.str "a")) (PR.ok x_2) (PR.ok (.str "z"))))))))
def A_is_name : List PyData → PR PyData
  | [value_1] => P_is_name value_1
  | _ => PR.bad
theorem q_is_name : FnD VS 1 F_is_name (fun ds => PQ (A_is_name ds)) := fnD_of (n := 2) (m := m_is_name) (fun ds Qd h => (match ds, h with | [_], _ => rfl | [], h => h.elim | _ :: _ :: _, h => h.elim)) fun ds hl => match ds, hl with | [value_1], _ => (show RS [(.shd value_1), .pl] m_is_name (PQ (P_is_name value_1)) (PF VS) from
 (RS_ret0 (L := ([] : List Nat)) (J_shV (J_vandP (J_fz (fun _ _ => vs_vw) (J_op1P ov_s (JO_shd (i := 0) rfl))) (J_vandP (J_fz (fun _ _ => vs_vw) (J_op2cP (L2 := ([] : List Nat)) (L3 := ([] : List Nat)) (JO_d J_cst) (JO_d (J_fz (fun _ _ => vs_vw) (J_op1P ov_s (JO_shd (i := 0) rfl)))) (JO_d J_cst) (fun _ h => nomatch h) (fun _ h => nomatch h) (fun _ h => nomatch h) (fun _ h => nomatch h))) (J_allP (vs := [1]) (J_seqP (J_shd (i := 0) rfl)) rfl (fun x_2 => J_stepN (i := 1) rfl (by decide) (J2_tail1P rfl rfl (by decide) (J_fz (fun _ _ => vs_vw) (J_op2cP (L2 := ([] : List Nat)) (L3 := ([] : List Nat)) (JO_d J_cst) (JO_shd (i := 1) rfl) (JO_d J_cst) (fun _ h => nomatch h) (fun _ h => nomatch h) (fun _ h => nomatch h) (fun _ h => nomatch h))))))))) (fun r x en hv he => pf_rt r x en hv he)))
def P_is_names (value_1 : PyData) (least_2 : PyData) (most_3 : PyData) : PR PyData :=
 (ifP (orP (notP (tstP (o1 (PR.ok value_1) fun a => outS ((oTest isiTup) a)))) (notP (tstP (chainP oLe oLe (PR.ok least_2) (o1 (PR.ok value_1) fun a => outS (oLen a)) (PR.ok most_3)))))  (PR.ok (.bool false))  (ifP (notP (tstP (mallP ((PR.ok value_1).bind seqF) (fun x_4 => (st1 ((aconsP (PR.ok x_4) (PR.ok [])).bind fun ds => (A_is_name ds).noe))))))  (PR.ok (.bool false))  (mallP ((o2 (o1 (PR.ok value_1) fun a => outS (oLen a)) (PR.ok (.int 1)) fun a b => outS (oSub a b)).bind rng1F) (fun x_5 => (st1 (o2 (o2 (PR.ok value_1) (PR.ok x_5) fun a b => outS (oIx a b)) (o2 (PR.ok value_1) (o2 (PR.ok x_5) (PR.ok (.int 1)) fun a b => outR (oAdd a b)) fun a b => outS (oIx a b)) fun a b => outS (oLt a b)))))))
def A_is_names : List PyData → PR PyData
  | [value_1, least_2, most_3] => P_is_names value_1 least_2 most_3
  | _ => PR.bad
theorem q_is_names : FnD VS 3 F_is_names (fun ds => PQ (A_is_names ds)) := fnD_of (n := 5) (m := m_is_names) (fun ds Qd h => (match ds, h with | [_, _, _], _ => rfl | [], h => h.elim | [_], h => h.elim | [_, _], h => h.elim | _ :: _ :: _ :: _ :: _, h => h.elim)) fun ds hl => match ds, hl with | [value_1, least_2, most_3], _ => (show RS [(.shd value_1), (.shd least_2), (.shd most_3), .pl, .pl] m_is_names (PQ (P_is_names value_1 least_2 most_3)) (PF VS) from
 (RS_ifP (L := ([] : List Nat)) (J_orP (J_notP (J_tstP (J_fz (fun _ _ => vs_vw) (J_op1P ov_s (JO_shd (i := 0) rfl))))) (J_notP (J_tstP (J_fz (fun _ _ => vs_vw) (J_op2cP (L2 := ([] : List Nat)) (L3 := ([] : List Nat)) (JO_shd (i := 1) rfl) (JO_d (J_fz (fun _ _ => vs_vw) (J_op1P ov_s (JO_shd (i := 0) rfl)))) (JO_shd (i := 2) rfl) (fun _ h => nomatch h) (fun _ h => nomatch h) (fun _ h => nomatch h) (fun _ h => nomatch h))))))  (RS_eq (mseq_mret _ _) (RS_ret0 (L := ([] : List Nat)) (J_shV J_cst) (fun r x en hv he => pf_rt r x en hv he)))  (RS_eq (mseq_nx _) (RS_ifP (L := ([] : List Nat)) (J_notP (J_tstP (J_allP (vs := [3]) (J_seqP (J_shd (i := 0) rfl)) rfl (fun x_4 => J_stepN (i := 3) rfl (by decide) (J2_tail1P rfl rfl (by decide) (J_fz (fun _ _ => vs_vw) (J_callP q_is_name (J_consP (J_shd (i := 3) rfl) J_nil))))))))  (RS_eq (mseq_mret _ _) (RS_ret0 (L := ([] : List Nat)) (J_shV J_cst) (fun r x en hv he => pf_rt r x en hv he)))  (RS_eq (mseq_nx _) (RS_ret0 (L := ([] : List Nat)) (J_shV (J_allP (vs := [4]) (J_rng1P (J_fz (fun _ _ => vs_vw) (J_op2P (L2 := ([] : List Nat)) ov_s (JO_d (J_fz (fun _ _ => vs_vw) (J_op1P ov_s (JO_shd (i := 0) rfl)))) (JO_d J_cst) (fun _ h => nomatch h) (fun _ h => nomatch h)))) rfl (fun x_5 => J_stepN (i := 4) rfl (by decide) (J2_tail1P rfl rfl (by decide) (J_fz (fun _ _ => vs_vw) (J_op2P (L2 := ([] : List Nat)) ov_s (JO_d (J_fz (fun _ _ => vs_vw) (J_op2P (L2 := ([] : List Nat)) ov_s (JO_shd (i := 0) rfl) (JO_shd (i := 4) rfl) (fun _ h => nomatch h) (fun _ h => nomatch h)))) (JO_d (J_fz (fun _ _ => vs_vw) (J_op2P (L2 := ([] : List Nat)) ov_s (JO_shd (i := 0) rfl) (JO_d (J_fz (fun _ _ h => h) (J_op2P (L2 := ([] : List Nat)) ov_w (JO_shd (i := 4) rfl) (JO_d J_cst) (fun _ h => nomatch h) (fun _ h => nomatch h)))) (fun _ h => nomatch h) (fun _ h => nomatch h)))) (fun _ h => nomatch h) (fun _ h => nomatch h))))))) (fun r x en hv he => pf_rt r x en hv he)))))))
def P_is_vector (value_1 : PyData) : PR PyData :=
 (ifP (orP (notP (tstP (o1 (PR.ok value_1) fun a => outS ((oTest isiTup) a)))) (notP (tstP (mallP ((PR.ok value_1).bind seqF) (fun x_2 => (st1 (vandP (o1 (PR.ok x_2) fun a => outS ((oTest isiTup) a)) (o2 (o1 (PR.ok x_2) fun a => outS (oLen a)) (PR.ok (.int 2)) fun a b => outS (oEq a b)))))))))  (PR.ok (.bool false))  (ifP (notP (tstP ((aconsP (o1 (mcompP ((PR.ok value_1).bind seqF) (fun x_3 => (st1 (o2 (PR.ok x_3) (PR.ok (.int 0)) fun a b => outS (oIx a b))))) fun a => outS (oTuple a)) (aconsP (PR.ok (.int 0)) (aconsP (PR.ok (.int 8)) (PR.ok [])))).bind fun ds => (A_is_names ds).noe)))  (PR.ok (.bool false))  (mallP ((PR.ok value_1).bind seqF) (fun x_4 => (st1 ((aconsP (o2 (PR.ok x_4) (PR.ok (.int 1)) fun a b => outS (oIx a b)) (aconsP (PR.ok (.int 1)) (aconsP (PR.ok (.int 1000000000)) (PR.ok [])))).bind fun ds => (A_is_number ds).noe))))))
def A_is_vector : List PyData → PR PyData
  | [value_1] => P_is_vector value_1
  | _ => PR.bad
theorem q_is_vector : FnD VS 1 F_is_vector (fun ds => PQ (A_is_vector ds)) := fnD_of (n := 2) (m := m_is_vector) (fun ds Qd h => (match ds, h with | [_], _ => rfl | [], h => h.elim | _ :: _ :: _, h => h.elim)) fun ds hl => match ds, hl with | [value_1], _ => (show RS [(.shd value_1), .pl] m_is_vector (PQ (P_is_vector value_1)) (PF VS) from
 (RS_ifP (L := ([] : List Nat)) (J_orP (J_notP (J_tstP (J_fz (fun _ _ => vs_vw) (J_op1P ov_s (JO_shd (i := 0) rfl))))) (J_notP (J_tstP (J_allP (vs := [1]) (J_seqP (J_shd (i := 0) rfl)) rfl (fun x_2 => J_stepN (i := 1) rfl (by decide) (J2_tail1P rfl rfl (by decide) (J_vandP (J_fz (fun _ _ => vs_vw) (J_op1P ov_s (JO_shd (i := 1) rfl))) (J_fz (fun _ _ => vs_vw) (J_op2P (L2 := ([] : List Nat)) ov_s (JO_d (J_fz (fun _ _ => vs_vw) (J_op1P ov_s (JO_shd (i := 1) rfl)))) (JO_d J_cst) (fun _ h => nomatch h) (fun _ h => nomatch h))))))))))  (RS_eq (mseq_mret _ _) (RS_ret0 (L := ([] : List Nat)) (J_shV J_cst) (fun r x en hv he => pf_rt r x en hv he)))  (RS_eq (mseq_nx _) (RS_ifP (L := ([] : List Nat)) (J_notP (J_tstP (J_fz (fun _ _ => vs_vw) (J_callP q_is_names (J_consP (J_fz (fun _ _ => vs_vw) (J_op1P ov_s (JO_d (J_fz (fun _ _ => vl_vw) (J_compP (vs := [1]) (J_seqP (J_shd (i := 0) rfl)) rfl (fun x_3 => J_stepN (i := 1) rfl (by decide) (J2_tail1P rfl rfl (by decide) (J_fz (fun _ _ => vs_vw) (J_op2P (L2 := ([] : List Nat)) ov_s (JO_shd (i := 1) rfl) (JO_d J_cst) (fun _ h => nomatch h) (fun _ h => nomatch h)))))))))) (J_consP J_cst (J_consP J_cst J_nil)))))))  (RS_eq (mseq_mret _ _) (RS_ret0 (L := ([] : List Nat)) (J_shV J_cst) (fun r x en hv he => pf_rt r x en hv he)))  (RS_eq (mseq_nx _) (RS_ret0 (L := ([] : List Nat)) (J_shV (J_allP (vs := [1]) (J_seqP (J_shd (i := 0) rfl)) rfl (fun x_4 => J_stepN (i := 1) rfl (by decide) (J2_tail1P rfl rfl (by decide) (J_fz (fun _ _ => vs_vw) (J_callP q_is_number (J_consP (J_fz (fun _ _ => vs_vw) (J_op2P (L2 := ([] : List Nat)) ov_s (JO_shd (i := 1) rfl) (JO_d J_cst) (fun _ h => nomatch h) (fun _ h => nomatch h))) (J_consP J_cst (J_consP J_cst J_nil))))))))) (fun r x en hv he => pf_rt r x en hv he)))))))
def P_number_of (vector_1 : PyData) (node_2 : PyData) : PR PyData :=
 (get2P (o1 (PR.ok vector_1) fun a => outK (oDictP a)) (PR.ok node_2) (PR.ok (.int 0)))
def A_number_of : List PyData → PR PyData
  | [vector_1, node_2] => P_number_of vector_1 node_2
  | _ => PR.bad
theorem q_number_of : FnD VW 2 F_number_of (fun ds => PQ (A_number_of ds)) := fnD_of (n := 2) (m := m_number_of) (fun ds Qd h => (match ds, h with | [_, _], _ => rfl | [], h => h.elim | [_], h => h.elim | _ :: _ :: _ :: _, h => h.elim)) fun ds hl => match ds, hl with | [vector_1, node_2], _ => (show RS [(.shd vector_1), (.shd node_2)] m_number_of (PQ (P_number_of vector_1 node_2)) (PF VW) from
 (RS_ret0 (L := ([] : List Nat)) (J_weak (J_shV (J_get2vP (L2 := ([] : List Nat)) (J_op1LP ov_k (J_lkO (JO_shd (i := 0) rfl))) (JO_shd (i := 1) rfl) J_cst (fun _ h => nomatch h) (fun _ h => nomatch h))) fun _ _ => vs_vw) (fun r x en hv he => pf_rt r x en hv he)))
def P_at_most (one_1 : PyData) (other_2 : PyData) : PR PyData :=
 (mallP ((PR.ok one_1).bind seqF) (fun x_3 => spT 2 x_3 fun ds => match ds with | [node_4, number_5] => (st1 (o2 (PR.ok number_5) ((aconsP (PR.ok other_2) (aconsP (PR.ok node_4) (PR.ok []))).bind fun ds => (A_number_of ds).noe) fun a b => outS (oLe a b))) | _ => PR.bad))
def A_at_most : List PyData → PR PyData
  | [one_1, other_2] => P_at_most one_1 other_2
  | _ => PR.bad
theorem q_at_most : FnD VS 2 F_at_most (fun ds => PQ (A_at_most ds)) := fnD_of (n := 4) (m := m_at_most) (fun ds Qd h => (match ds, h with | [_, _], _ => rfl | [], h => h.elim | [_], h => h.elim | _ :: _ :: _ :: _, h => h.elim)) fun ds hl => match ds, hl with | [one_1, other_2], _ => (show RS [(.shd one_1), (.shd other_2), .pl, .pl] m_at_most (PQ (P_at_most one_1 other_2)) (PF VS) from
 (RS_ret0 (L := ([] : List Nat)) (J_shV (J_allP (vs := [2, 3]) (J_seqP (J_shd (i := 0) rfl)) rfl (fun x_3 => J_stepTP (is := [2, 3]) rfl rfl (by decide) fun ds hl => match ds, hl with | [node_4, number_5], _ => (J2_tail1P rfl rfl (by decide) (J_fz (fun _ _ => vs_vw) (J_op2P (L2 := ([] : List Nat)) ov_s (JO_shd (i := 3) rfl) (JO_d (J_fz (fun _ _ h => h) (J_callP q_number_of (J_consP (J_shd (i := 1) rfl) (J_consP (J_shd (i := 2) rfl) J_nil))))) (fun _ h => nomatch h) (fun _ h => nomatch h))))))) (fun r x en hv he => pf_rt r x en hv he)))
def P_join (one_1 : PyData) (other_2 : PyData) : PR PyData :=
 ((o1 (PR.ok other_2) fun a => outK (oDictP a)).bind fun told_3 =>  (PR.bind ((PR.ok one_1).bind seqF) fun l_12 => (PR.bind (foldP (fun d_5 (s_4 : PyData) => (PR.bind (unF 2 d_5) fun q_13 => match q_13 with | [node_6, number_7] => ((o2 (PR.ok number_7) (get2P (PR.ok s_4) (PR.ok node_6) (PR.ok (.int 0))) fun a b => outS (oMax2 a b)).bind fun y_9 => (PR.ok node_6).bind fun z_10 => (dstF s_4 z_10 y_9).bind fun told_8 =>  (PR.ok told_8)) | _ => PR.bad)) l_12 told_3) fun (s_11 : PyData) => (o1 ((PR.ok s_11).bind (itxF srtF)) fun a => outS (oTuple a)))))
def A_join : List PyData → PR PyData
  | [one_1, other_2] => P_join one_1 other_2
  | _ => PR.bad
theorem q_join : FnD VS 2 F_join (fun ds => PQ (A_join ds)) := fnD_of (n := 5) (m := m_join) (fun ds Qd h => (match ds, h with | [_, _], _ => rfl | [], h => h.elim | [_], h => h.elim | _ :: _ :: _ :: _, h => h.elim)) fun ds hl => match ds, hl with | [one_1, other_2], _ => (show RS [(.shd one_1), (.shd other_2), .pl, .pl, .pl] m_join (PQ (P_join one_1 other_2)) (PF VS) from
 (RS_asgP (i := 2) (L := ([] : List Nat)) (J_op1LP ov_k (J_lkO (JO_shd (i := 1) rfl))) v_ownd rfl fun told_3 => (RS_forTP (is := [3, 4]) (L := ([] : List Nat)) (Gs := (fun (s_4 : PyData) => [(.shd one_1), (.shd other_2), (.ownd s_4), .pl, .pl])) told_3 (J_seqP (J_shd (i := 0) rfl)) (.cons s_rf (.cons s_rf (.cons s_rf (.cons s_rf (.cons s_rf .nil))))) (fun _ => rfl) rfl (fun d_5 s_4 ds hl => match ds, hl with | [node_6, number_7], _ => (RS_end (RS_dstP (i := 2) (L := ([] : List Nat)) rfl (J_fz (fun _ _ => vs_vw) (J_op2P (L2 := ([] : List Nat)) ov_s (JO_shd (i := 4) rfl) (JO_d (J_get2P (JO_ownd (i := 2) rfl) (JO_shd (i := 3) rfl) J_cst)) (fun _ h => nomatch h) (fun _ h => nomatch h))) (JO_shd (i := 3) rfl) fun told_8 => (RS_nx fun en he => ⟨.inl rfl, er_sub (.cons s_rf (.cons s_rf (.cons s_rf (.cons s_hp (.cons s_hp .nil))))) he⟩)))) (fun s_11 => (RS_ret0 (L := ([] : List Nat)) (J_op1P ov_s (JO_d (J_fz (fun _ _ => vl_vw) (J_itxP (J_lkO (JO_ownd (i := 2) rfl)))))) (fun r x en hv he => pf_rt r x en hv he))))))
def P_compare (one_1 : PyData) (other_2 : PyData) : PR PyData :=
 (ifP (tstP ((aconsP (PR.ok one_1) (aconsP (PR.ok other_2) (PR.ok []))).bind fun ds => (A_at_most ds).noe))  (ifP (tstP (o2 (PR.ok one_1) (PR.ok other_2) fun a b => outS (oEq a b))) (PR.ok (.str "same")) (PR.ok (.str "older")))  (ifP (tstP ((aconsP (PR.ok other_2) (aconsP (PR.ok one_1) (PR.ok []))).bind fun ds => (A_at_most ds).noe)) (PR.ok (.str "newer")) (PR.ok (.str "beside"))))
def A_compare : List PyData → PR PyData
  | [one_1, other_2] => P_compare one_1 other_2
  | _ => PR.bad
theorem q_compare : FnD VS 2 F_compare (fun ds => PQ (A_compare ds)) := fnD_of (n := 2) (m := m_compare) (fun ds Qd h => (match ds, h with | [_, _], _ => rfl | [], h => h.elim | [_], h => h.elim | _ :: _ :: _ :: _, h => h.elim)) fun ds hl => match ds, hl with | [one_1, other_2], _ => (show RS [(.shd one_1), (.shd other_2)] m_compare (PQ (P_compare one_1 other_2)) (PF VS) from
 (RS_ifP (L := ([] : List Nat)) (J_tstP (J_fz (fun _ _ => vs_vw) (J_callP q_at_most (J_consP (J_shd (i := 0) rfl) (J_consP (J_shd (i := 1) rfl) J_nil)))))  (RS_eq (mseq_mret _ _) (RS_ret0 (L := ([] : List Nat)) (J_shV (J_ifP (J_tstP (J_fz (fun _ _ => vs_vw) (J_op2P (L2 := ([] : List Nat)) ov_s (JO_shd (i := 0) rfl) (JO_shd (i := 1) rfl) (fun _ h => nomatch h) (fun _ h => nomatch h)))) J_cst J_cst)) (fun r x en hv he => pf_rt r x en hv he)))  (RS_eq (mseq_nx _) (RS_ret0 (L := ([] : List Nat)) (J_shV (J_ifP (J_tstP (J_fz (fun _ _ => vs_vw) (J_callP q_at_most (J_consP (J_shd (i := 1) rfl) (J_consP (J_shd (i := 0) rfl) J_nil))))) J_cst J_cst)) (fun r x en hv he => pf_rt r x en hv he)))))
def P_raised (vector_1 : PyData) (node_2 : PyData) (number_3 : PyData) : PR PyData :=
 ((o1 (PR.ok vector_1) fun a => outK (oDictP a)).bind fun told_4 =>  ((o2 (get2P (PR.ok told_4) (PR.ok node_2) (PR.ok (.int 0))) (PR.ok number_3) fun a b => outR (oAdd a b)).bind fun y_6 => (PR.ok node_2).bind fun z_7 => (dstF told_4 z_7 y_6).bind fun told_5 =>  (o1 ((PR.ok told_5).bind (itxF srtF)) fun a => outS (oTuple a))))
def A_raised : List PyData → PR PyData
  | [vector_1, node_2, number_3] => P_raised vector_1 node_2 number_3
  | _ => PR.bad
theorem q_raised : FnD VS 3 F_raised (fun ds => PQ (A_raised ds)) := fnD_of (n := 4) (m := m_raised) (fun ds Qd h => (match ds, h with | [_, _, _], _ => rfl | [], h => h.elim | [_], h => h.elim | [_, _], h => h.elim | _ :: _ :: _ :: _ :: _, h => h.elim)) fun ds hl => match ds, hl with | [vector_1, node_2, number_3], _ => (show RS [(.shd vector_1), (.shd node_2), (.shd number_3), .pl] m_raised (PQ (P_raised vector_1 node_2 number_3)) (PF VS) from
 (RS_asgP (i := 3) (L := ([] : List Nat)) (J_op1LP ov_k (J_lkO (JO_shd (i := 0) rfl))) v_ownd rfl fun told_4 => (RS_dstP (i := 3) (L := ([] : List Nat)) rfl (J_fz (fun _ _ h => h) (J_op2P (L2 := ([] : List Nat)) ov_w (JO_d (J_get2P (JO_ownd (i := 3) rfl) (JO_shd (i := 1) rfl) J_cst)) (JO_shd (i := 2) rfl) (fun _ h => nomatch h) (fun _ h => nomatch h))) (JO_shd (i := 1) rfl) fun told_5 => (RS_ret0 (L := ([] : List Nat)) (J_op1P ov_s (JO_d (J_fz (fun _ _ => vl_vw) (J_itxP (J_lkO (JO_ownd (i := 3) rfl)))))) (fun r x en hv he => pf_rt r x en hv he)))))
def P__law_int (value_1 : PyData) : PR PyData :=
 (vandP (o1 (PR.ok value_1) fun a => outS ((oTest isiInt) a)) (vnotP (o1 (PR.ok value_1) fun a => outS ((oTest isiBool) a))))
def A__law_int : List PyData → PR PyData
  | [value_1] => P__law_int value_1
  | _ => PR.bad
theorem q__law_int : FnD VS 1 F__law_int (fun ds => PQ (A__law_int ds)) := fnD_of (n := 1) (m := m__law_int) (fun ds Qd h => (match ds, h with | [_], _ => rfl | [], h => h.elim | _ :: _ :: _, h => h.elim)) fun ds hl => match ds, hl with | [value_1], _ => (show RS [(.shd value_1)] m__law_int (PQ (P__law_int value_1)) (PF VS) from
 (RS_ret0 (L := ([] : List Nat)) (J_shV (J_vandP (J_fz (fun _ _ => vs_vw) (J_op1P ov_s (JO_shd (i := 0) rfl))) (J_vnotP (J_fz (fun _ _ => vs_vw) (J_op1P ov_s (JO_shd (i := 0) rfl)))))) (fun r x en hv he => pf_rt r x en hv he)))
def P__law_same (told_1 : PyData) (due_2 : PyData) : PR PyData :=
 (ifP (tstP (PR.ok due_2)) (o2 (PR.ok told_1) (PR.ok (.bool true)) fun a b => outS ((oIs false) a b)) (o2 (PR.ok told_1) (PR.ok (.bool false)) fun a b => outS ((oIs false) a b)))
def A__law_same : List PyData → PR PyData
  | [told_1, due_2] => P__law_same told_1 due_2
  | _ => PR.bad
theorem q__law_same : FnD VS 2 F__law_same (fun ds => PQ (A__law_same ds)) := fnD_of (n := 2) (m := m__law_same) (fun ds Qd h => (match ds, h with | [_, _], _ => rfl | [], h => h.elim | [_], h => h.elim | _ :: _ :: _ :: _, h => h.elim)) fun ds hl => match ds, hl with | [told_1, due_2], _ => (show RS [(.shd told_1), (.shd due_2)] m__law_same (PQ (P__law_same told_1 due_2)) (PF VS) from
 (RS_ret0 (L := ([] : List Nat)) (J_ifP (J_tstP (J_shd (i := 1) rfl)) (J_op2P (L2 := ([] : List Nat)) ov_s (JO_shd (i := 0) rfl) (JO_d J_cst) (fun _ h => nomatch h) (fun _ h => nomatch h)) (J_op2P (L2 := ([] : List Nat)) ov_s (JO_shd (i := 0) rfl) (JO_d J_cst) (fun _ h => nomatch h) (fun _ h => nomatch h))) (fun r x en hv he => pf_rt r x en hv he)))
def P__law_vector (most_2 : PyData) : Dm PyData :=
 (bD (PQ ((aconsP (PR.ok (.str "a")) (aconsP (PR.ok (.str "bob")) (aconsP (PR.ok (.str "c")) (aconsP (PR.ok (.str "d")) (aconsP (PR.ok (.str "e")) (aconsP (PR.ok (.str "f")) (aconsP (PR.ok (.str "g")) (aconsP (PR.ok (.str "h")) (PR.ok []))))))))).bind lstF)) fun names_3 =>  (bD (b2 (PQ ((aconsP (PR.ok (.int 2)) (aconsP (PR.ok (.int 4)) (aconsP (o2 (PR.ok (.int 10)) (PR.ok (.int 9)) fun a b => outS (oPow a b)) (PR.ok [])))).bind lstF)) (bD (PQ (aconsP (PR.ok (.int 3)) (PR.ok []))) fun ds => nD (A__law_draw ds)) fun a b => outS (oIx a b)) fun size_4 =>  (b1 (mcompD (PQ ((slcP outR (PR.ok names_3) (PR.ok none) ((PR.ok most_2).bind posF)).bind seqF)) (fun x_5 => (stD (tstD (b2 (bD (PQ (aconsP (PR.ok (.int 3)) (PR.ok []))) fun ds => nD (A__law_draw ds)) (PQ (PR.ok (.int 0))) fun a b => outS (oGt a b))) (bD (aconsD (PQ (PR.ok x_5)) (aconsD (b2 (PQ (PR.ok (.int 1))) (bD (PQ (aconsP (PR.ok size_4) (PR.ok []))) fun ds => nD (A__law_draw ds)) fun a b => outR (oAdd a b)) (PQ (PR.ok [])))) fun ds => PQ (tupF ds))))) fun a => outS (oTuple a))))
def A__law_vector : List PyData → Dm PyData
  | [most_2] => P__law_vector most_2
  | _ => PQ .bad
theorem q__law_vector : FnI VS DS 2 F__law_vector A__law_vector := fnI_of (n := 5) (m := m__law_vector) (fun ds Qd h => (match ds, h with | [_], _ => rfl | [], h => h.elim | _ :: _ :: _, h => h.elim)) fun ds hl => match ds, hl with | [most_2], _ => (show RS [(.iov DS), (.shd most_2), .pl, .pl, .pl] m__law_vector (P__law_vector most_2) (PFI VS DS) from
 (RS_asg (i := 2) (L := ([] : List Nat)) (J_lstP (J_consP J_cst (J_consP J_cst (J_consP J_cst (J_consP J_cst (J_consP J_cst (J_consP J_cst (J_consP J_cst (J_consP J_cst J_nil))))))))) v_ownl rfl fun names_3 => (RS_asg (i := 3) (L := ([0] : List Nat)) (J_opv2 ov_s vl_d (J_lstP (J_consP J_cst (J_consP J_cst (J_consP (J_fz (fun _ _ => vs_vw) (J_op2P (L2 := ([] : List Nat)) ov_s (JO_d J_cst) (JO_d J_cst) (fun _ h => nomatch h) (fun _ h => nomatch h))) J_nil)))) (JO_d (J_fz (fun _ _ => vs_vw) (J_callI q__law_draw (i := 0) rfl (.inl rfl) (by decide) (J_consP J_cst J_nil))))) v_shd rfl fun size_4 => (RS_ret0 (L := ([0] : List Nat)) (J_op1 ov_s (JO_d (J_fz (fun _ _ => vl_vw) (J_comp (vs := [4]) (J_seqP (J_fz (fun _ _ h => h) (J_slcP (L2 := ([] : List Nat)) ov_w (JO_ownl (i := 2) rfl) J_pno (J_psoP (JO_shd (i := 1) rfl)) (fun _ h => nomatch h) (fun _ h => nomatch h)))) rfl (fun x_5 => J_stepN (i := 4) rfl (by decide) (J2_tail rfl rfl (by decide) (J_tst (J_fz (fun _ _ => vs_vw) (J_op2 (L2 := ([] : List Nat)) ov_s (JO_d (J_fz (fun _ _ => vs_vw) (J_callI q__law_draw (i := 0) rfl (.inl rfl) (by decide) (J_consP J_cst J_nil)))) (JO_d J_cst) (fun _ h => nomatch h) (fun _ h => nomatch h)))) (J_tup (J_cons (J_shd (i := 4) rfl) (J_cons (J_fz (fun _ _ h => h) (J_op2 (L2 := ([0] : List Nat)) ov_w (JO_d J_cst) (JO_d (J_fz (fun _ _ => vs_vw) (J_callI q__law_draw (i := 0) rfl (.inl rfl) (by decide) (J_consP (J_shd (i := 3) rfl) J_nil)))) (by decide) (by decide))) J_nil))))))))) (fun r x en hv he => pfi_rt r x en hv he)))))
def P__law_number (vector_1 : PyData) (node_2 : PyData) : PR PyData :=
 (o1 (mcompP ((PR.ok vector_1).bind seqF) (fun x_3 => spT 2 x_3 fun ds => match ds with | [name_4, number_5] => (stP (tstP (o2 (PR.ok name_4) (PR.ok node_2) fun a b => outS (oEq a b))) (PR.ok number_5)) | _ => PR.bad)) fun a => outS (oSum a))
def A__law_number : List PyData → PR PyData
  | [vector_1, node_2] => P__law_number vector_1 node_2
  | _ => PR.bad
theorem q__law_number : FnD VW 2 F__law_number (fun ds => PQ (A__law_number ds)) := fnD_of (n := 4) (m := m__law_number) (fun ds Qd h => (match ds, h with | [_, _], _ => rfl | [], h => h.elim | [_], h => h.elim | _ :: _ :: _ :: _, h => h.elim)) fun ds hl => match ds, hl with | [vector_1, node_2], _ => (show RS [(.shd vector_1), (.shd node_2), .pl, .pl] m__law_number (PQ (P__law_number vector_1 node_2)) (PF VW) from
 (RS_ret0 (L := ([] : List Nat)) (J_weak (J_op1P ov_s (JO_d (J_fz (fun _ _ => vl_vw) (J_compP (vs := [2, 3]) (J_seqP (J_shd (i := 0) rfl)) rfl (fun x_3 => J_stepTP (is := [2, 3]) rfl rfl (by decide) fun ds hl => match ds, hl with | [name_4, number_5], _ => (J2_tailP rfl rfl (by decide) (J_tstP (J_fz (fun _ _ => vs_vw) (J_op2P (L2 := ([] : List Nat)) ov_s (JO_shd (i := 2) rfl) (JO_shd (i := 1) rfl) (fun _ h => nomatch h) (fun _ h => nomatch h)))) (J_shd (i := 3) rfl))))))) fun _ _ => vs_vw) (fun r x en hv he => pf_rt r x en hv he)))
def P__law_join (one_1 : PyData) (other_2 : PyData) : PR PyData :=
 ((o1 (o2 (mcompP ((PR.ok one_1).bind seqF) (fun x_3 => spT 2 x_3 fun ds => match ds with | [name_4, number_5] => (st1 (PR.ok name_4)) | _ => PR.bad)) (mcompP ((PR.ok other_2).bind seqF) (fun x_6 => spT 2 x_6 fun ds => match ds with | [name_7, number_8] => (stP (tstP (o2 ((aconsP (PR.ok one_1) (aconsP (PR.ok name_7) (PR.ok []))).bind fun ds => (A__law_number ds).noe) (PR.ok (.int 0)) fun a b => outS (oEq a b))) (PR.ok name_7)) | _ => PR.bad)) fun a b => outR (oAdd a b)) fun a => outL (oSorted a)).bind fun nodes_9 =>  (o1 (mcompP ((PR.ok nodes_9).bind seqF) (fun x_10 => (st1 ((aconsP (PR.ok x_10) (aconsP (o2 ((aconsP (PR.ok one_1) (aconsP (PR.ok x_10) (PR.ok []))).bind fun ds => (A__law_number ds).noe) ((aconsP (PR.ok other_2) (aconsP (PR.ok x_10) (PR.ok []))).bind fun ds => (A__law_number ds).noe) fun a b => outS (oMax2 a b)) (PR.ok []))).bind tupF)))) fun a => outS (oTuple a)))
def A__law_join : List PyData → PR PyData
  | [one_1, other_2] => P__law_join one_1 other_2
  | _ => PR.bad
theorem q__law_join : FnD VS 2 F__law_join (fun ds => PQ (A__law_join ds)) := fnD_of (n := 5) (m := m__law_join) (fun ds Qd h => (match ds, h with | [_, _], _ => rfl | [], h => h.elim | [_], h => h.elim | _ :: _ :: _ :: _, h => h.elim)) fun ds hl => match ds, hl with | [one_1, other_2], _ => (show RS [(.shd one_1), (.shd other_2), .pl, .pl, .pl] m__law_join (PQ (P__law_join one_1 other_2)) (PF VS) from
 (RS_asgP (i := 2) (L := ([] : List Nat)) (J_op1P ov_l (JO_d (J_fz (fun _ _ h => h) (J_op2P (L2 := ([] : List Nat)) ov_w (JO_d (J_fz (fun _ _ => vl_vw) (J_compP (vs := [3, 4]) (J_seqP (J_shd (i := 0) rfl)) rfl (fun x_3 => J_stepTP (is := [3, 4]) rfl rfl (by decide) fun ds hl => match ds, hl with | [name_4, number_5], _ => (J2_tail1P rfl rfl (by decide) (J_shd (i := 3) rfl)))))) (JO_d (J_fz (fun _ _ => vl_vw) (J_compP (vs := [3, 4]) (J_seqP (J_shd (i := 1) rfl)) rfl (fun x_6 => J_stepTP (is := [3, 4]) rfl rfl (by decide) fun ds hl => match ds, hl with | [name_7, number_8], _ => (J2_tailP rfl rfl (by decide) (J_tstP (J_fz (fun _ _ => vs_vw) (J_op2P (L2 := ([] : List Nat)) ov_s (JO_d (J_fz (fun _ _ h => h) (J_callP q__law_number (J_consP (J_shd (i := 0) rfl) (J_consP (J_shd (i := 3) rfl) J_nil))))) (JO_d J_cst) (fun _ h => nomatch h) (fun _ h => nomatch h)))) (J_shd (i := 3) rfl)))))) (fun _ h => nomatch h) (fun _ h => nomatch h))))) v_ownl rfl fun nodes_9 => (RS_sub (.cons s_rf (.cons s_rf (.cons s_lv (.cons s_rf (.cons s_rf .nil))))) (RS_ret0 (L := ([] : List Nat)) (J_op1P ov_s (JO_d (J_fz (fun _ _ => vl_vw) (J_compP (vs := [3]) (J_seqP (J_val (i := 2) rfl)) rfl (fun x_10 => J_stepN (i := 3) rfl (by decide) (J2_tail1P rfl rfl (by decide) (J_tupP (J_consP (J_shd (i := 3) rfl) (J_consP (J_fz (fun _ _ => vs_vw) (J_op2P (L2 := ([] : List Nat)) ov_s (JO_d (J_fz (fun _ _ h => h) (J_callP q__law_number (J_consP (J_shd (i := 0) rfl) (J_consP (J_shd (i := 3) rfl) J_nil))))) (JO_d (J_fz (fun _ _ h => h) (J_callP q__law_number (J_consP (J_shd (i := 1) rfl) (J_consP (J_shd (i := 3) rfl) J_nil))))) (fun _ h => nomatch h) (fun _ h => nomatch h))) J_nil))))))))) (fun r x en hv he => pf_rt r x en hv he)))))
def P__law_at_most (one_1 : PyData) (other_2 : PyData) : PR PyData :=
 (o2 (mcompP ((PR.ok one_1).bind seqF) (fun x_3 => spT 2 x_3 fun ds => match ds with | [name_4, number_5] => (stP (tstP (o2 (PR.ok number_5) ((aconsP (PR.ok other_2) (aconsP (PR.ok name_4) (PR.ok []))).bind fun ds => (A__law_number ds).noe) fun a b => outS (oGt a b))) (PR.ok name_4)) | _ => PR.bad)) ((PR.ok []).bind lstF) fun a b => outS (oEq a b))
def A__law_at_most : List PyData → PR PyData
  | [one_1, other_2] => P__law_at_most one_1 other_2
  | _ => PR.bad
theorem q__law_at_most : FnD VS 2 F__law_at_most (fun ds => PQ (A__law_at_most ds)) := fnD_of (n := 4) (m := m__law_at_most) (fun ds Qd h => (match ds, h with | [_, _], _ => rfl | [], h => h.elim | [_], h => h.elim | _ :: _ :: _ :: _, h => h.elim)) fun ds hl => match ds, hl with | [one_1, other_2], _ => (show RS [(.shd one_1), (.shd other_2), .pl, .pl] m__law_at_most (PQ (P__law_at_most one_1 other_2)) (PF VS) from
 (RS_ret0 (L := ([] : List Nat)) (J_op2P (L2 := ([] : List Nat)) ov_s (JO_d (J_fz (fun _ _ => vl_vw) (J_compP (vs := [2, 3]) (J_seqP (J_shd (i := 0) rfl)) rfl (fun x_3 => J_stepTP (is := [2, 3]) rfl rfl (by decide) fun ds hl => match ds, hl with | [name_4, number_5], _ => (J2_tailP rfl rfl (by decide) (J_tstP (J_fz (fun _ _ => vs_vw) (J_op2P (L2 := ([] : List Nat)) ov_s (JO_shd (i := 3) rfl) (JO_d (J_fz (fun _ _ h => h) (J_callP q__law_number (J_consP (J_shd (i := 1) rfl) (J_consP (J_shd (i := 2) rfl) J_nil))))) (fun _ h => nomatch h) (fun _ h => nomatch h)))) (J_shd (i := 2) rfl)))))) (JO_d (J_fz (fun _ _ => vl_vw) (J_lstP J_nil))) (fun _ h => nomatch h) (fun _ h => nomatch h)) (fun r x en hv he => pf_rt r x en hv he)))
def P__law_wrong (vector_1 : PyData) : PR PyData :=
 (((aconsP (PR.ok .none) (aconsP (o1 (PR.ok vector_1) fun a => outL (oList a)) (aconsP ((aconsP (PR.ok .none) (PR.ok [])).bind tupF) (aconsP ((aconsP ((aconsP (PR.ok (.str "a")) (PR.ok [])).bind tupF) (PR.ok [])).bind tupF) (aconsP ((aconsP ((aconsP (PR.ok (.str "a")) (aconsP (PR.ok (.int 0)) (PR.ok []))).bind tupF) (PR.ok [])).bind tupF) (aconsP ((aconsP ((aconsP (PR.ok (.str "a")) (aconsP (o2 (o2 (PR.ok (.int 10)) (PR.ok (.int 9)) fun a b => outS (oPow a b)) (PR.ok (.int 1)) fun a b => outR (oAdd a b)) (PR.ok []))).bind tupF) (PR.ok [])).bind tupF) (aconsP ((aconsP ((aconsP (PR.ok (.str "a")) (aconsP (PR.ok (.bool true)) (PR.ok []))).bind tupF) (PR.ok [])).bind tupF) (aconsP ((aconsP ((aconsP (PR.ok (.str "a")) (aconsP (PR.ok .none) (PR.ok []))).bind tupF) (PR.ok [])).bind tupF) (aconsP ((aconsP ((aconsP (PR.ok (.str "a")) (aconsP (PR.ok (.int 1)) (aconsP (PR.ok (.int 1)) (PR.ok [])))).bind tupF) (PR.ok [])).bind tupF) (aconsP ((aconsP ((aconsP (PR.ok (.str "a")) (aconsP (PR.ok (.int 1)) (PR.ok []))).bind lstF) (PR.ok [])).bind tupF) (aconsP ((aconsP ((aconsP (PR.ok (.str "A")) (aconsP (PR.ok (.int 1)) (PR.ok []))).bind tupF) (PR.ok [])).bind tupF) (aconsP ((aconsP ((aconsP (PR.ok (.str "")) (aconsP (PR.ok (.int 1)) (PR.ok []))).bind tupF) (PR.ok [])).bind tupF) (aconsP ((aconsP ((aconsP (PR.ok (.str "b")) (aconsP (PR.ok (.int 1)) (PR.ok []))).bind tupF) (aconsP ((aconsP (PR.ok (.str "a")) (aconsP (PR.ok (.int 1)) (PR.ok []))).bind tupF) (PR.ok []))).bind tupF) (aconsP ((aconsP ((aconsP (PR.ok (.str "a")) (aconsP (PR.ok (.int 1)) (PR.ok []))).bind tupF) (aconsP ((aconsP (PR.ok (.str "a")) (aconsP (PR.ok (.int 2)) (PR.ok []))).bind tupF) (PR.ok []))).bind tupF) (aconsP ((aconsP ((aconsP (PR.ok (.str "a")) (aconsP (PR.ok (.int 1)) (PR.ok []))).bind tupF) (aconsP ((aconsP (PR.ok (.str "a")) (aconsP (PR.ok (.int 1)) (PR.ok []))).bind tupF) (PR.ok []))).bind tupF) (aconsP (o1 (mcompP ((PR.ok (.str "abcdefghi")).bind seqF) (fun x_2 => (st1 ((aconsP (o2 (PR.ok (.str "n")) (PR.ok x_2) fun a b => outR (oAdd a b)) (aconsP (PR.ok (.int 1)) (PR.ok []))).bind tupF)))) fun a => outS (oTuple a)) (aconsP ((aconsP (PR.ok (.str "a")) (aconsP (PR.ok (.int 1)) (PR.ok []))).bind tupF) (aconsP (PR.ok (.int 5)) (aconsP (PR.ok (.str "a")) (PR.ok [])))))))))))))))))))).bind lstF).bind fun wrong_3 =>  ((o1 (mcompP ((PR.ok (.str "abcdefgh")).bind seqF) (fun x_4 => (st1 ((aconsP (o2 (PR.ok (.str "n")) (PR.ok x_4) fun a b => outR (oAdd a b)) (aconsP (o2 (PR.ok (.int 10)) (PR.ok (.int 9)) fun a b => outS (oPow a b)) (PR.ok []))).bind tupF)))) fun a => outS (oTuple a)).bind fun eight_5 =>  (vandP (o2 ((aconsP (PR.ok vector_1) (PR.ok [])).bind fun ds => (A_is_vector ds).noe) (PR.ok (.bool true)) fun a b => outS ((oIs false) a b)) (vandP (o2 ((aconsP ((PR.ok []).bind tupF) (PR.ok [])).bind fun ds => (A_is_vector ds).noe) (PR.ok (.bool true)) fun a b => outS ((oIs false) a b)) (vandP (o2 ((aconsP (PR.ok eight_5) (PR.ok [])).bind fun ds => (A_is_vector ds).noe) (PR.ok (.bool true)) fun a b => outS ((oIs false) a b)) (o2 (mcompP ((PR.ok wrong_3).bind seqF) (fun x_6 => (stP (tstP (o2 ((aconsP (PR.ok x_6) (PR.ok [])).bind fun ds => (A_is_vector ds).noe) (PR.ok (.bool false)) fun a b => outS ((oIs true) a b))) (PR.ok x_6)))) ((PR.ok []).bind lstF) fun a b => outS (oEq a b)))))))
def A__law_wrong : List PyData → PR PyData
  | [vector_1] => P__law_wrong vector_1
  | _ => PR.bad
theorem q__law_wrong : FnD VS 1 F__law_wrong (fun ds => PQ (A__law_wrong ds)) := fnD_of (n := 5) (m := m__law_wrong) (fun ds Qd h => (match ds, h with | [_], _ => rfl | [], h => h.elim | _ :: _ :: _, h => h.elim)) fun ds hl => match ds, hl with | [vector_1], _ => (show RS [(.shd vector_1), .pl, .pl, .pl, .pl] m__law_wrong (PQ (P__law_wrong vector_1)) (PF VS) from
 (RS_asgP (i := 1) (L := ([] : List Nat)) (J_lstP (J_consP J_cst (J_consP (J_fz (fun _ _ => vl_vw) (J_op1P ov_l (JO_shd (i := 0) rfl))) (J_consP (J_tupP (J_consP J_cst J_nil)) (J_consP (J_tupP (J_consP (J_tupP (J_consP J_cst J_nil)) J_nil)) (J_consP (J_tupP (J_consP (J_tupP (J_consP J_cst (J_consP J_cst J_nil))) J_nil)) (J_consP (J_tupP (J_consP (J_tupP (J_consP J_cst (J_consP (J_fz (fun _ _ h => h) (J_op2P (L2 := ([] : List Nat)) ov_w (JO_d (J_fz (fun _ _ => vs_vw) (J_op2P (L2 := ([] : List Nat)) ov_s (JO_d J_cst) (JO_d J_cst) (fun _ h => nomatch h) (fun _ h => nomatch h)))) (JO_d J_cst) (fun _ h => nomatch h) (fun _ h => nomatch h))) J_nil))) J_nil)) (J_consP (J_tupP (J_consP (J_tupP (J_consP J_cst (J_consP J_cst J_nil))) J_nil)) (J_consP (J_tupP (J_consP (J_tupP (J_consP J_cst (J_consP J_cst J_nil))) J_nil)) (J_consP (J_tupP (J_consP (J_tupP (J_consP J_cst (J_consP J_cst (J_consP J_cst J_nil)))) J_nil)) (J_consP (J_tupP (J_consP (J_fz (fun _ _ => vl_vw) (J_lstP (J_consP J_cst (J_consP J_cst J_nil)))) J_nil)) (J_consP (J_tupP (J_consP (J_tupP (J_consP J_cst (J_consP J_cst J_nil))) J_nil)) (J_consP (J_tupP (J_consP (J_tupP (J_consP J_cst (J_consP J_cst J_nil))) J_nil)) (J_consP (J_tupP (J_consP (J_tupP (J_consP J_cst (J_consP J_cst J_nil))) (J_consP (J_tupP (J_consP J_cst (J_consP J_cst J_nil))) J_nil))) (J_consP (J_tupP (J_consP (J_tupP (J_consP J_cst (J_consP J_cst J_nil))) (J_consP (J_tupP (J_consP J_cst (J_consP J_cst J_nil))) J_nil))) (J_consP (J_tupP (J_consP (J_tupP (J_consP J_cst (J_consP J_cst J_nil))) (J_consP (J_tupP (J_consP J_cst (J_consP J_cst J_nil))) J_nil))) (J_consP (J_fz (fun _ _ => vs_vw) (J_op1P ov_s (JO_d (J_fz (fun _ _ => vl_vw) (J_compP (vs := [2]) (J_seqP J_cst) rfl (fun x_2 => J_stepN (i := 2) rfl (by decide) (J2_tail1P rfl rfl (by decide) (J_tupP (J_consP (J_fz (fun _ _ h => h) (J_op2P (L2 := ([] : List Nat)) ov_w (JO_d J_cst) (JO_shd (i := 2) rfl) (fun _ h => nomatch h) (fun _ h => nomatch h))) (J_consP J_cst J_nil)))))))))) (J_consP (J_tupP (J_consP J_cst (J_consP J_cst J_nil))) (J_consP J_cst (J_consP J_cst J_nil)))))))))))))))))))) v_ownl rfl fun wrong_3 => (RS_asgP (i := 3) (L := ([] : List Nat)) (J_op1P ov_s (JO_d (J_fz (fun _ _ => vl_vw) (J_compP (vs := [2]) (J_seqP J_cst) rfl (fun x_4 => J_stepN (i := 2) rfl (by decide) (J2_tail1P rfl rfl (by decide) (J_tupP (J_consP (J_fz (fun _ _ h => h) (J_op2P (L2 := ([] : List Nat)) ov_w (JO_d J_cst) (JO_shd (i := 2) rfl) (fun _ h => nomatch h) (fun _ h => nomatch h))) (J_consP (J_fz (fun _ _ => vs_vw) (J_op2P (L2 := ([] : List Nat)) ov_s (JO_d J_cst) (JO_d J_cst) (fun _ h => nomatch h) (fun _ h => nomatch h))) J_nil))))))))) v_shd rfl fun eight_5 => (RS_sub (.cons s_rf (.cons s_lv (.cons s_rf (.cons s_rf (.cons s_rf .nil))))) (RS_ret0 (L := ([] : List Nat)) (J_shV (J_vandP (J_fz (fun _ _ => vs_vw) (J_op2P (L2 := ([] : List Nat)) ov_s (JO_d (J_fz (fun _ _ => vs_vw) (J_callP q_is_vector (J_consP (J_shd (i := 0) rfl) J_nil)))) (JO_d J_cst) (fun _ h => nomatch h) (fun _ h => nomatch h))) (J_vandP (J_fz (fun _ _ => vs_vw) (J_op2P (L2 := ([] : List Nat)) ov_s (JO_d (J_fz (fun _ _ => vs_vw) (J_callP q_is_vector (J_consP (J_tupP J_nil) J_nil)))) (JO_d J_cst) (fun _ h => nomatch h) (fun _ h => nomatch h))) (J_vandP (J_fz (fun _ _ => vs_vw) (J_op2P (L2 := ([] : List Nat)) ov_s (JO_d (J_fz (fun _ _ => vs_vw) (J_callP q_is_vector (J_consP (J_shd (i := 3) rfl) J_nil)))) (JO_d J_cst) (fun _ h => nomatch h) (fun _ h => nomatch h))) (J_fz (fun _ _ => vs_vw) (J_op2P (L2 := ([] : List Nat)) ov_s (JO_d (J_fz (fun _ _ => vl_vw) (J_compP (vs := [4]) (J_seqP (J_val (i := 1) rfl)) rfl (fun x_6 => J_stepN (i := 4) rfl (by decide) (J2_tailP rfl rfl (by decide) (J_tstP (J_fz (fun _ _ => vs_vw) (J_op2P (L2 := ([] : List Nat)) ov_s (JO_d (J_fz (fun _ _ => vs_vw) (J_callP q_is_vector (J_consP (J_shd (i := 4) rfl) J_nil)))) (JO_d J_cst) (fun _ h => nomatch h) (fun _ h => nomatch h)))) (J_shd (i := 4) rfl)))))) (JO_d (J_fz (fun _ _ => vl_vw) (J_lstP J_nil))) (fun _ h => nomatch h) (fun _ h => nomatch h))))))) (fun r x en hv he => pf_rt r x en hv he))))))
def P_law (script_1 : PyData) : Dm PyData :=
 (bD (bD (PQ (aconsP (PR.ok script_1) (PR.ok []))) fun ds => nD (A__law_open ds)) fun u_2 =>  (bD (bD (PQ (aconsP (PR.ok (.int 8)) (PR.ok []))) fun ds => nD (A__law_vector ds)) fun one_3 =>  (bD (b2 (bD (aconsD (bD (PQ (aconsP (PR.ok (.int 8)) (PR.ok []))) fun ds => nD (A__law_vector ds)) (aconsD (PQ (PR.ok one_3)) (aconsD (bD (aconsD (PQ (PR.ok one_3)) (aconsD (bD (PQ (aconsP (PR.ok (.int 3)) (PR.ok []))) fun ds => nD (A__law_vector ds)) (PQ (PR.ok [])))) fun ds => nD (PQ (A__law_join ds))) (PQ (aconsP ((PR.ok []).bind tupF) (PR.ok [])))))) fun ds => PQ (lstF ds)) (bD (PQ (aconsP (PR.ok (.int 4)) (PR.ok []))) fun ds => nD (A__law_draw ds)) fun a b => outS (oIx a b)) fun other_4 =>  (bD (bD (PQ (aconsP (PR.ok (.int 5)) (PR.ok []))) fun ds => nD (A__law_vector ds)) fun third_5 =>  (ifD (PQ (notP (tstP ((aconsP (PR.ok one_3) (PR.ok [])).bind fun ds => (A__law_wrong ds).noe))))  (PQ (PR.ok (.bool false)))  (bD (PQ (((aconsP ((aconsP (PR.ok one_3) (aconsP (PR.ok other_4) (PR.ok []))).bind tupF) (aconsP ((aconsP (PR.ok other_4) (aconsP (PR.ok one_3) (PR.ok []))).bind tupF) (aconsP ((aconsP (PR.ok one_3) (aconsP (PR.ok one_3) (PR.ok []))).bind tupF) (aconsP ((aconsP (PR.ok third_5) (aconsP (PR.ok one_3) (PR.ok []))).bind tupF) (PR.ok []))))).bind lstF).bind seqF)) fun l_41 => (bD (loopD (fun d_7 (s_6 : Unit) => (bD (PQ (unF 2 d_7)) fun q_42 => match q_42 with | [first_8, second_9] => (PQ (((aconsP (PR.ok first_8) (aconsP (PR.ok second_9) (PR.ok []))).bind fun ds => (A_join ds).noe).bind fun told_10 =>  (((aconsP (PR.ok first_8) (aconsP (PR.ok second_9) (PR.ok []))).bind fun ds => (A__law_join ds).noe).bind fun due_11 =>  (ifP (orP (tstP (o2 ((aconsP (PR.ok told_10) (PR.ok [])).bind fun ds => (A_is_vector ds).noe) (PR.ok (.bool true)) fun a b => outS ((oIs true) a b))) (orP (tstP (o2 (PR.ok told_10) (PR.ok due_11) fun a b => outS (oNe a b))) (notP (tstP ((aconsP ((aconsP (PR.ok first_8) (aconsP (PR.ok second_9) (PR.ok []))).bind fun ds => (A_at_most ds).noe) (aconsP ((aconsP (PR.ok first_8) (aconsP (PR.ok second_9) (PR.ok []))).bind fun ds => (A__law_at_most ds).noe) (PR.ok []))).bind fun ds => (A__law_same ds).noe)))))  ((PR.ok (.bool false)).bind fun r => PR.ok (LR.rt r))  ((PR.ok (.str "beside")).bind fun word_12 =>  (PR.bind (ifP (tstP (o2 (PR.ok first_8) (PR.ok second_9) fun a b => outS (oEq a b)))  ((PR.ok (.str "same")).bind fun word_23 =>  (PR.ok word_23))  (PR.bind (ifP (tstP ((aconsP (PR.ok first_8) (aconsP (PR.ok second_9) (PR.ok []))).bind fun ds => (A__law_at_most ds).noe))  ((PR.ok (.str "older")).bind fun word_28 =>  (PR.ok word_28))  (PR.bind (ifP (tstP ((aconsP (PR.ok second_9) (aconsP (PR.ok first_8) (PR.ok []))).bind fun ds => (A__law_at_most ds).noe))  ((PR.ok (.str "newer")).bind fun word_30 =>  (PR.ok word_30))  (PR.ok word_12)) fun (j_31 : PyData) =>  (PR.ok j_31))) fun (j_32 : PyData) =>  (PR.ok j_32))) fun (j_33 : PyData) =>  (ifP (orP (tstP (o2 ((aconsP (PR.ok first_8) (aconsP (PR.ok second_9) (PR.ok []))).bind fun ds => (A_compare ds).noe) (PR.ok j_33) fun a b => outS (oNe a b))) (orP (tstP (o2 ((aconsP (PR.ok first_8) (aconsP (PR.ok told_10) (PR.ok []))).bind fun ds => (A_at_most ds).noe) (PR.ok (.bool true)) fun a b => outS ((oIs true) a b))) (orP (tstP (o2 ((aconsP (PR.ok second_9) (aconsP (PR.ok told_10) (PR.ok []))).bind fun ds => (A_at_most ds).noe) (PR.ok (.bool true)) fun a b => outS ((oIs true) a b))) (tstP (o2 ((aconsP (PR.ok told_10) (aconsP (PR.ok second_9) (PR.ok []))).bind fun ds => (A_join ds).noe) (PR.ok told_10) fun a b => outS (oNe a b))))))  ((PR.ok (.bool false)).bind fun r => PR.ok (LR.rt r))  (PR.ok (LR.nx ()))))))))) | _ => PQ PR.bad)) l_41 ()) (aftD (fun (s_34 : Unit) => (ifD (PQ (orP (tstP (o2 ((aconsP ((aconsP (PR.ok one_3) (aconsP (PR.ok other_4) (PR.ok []))).bind fun ds => (A_join ds).noe) (aconsP (PR.ok third_5) (PR.ok []))).bind fun ds => (A_join ds).noe) ((aconsP (PR.ok one_3) (aconsP ((aconsP (PR.ok other_4) (aconsP (PR.ok third_5) (PR.ok []))).bind fun ds => (A_join ds).noe) (PR.ok []))).bind fun ds => (A_join ds).noe) fun a b => outS (oNe a b))) (tstP (o2 ((aconsP (PR.ok one_3) (aconsP (PR.ok other_4) (PR.ok []))).bind fun ds => (A_join ds).noe) ((aconsP (PR.ok other_4) (aconsP (PR.ok one_3) (PR.ok []))).bind fun ds => (A_join ds).noe) fun a b => outS (oNe a b)))))  (PQ (PR.ok (.bool false)))  (bD (PQ ((aconsP ((aconsP (PR.ok one_3) (aconsP (PR.ok other_4) (PR.ok []))).bind fun ds => (A__law_join ds).noe) (aconsP (PR.ok third_5) (PR.ok []))).bind fun ds => (A__law_join ds).noe)) fun above_35 =>  (ifD (PQ (tstP (o2 ((aconsP ((aconsP (PR.ok one_3) (aconsP (PR.ok other_4) (PR.ok []))).bind fun ds => (A_join ds).noe) (aconsP (PR.ok above_35) (PR.ok []))).bind fun ds => (A_at_most ds).noe) (PR.ok (.bool true)) fun a b => outS ((oIs true) a b))))  (PQ (PR.ok (.bool false)))  (bD (b2 (PQ ((aconsP (PR.ok (.str "a")) (aconsP (PR.ok (.str "c")) (aconsP (PR.ok (.str "h")) (aconsP (PR.ok (.str "zed")) (PR.ok []))))).bind lstF)) (bD (PQ (aconsP (PR.ok (.int 4)) (PR.ok []))) fun ds => nD (A__law_draw ds)) fun a b => outS (oIx a b)) fun node_36 =>  (bD (b2 (PQ (PR.ok (.int 1))) (bD (PQ (aconsP (PR.ok (.int 9)) (PR.ok []))) fun ds => nD (A__law_draw ds)) fun a b => outR (oAdd a b)) fun more_37 =>  (PQ (ifP (andP (tstP (o2 ((aconsP (PR.ok one_3) (aconsP (PR.ok node_36) (PR.ok []))).bind fun ds => (A__law_number ds).noe) (o2 (o2 (PR.ok (.int 10)) (PR.ok (.int 9)) fun a b => outS (oPow a b)) (PR.ok (.int 10)) fun a b => outS (oSub a b)) fun a b => outS (oLt a b))) (tstP (o2 (o1 (PR.ok one_3) fun a => outS (oLen a)) (PR.ok (.int 8)) fun a b => outS (oLt a b))))  (((aconsP (PR.ok one_3) (aconsP (PR.ok node_36) (aconsP (PR.ok more_37) (PR.ok [])))).bind fun ds => (A_raised ds).noe).bind fun told_38 =>  ((o1 (o1 (o2 (mcompP ((PR.ok one_3).bind seqF) (fun x_39 => (stP (tstP (o2 (o2 (PR.ok x_39) (PR.ok (.int 0)) fun a b => outS (oIx a b)) (PR.ok node_36) fun a b => outS (oNe a b))) (PR.ok x_39)))) ((aconsP ((aconsP (PR.ok node_36) (aconsP (o2 ((aconsP (PR.ok one_3) (aconsP (PR.ok node_36) (PR.ok []))).bind fun ds => (A__law_number ds).noe) (PR.ok more_37) fun a b => outR (oAdd a b)) (PR.ok []))).bind tupF) (PR.ok [])).bind lstF) fun a b => outR (oAdd a b)) fun a => outL (oSorted a)) fun a => outS (oTuple a)).bind fun due_40 =>  (ifP (orP (tstP (o2 (PR.ok told_38) (PR.ok due_40) fun a b => outS (oNe a b))) (orP (tstP (o2 ((aconsP (PR.ok told_38) (PR.ok [])).bind fun ds => (A_is_vector ds).noe) (PR.ok (.bool true)) fun a b => outS ((oIs true) a b))) (tstP (o2 ((aconsP (PR.ok told_38) (aconsP (PR.ok node_36) (PR.ok []))).bind fun ds => (A_number_of ds).noe) (o2 ((aconsP (PR.ok one_3) (aconsP (PR.ok node_36) (PR.ok []))).bind fun ds => (A__law_number ds).noe) (PR.ok more_37) fun a b => outR (oAdd a b)) fun a b => outS (oNe a b)))))  (PR.ok (.bool false))  (vandP ((aconsP ((aconsP (PR.ok one_3) (aconsP (PR.ok node_36) (PR.ok []))).bind fun ds => (A_number_of ds).noe) (PR.ok [])).bind fun ds => (A__law_int ds).noe) (o2 ((aconsP (PR.ok one_3) (aconsP (PR.ok node_36) (PR.ok []))).bind fun ds => (A_number_of ds).noe) ((aconsP (PR.ok one_3) (aconsP (PR.ok node_36) (PR.ok []))).bind fun ds => (A__law_number ds).noe) fun a b => outS (oEq a b))))))  (vandP ((aconsP ((aconsP (PR.ok one_3) (aconsP (PR.ok node_36) (PR.ok []))).bind fun ds => (A_number_of ds).noe) (PR.ok [])).bind fun ds => (A__law_int ds).noe) (o2 ((aconsP (PR.ok one_3) (aconsP (PR.ok node_36) (PR.ok []))).bind fun ds => (A_number_of ds).noe) ((aconsP (PR.ok one_3) (aconsP (PR.ok node_36) (PR.ok []))).bind fun ds => (A__law_number ds).noe) fun a b => outS (oEq a b))))))))))) (fun r => r)))))))))
def A_law : List PyData → Dm PyData
  | [script_1] => P_law script_1
  | _ => PQ .bad
theorem q_law : FnD VS 1 F_law A_law := fnD_of (n := 14) (m := m_law) (fun ds Qd h => (match ds, h with | [_], _ => rfl | [], h => h.elim | _ :: _ :: _, h => h.elim)) fun ds hl => match ds, hl with | [script_1], _ => (show RS [(.shd script_1), .pl, .pl, .pl, .pl, .pl, .pl, .pl, .pl, .pl, .pl, .pl, .pl, .pl] m_law (P_law script_1) (PF VS) from
 (RS_asg (i := 1) (L := ([] : List Nat)) (J_callW q__law_open (J_consP (J_shd (i := 0) rfl) J_nil)) v_owv rfl fun u_2 => (RS_asg (i := 2) (L := ([1] : List Nat)) (J_callI q__law_vector (i := 1) rfl (.inr rfl) (by decide) (J_consP J_cst J_nil)) v_shd rfl fun one_3 => (RS_asg (i := 3) (L := ([1] : List Nat)) (J_opv2 ov_s vl_d (J_lst (J_cons (J_fz (fun _ _ => vs_vw) (J_callI q__law_vector (i := 1) rfl (.inr rfl) (by decide) (J_consP J_cst J_nil))) (J_cons (J_shd (i := 2) rfl) (J_cons (J_fz (fun _ _ => vs_vw) (J_call q__law_join (J_cons (J_shd (i := 2) rfl) (J_cons (J_fz (fun _ _ => vs_vw) (J_callI q__law_vector (i := 1) rfl (.inr rfl) (by decide) (J_consP J_cst J_nil))) J_nil)))) (J_consP (J_tupP J_nil) J_nil))))) (JO_d (J_fz (fun _ _ => vs_vw) (J_callI q__law_draw (i := 1) rfl (.inr rfl) (by decide) (J_consP J_cst J_nil))))) v_shd rfl fun other_4 => (RS_asg (i := 4) (L := ([1] : List Nat)) (J_callI q__law_vector (i := 1) rfl (.inr rfl) (by decide) (J_consP J_cst J_nil)) v_shd rfl fun third_5 => (RS_if (L := ([] : List Nat)) (J_notP (J_tstP (J_fz (fun _ _ => vs_vw) (J_callP q__law_wrong (J_consP (J_shd (i := 2) rfl) J_nil)))))  (RS_eq (mseq_mret _ _) (RS_ret0 (L := ([] : List Nat)) (J_shV J_cst) (fun r x en hv he => pf_rt r x en hv he)))  (RS_eq (mseq_nx _) (RS_forLT (is := [5, 6]) (PF := (PF VS)) (inj := (fun r => r)) (L := ([] : List Nat)) (Gs := (fun (s_6 : Unit) => [(.shd script_1), (.owv DS), (.shd one_3), (.shd other_4), (.shd third_5), .pl, .pl, .pl, .pl, .pl, .pl, .pl, .pl, .pl])) () (J_seqP (J_fz (fun _ _ => vl_vw) (J_lstP (J_consP (J_tupP (J_consP (J_shd (i := 2) rfl) (J_consP (J_shd (i := 3) rfl) J_nil))) (J_consP (J_tupP (J_consP (J_shd (i := 3) rfl) (J_consP (J_shd (i := 2) rfl) J_nil))) (J_consP (J_tupP (J_consP (J_shd (i := 2) rfl) (J_consP (J_shd (i := 2) rfl) J_nil))) (J_consP (J_tupP (J_consP (J_shd (i := 4) rfl) (J_consP (J_shd (i := 2) rfl) J_nil))) J_nil))))))) (.cons s_rf (.cons s_rf (.cons s_rf (.cons s_rf (.cons s_rf (.cons s_rf (.cons s_rf (.cons s_rf (.cons s_rf (.cons s_rf (.cons s_rf (.cons s_rf (.cons s_rf (.cons s_rf .nil)))))))))))))) (fun _ => rfl) rfl (fun d_7 s_6 ds hl => match ds, hl with | [first_8, second_9], _ => (RS_asgP (i := 7) (L := ([] : List Nat)) (J_callP q_join (J_consP (J_shd (i := 5) rfl) (J_consP (J_shd (i := 6) rfl) J_nil))) v_shd rfl fun told_10 => (RS_asgP (i := 8) (L := ([] : List Nat)) (J_callP q__law_join (J_consP (J_shd (i := 5) rfl) (J_consP (J_shd (i := 6) rfl) J_nil))) v_shd rfl fun due_11 => (RS_ifP (L := ([] : List Nat)) (J_orP (J_tstP (J_fz (fun _ _ => vs_vw) (J_op2P (L2 := ([] : List Nat)) ov_s (JO_d (J_fz (fun _ _ => vs_vw) (J_callP q_is_vector (J_consP (J_shd (i := 7) rfl) J_nil)))) (JO_d J_cst) (fun _ h => nomatch h) (fun _ h => nomatch h)))) (J_orP (J_tstP (J_fz (fun _ _ => vs_vw) (J_op2P (L2 := ([] : List Nat)) ov_s (JO_shd (i := 7) rfl) (JO_shd (i := 8) rfl) (fun _ h => nomatch h) (fun _ h => nomatch h)))) (J_notP (J_tstP (J_fz (fun _ _ => vs_vw) (J_callP q__law_same (J_consP (J_fz (fun _ _ => vs_vw) (J_callP q_at_most (J_consP (J_shd (i := 5) rfl) (J_consP (J_shd (i := 6) rfl) J_nil)))) (J_consP (J_fz (fun _ _ => vs_vw) (J_callP q__law_at_most (J_consP (J_shd (i := 5) rfl) (J_consP (J_shd (i := 6) rfl) J_nil)))) J_nil))))))))  (RS_eq (mseq_mret _ _) (RS_retP (L := ([] : List Nat)) (inj := LR.rt) (J_shV J_cst) (fun r x en hv he => ⟨⟨_, rfl⟩, pf_rt r x en hv he⟩)))  (RS_eq (mseq_nx _) (RS_asgP (i := 9) (L := ([] : List Nat)) (J_shV J_cst) v_shd rfl fun word_12 => (RS_bindP (Gs := (fun (j_33 : PyData) => [(.shd script_1), (.owv DS), (.shd one_3), (.shd other_4), (.shd third_5), (.shd first_8), (.shd second_9), (.shd told_10), (.shd due_11), (.shd j_33), .pl, .pl, .pl, .pl])) (RS_end (RS_ifP (L := ([] : List Nat)) (J_tstP (J_fz (fun _ _ => vs_vw) (J_op2P (L2 := ([] : List Nat)) ov_s (JO_shd (i := 5) rfl) (JO_shd (i := 6) rfl) (fun _ h => nomatch h) (fun _ h => nomatch h))))  (RS_asgP (i := 9) (L := ([] : List Nat)) (J_shV J_cst) v_shd rfl fun word_23 => (RS_nx fun en he => ⟨rfl, er_sub (.cons s_rf (.cons s_rf (.cons s_rf (.cons s_rf (.cons s_rf (.cons s_rf (.cons s_rf (.cons s_rf (.cons s_rf (.cons s_rf (.cons s_rf (.cons s_rf (.cons s_rf (.cons s_rf .nil)))))))))))))) he⟩))  (RS_bindP (Gs := (fun (j_32 : PyData) => [(.shd script_1), (.owv DS), (.shd one_3), (.shd other_4), (.shd third_5), (.shd first_8), (.shd second_9), (.shd told_10), (.shd due_11), (.shd j_32), .pl, .pl, .pl, .pl])) (RS_end (RS_ifP (L := ([] : List Nat)) (J_tstP (J_fz (fun _ _ => vs_vw) (J_callP q__law_at_most (J_consP (J_shd (i := 5) rfl) (J_consP (J_shd (i := 6) rfl) J_nil)))))  (RS_asgP (i := 9) (L := ([] : List Nat)) (J_shV J_cst) v_shd rfl fun word_28 => (RS_nx fun en he => ⟨rfl, er_sub (.cons s_rf (.cons s_rf (.cons s_rf (.cons s_rf (.cons s_rf (.cons s_rf (.cons s_rf (.cons s_rf (.cons s_rf (.cons s_rf (.cons s_rf (.cons s_rf (.cons s_rf (.cons s_rf .nil)))))))))))))) he⟩))  (RS_bindP (Gs := (fun (j_31 : PyData) => [(.shd script_1), (.owv DS), (.shd one_3), (.shd other_4), (.shd third_5), (.shd first_8), (.shd second_9), (.shd told_10), (.shd due_11), (.shd j_31), .pl, .pl, .pl, .pl])) (RS_end (RS_ifP (L := ([] : List Nat)) (J_tstP (J_fz (fun _ _ => vs_vw) (J_callP q__law_at_most (J_consP (J_shd (i := 6) rfl) (J_consP (J_shd (i := 5) rfl) J_nil)))))  (RS_asgP (i := 9) (L := ([] : List Nat)) (J_shV J_cst) v_shd rfl fun word_30 => (RS_nx fun en he => ⟨rfl, er_sub (.cons s_rf (.cons s_rf (.cons s_rf (.cons s_rf (.cons s_rf (.cons s_rf (.cons s_rf (.cons s_rf (.cons s_rf (.cons s_rf (.cons s_rf (.cons s_rf (.cons s_rf (.cons s_rf .nil)))))))))))))) he⟩))  (RS_eq (mseq_nx _) (RS_nx fun en he => ⟨rfl, er_sub (.cons s_rf (.cons s_rf (.cons s_rf (.cons s_rf (.cons s_rf (.cons s_rf (.cons s_rf (.cons s_rf (.cons s_rf (.cons s_rf (.cons s_rf (.cons s_rf (.cons s_rf (.cons s_rf .nil)))))))))))))) he⟩)))) fun j_31 => (RS_nx fun en he => ⟨rfl, er_sub (.cons s_rf (.cons s_rf (.cons s_rf (.cons s_rf (.cons s_rf (.cons s_rf (.cons s_rf (.cons s_rf (.cons s_rf (.cons s_rf (.cons s_rf (.cons s_rf (.cons s_rf (.cons s_rf .nil)))))))))))))) he⟩)))) fun j_32 => (RS_nx fun en he => ⟨rfl, er_sub (.cons s_rf (.cons s_rf (.cons s_rf (.cons s_rf (.cons s_rf (.cons s_rf (.cons s_rf (.cons s_rf (.cons s_rf (.cons s_rf (.cons s_rf (.cons s_rf (.cons s_rf (.cons s_rf .nil)))))))))))))) he⟩)))) fun j_33 => (RS_end (RS_ifP (L := ([] : List Nat)) (J_orP (J_tstP (J_fz (fun _ _ => vs_vw) (J_op2P (L2 := ([] : List Nat)) ov_s (JO_d (J_fz (fun _ _ => vs_vw) (J_callP q_compare (J_consP (J_shd (i := 5) rfl) (J_consP (J_shd (i := 6) rfl) J_nil))))) (JO_shd (i := 9) rfl) (fun _ h => nomatch h) (fun _ h => nomatch h)))) (J_orP (J_tstP (J_fz (fun _ _ => vs_vw) (J_op2P (L2 := ([] : List Nat)) ov_s (JO_d (J_fz (fun _ _ => vs_vw) (J_callP q_at_most (J_consP (J_shd (i := 5) rfl) (J_consP (J_shd (i := 7) rfl) J_nil))))) (JO_d J_cst) (fun _ h => nomatch h) (fun _ h => nomatch h)))) (J_orP (J_tstP (J_fz (fun _ _ => vs_vw) (J_op2P (L2 := ([] : List Nat)) ov_s (JO_d (J_fz (fun _ _ => vs_vw) (J_callP q_at_most (J_consP (J_shd (i := 6) rfl) (J_consP (J_shd (i := 7) rfl) J_nil))))) (JO_d J_cst) (fun _ h => nomatch h) (fun _ h => nomatch h)))) (J_tstP (J_fz (fun _ _ => vs_vw) (J_op2P (L2 := ([] : List Nat)) ov_s (JO_d (J_fz (fun _ _ => vs_vw) (J_callP q_join (J_consP (J_shd (i := 7) rfl) (J_consP (J_shd (i := 6) rfl) J_nil))))) (JO_shd (i := 7) rfl) (fun _ h => nomatch h) (fun _ h => nomatch h)))))))  (RS_eq (mseq_mret _ _) (RS_retP (L := ([] : List Nat)) (inj := LR.rt) (J_shV J_cst) (fun r x en hv he => ⟨⟨_, rfl⟩, pf_rt r x en hv he⟩)))  (RS_eq (mseq_nx _) (RS_nx fun en he => ⟨.inl rfl, er_sub (.cons s_rf (.cons s_rf (.cons s_rf (.cons s_rf (.cons s_rf (.cons s_hp (.cons s_hp (.cons s_hp (.cons s_hp (.cons s_hp (.cons s_rf (.cons s_rf (.cons s_rf (.cons s_rf .nil)))))))))))))) he⟩))))))))))) (fun s_34 => (RS_if (L := ([] : List Nat)) (J_orP (J_tstP (J_fz (fun _ _ => vs_vw) (J_op2P (L2 := ([] : List Nat)) ov_s (JO_d (J_fz (fun _ _ => vs_vw) (J_callP q_join (J_consP (J_fz (fun _ _ => vs_vw) (J_callP q_join (J_consP (J_shd (i := 2) rfl) (J_consP (J_shd (i := 3) rfl) J_nil)))) (J_consP (J_shd (i := 4) rfl) J_nil))))) (JO_d (J_fz (fun _ _ => vs_vw) (J_callP q_join (J_consP (J_shd (i := 2) rfl) (J_consP (J_fz (fun _ _ => vs_vw) (J_callP q_join (J_consP (J_shd (i := 3) rfl) (J_consP (J_shd (i := 4) rfl) J_nil)))) J_nil))))) (fun _ h => nomatch h) (fun _ h => nomatch h)))) (J_tstP (J_fz (fun _ _ => vs_vw) (J_op2P (L2 := ([] : List Nat)) ov_s (JO_d (J_fz (fun _ _ => vs_vw) (J_callP q_join (J_consP (J_shd (i := 2) rfl) (J_consP (J_shd (i := 3) rfl) J_nil))))) (JO_d (J_fz (fun _ _ => vs_vw) (J_callP q_join (J_consP (J_shd (i := 3) rfl) (J_consP (J_shd (i := 2) rfl) J_nil))))) (fun _ h => nomatch h) (fun _ h => nomatch h)))))  (RS_eq (mseq_mret _ _) (RS_ret0 (L := ([] : List Nat)) (J_shV J_cst) (fun r x en hv he => pf_rt r x en hv he)))  (RS_eq (mseq_nx _) (RS_asg (i := 10) (L := ([] : List Nat)) (J_callP q__law_join (J_consP (J_fz (fun _ _ => vs_vw) (J_callP q__law_join (J_consP (J_shd (i := 2) rfl) (J_consP (J_shd (i := 3) rfl) J_nil)))) (J_consP (J_shd (i := 4) rfl) J_nil))) v_shd rfl fun above_35 => (RS_if (L := ([] : List Nat)) (J_tstP (J_fz (fun _ _ => vs_vw) (J_op2P (L2 := ([] : List Nat)) ov_s (JO_d (J_fz (fun _ _ => vs_vw) (J_callP q_at_most (J_consP (J_fz (fun _ _ => vs_vw) (J_callP q_join (J_consP (J_shd (i := 2) rfl) (J_consP (J_shd (i := 3) rfl) J_nil)))) (J_consP (J_shd (i := 10) rfl) J_nil))))) (JO_d J_cst) (fun _ h => nomatch h) (fun _ h => nomatch h))))  (RS_eq (mseq_mret _ _) (RS_ret0 (L := ([] : List Nat)) (J_shV J_cst) (fun r x en hv he => pf_rt r x en hv he)))  (RS_eq (mseq_nx _) (RS_asg (i := 11) (L := ([1] : List Nat)) (J_opv2 ov_s vl_d (J_lstP (J_consP J_cst (J_consP J_cst (J_consP J_cst (J_consP J_cst J_nil))))) (JO_d (J_fz (fun _ _ => vs_vw) (J_callI q__law_draw (i := 1) rfl (.inr rfl) (by decide) (J_consP J_cst J_nil))))) v_shd rfl fun node_36 => (RS_asg (i := 12) (L := ([1] : List Nat)) (J_op2 (L2 := ([1] : List Nat)) ov_w (JO_d J_cst) (JO_d (J_fz (fun _ _ => vs_vw) (J_callI q__law_draw (i := 1) rfl (.inr rfl) (by decide) (J_consP J_cst J_nil)))) (by decide) (by decide)) v_val rfl fun more_37 => (RS_ifP (L := ([] : List Nat)) (J_andP (J_tstP (J_fz (fun _ _ => vs_vw) (J_op2P (L2 := ([] : List Nat)) ov_s (JO_d (J_fz (fun _ _ h => h) (J_callP q__law_number (J_consP (J_shd (i := 2) rfl) (J_consP (J_shd (i := 11) rfl) J_nil))))) (JO_d (J_fz (fun _ _ => vs_vw) (J_op2P (L2 := ([] : List Nat)) ov_s (JO_d (J_fz (fun _ _ => vs_vw) (J_op2P (L2 := ([] : List Nat)) ov_s (JO_d J_cst) (JO_d J_cst) (fun _ h => nomatch h) (fun _ h => nomatch h)))) (JO_d J_cst) (fun _ h => nomatch h) (fun _ h => nomatch h)))) (fun _ h => nomatch h) (fun _ h => nomatch h)))) (J_tstP (J_fz (fun _ _ => vs_vw) (J_op2P (L2 := ([] : List Nat)) ov_s (JO_d (J_fz (fun _ _ => vs_vw) (J_op1P ov_s (JO_shd (i := 2) rfl)))) (JO_d J_cst) (fun _ h => nomatch h) (fun _ h => nomatch h)))))  (RS_as (RS_asgP (i := 7) (L := ([] : List Nat)) (J_callP q_raised (J_consP (J_shd (i := 2) rfl) (J_consP (J_shd (i := 11) rfl) (J_consP (J_val (i := 12) rfl) J_nil)))) v_shd rfl fun told_38 => (RS_as (RS_asgP (i := 8) (L := ([] : List Nat)) (J_op1P ov_s (JO_d (J_fz (fun _ _ => vl_vw) (J_op1P ov_l (JO_d (J_fz (fun _ _ h => h) (J_op2P (L2 := ([] : List Nat)) ov_w (JO_d (J_fz (fun _ _ => vl_vw) (J_compP (vs := [13]) (J_seqP (J_shd (i := 2) rfl)) rfl (fun x_39 => J_stepN (i := 13) rfl (by decide) (J2_tailP rfl rfl (by decide) (J_tstP (J_fz (fun _ _ => vs_vw) (J_op2P (L2 := ([] : List Nat)) ov_s (JO_d (J_fz (fun _ _ => vs_vw) (J_op2P (L2 := ([] : List Nat)) ov_s (JO_shd (i := 13) rfl) (JO_d J_cst) (fun _ h => nomatch h) (fun _ h => nomatch h)))) (JO_shd (i := 11) rfl) (fun _ h => nomatch h) (fun _ h => nomatch h)))) (J_shd (i := 13) rfl)))))) (JO_d (J_fz (fun _ _ => vl_vw) (J_lstP (J_consP (J_tupP (J_consP (J_shd (i := 11) rfl) (J_consP (J_fz (fun _ _ h => h) (J_op2P (L2 := ([] : List Nat)) ov_w (JO_d (J_fz (fun _ _ h => h) (J_callP q__law_number (J_consP (J_shd (i := 2) rfl) (J_consP (J_shd (i := 11) rfl) J_nil))))) (JO_val (i := 12) rfl) (fun _ h => nomatch h) (fun _ h => nomatch h))) J_nil))) J_nil)))) (fun _ h => nomatch h) (fun _ h => nomatch h)))))))) v_shd rfl fun due_40 => (RS_ifP (L := ([] : List Nat)) (J_orP (J_tstP (J_fz (fun _ _ => vs_vw) (J_op2P (L2 := ([] : List Nat)) ov_s (JO_shd (i := 7) rfl) (JO_shd (i := 8) rfl) (fun _ h => nomatch h) (fun _ h => nomatch h)))) (J_orP (J_tstP (J_fz (fun _ _ => vs_vw) (J_op2P (L2 := ([] : List Nat)) ov_s (JO_d (J_fz (fun _ _ => vs_vw) (J_callP q_is_vector (J_consP (J_shd (i := 7) rfl) J_nil)))) (JO_d J_cst) (fun _ h => nomatch h) (fun _ h => nomatch h)))) (J_tstP (J_fz (fun _ _ => vs_vw) (J_op2P (L2 := ([] : List Nat)) ov_s (JO_d (J_fz (fun _ _ h => h) (J_callP q_number_of (J_consP (J_shd (i := 7) rfl) (J_consP (J_shd (i := 11) rfl) J_nil))))) (JO_d (J_fz (fun _ _ h => h) (J_op2P (L2 := ([] : List Nat)) ov_w (JO_d (J_fz (fun _ _ h => h) (J_callP q__law_number (J_consP (J_shd (i := 2) rfl) (J_consP (J_shd (i := 11) rfl) J_nil))))) (JO_val (i := 12) rfl) (fun _ h => nomatch h) (fun _ h => nomatch h)))) (fun _ h => nomatch h) (fun _ h => nomatch h))))))  (RS_eq (mseq_mret _ _) (RS_ret0 (L := ([] : List Nat)) (J_shV J_cst) (fun r x en hv he => pf_rt r x en hv he)))  (RS_eq (mseq_nx _) (RS_ret0 (L := ([] : List Nat)) (J_shV (J_vandP (J_fz (fun _ _ => vs_vw) (J_callP q__law_int (J_consP (J_fz (fun _ _ h => h) (J_callP q_number_of (J_consP (J_shd (i := 2) rfl) (J_consP (J_shd (i := 11) rfl) J_nil)))) J_nil))) (J_fz (fun _ _ => vs_vw) (J_op2P (L2 := ([] : List Nat)) ov_s (JO_d (J_fz (fun _ _ h => h) (J_callP q_number_of (J_consP (J_shd (i := 2) rfl) (J_consP (J_shd (i := 11) rfl) J_nil))))) (JO_d (J_fz (fun _ _ h => h) (J_callP q__law_number (J_consP (J_shd (i := 2) rfl) (J_consP (J_shd (i := 11) rfl) J_nil))))) (fun _ h => nomatch h) (fun _ h => nomatch h))))) (fun r x en hv he => pf_rt r x en hv he))))))))  (RS_eq (mseq_nx _) (RS_ret0 (L := ([] : List Nat)) (J_shV (J_vandP (J_fz (fun _ _ => vs_vw) (J_callP q__law_int (J_consP (J_fz (fun _ _ h => h) (J_callP q_number_of (J_consP (J_shd (i := 2) rfl) (J_consP (J_shd (i := 11) rfl) J_nil)))) J_nil))) (J_fz (fun _ _ => vs_vw) (J_op2P (L2 := ([] : List Nat)) ov_s (JO_d (J_fz (fun _ _ h => h) (J_callP q_number_of (J_consP (J_shd (i := 2) rfl) (J_consP (J_shd (i := 11) rfl) J_nil))))) (JO_d (J_fz (fun _ _ h => h) (J_callP q__law_number (J_consP (J_shd (i := 2) rfl) (J_consP (J_shd (i := 11) rfl) J_nil))))) (fun _ h => nomatch h) (fun _ h => nomatch h))))) (fun r x en hv he => pf_rt r x en hv he)))))))))))) (fun r x en h => h)))))))))
end Q57


namespace Q57
open PySem ZD ZP
/-- the names that are drawn -/
def NM : List SS := [ss "a", ss "bob", ss "c", ss "d", ss "e", ss "f", ss "g", ss "h", ss "zed"]
def nmB (_ : SS) : Bool := true
def nmC (s : SS) : Prop := s ∈ NM
theorem v_nm (s : SS) (h : nmC s) : A_is_name [eS s] = .ok (.bool (nmB s)) := by
  unfold nmC NM at h
  simp only [List.mem_cons, List.not_mem_nil, or_false] at h
  rcases h with rfl | rfl | rfl | rfl | rfl | rfl | rfl | rfl | rfl <;> rfl
end Q57


namespace Q57
open PySem ZD ZP
def V_is_number (value_1 : Int) (least_2 : Int) (most_3 : Int) : Bool :=
 (true && ((!false) && (decide (least_2 ≤ value_1) && decide (value_1 ≤ most_3))))
theorem v_is_number (value_1 : Int) (least_2 : Int) (most_3 : Int) : A_is_number [PyData.int value_1, PyData.int least_2, PyData.int most_3] = .ok (PyData.bool (V_is_number value_1 least_2 most_3)) := by
  show P_is_number (PyData.int value_1) (PyData.int least_2) (PyData.int most_3) = _
  unfold P_is_number V_is_number
  exact (vand_of (vTest rfl rfl) (fun h_5 => (vand_of (vnot_of (vTest rfl rfl) rfl) (fun h_4 => (vLeLe rfl rfl rfl)) rfl)) rfl)
def V_is_names (value_1 : (List SS)) (least_2 : Int) (most_3 : Int) : Bool :=
 (if ((!true) || (!(decide (least_2 ≤ (value_1.length : Int)) && decide ((value_1.length : Int) ≤ most_3)))) = true then false else (if (!(value_1.all fun (a_5 : SS) => (nmB a_5))) = true then false else ((ran ((value_1.length : Int) - (1 : Int)).toNat).all fun (a_8 : Int) => (ltS (gI value_1 a_8) (gI value_1 (a_8 + (1 : Int)))))))
def C_is_names (value_1 : (List SS)) (least_2 : Int) (most_3 : Int) : Prop :=
 (((!true) || (!(decide (least_2 ≤ (value_1.length : Int)) && decide ((value_1.length : Int) ≤ most_3)))) = false → ((∀ a_5 : SS, a_5 ∈ value_1 → (nmC a_5)) ∧ ((!(value_1.all fun (a_5 : SS) => (nmB a_5))) = false → ((((value_1.length : Int) - (1 : Int)) ≤ 2000000 ∧ -2000000 ≤ ((value_1.length : Int) - (1 : Int))) ∧ (∀ a_8 : Int, a_8 ∈ (ran ((value_1.length : Int) - (1 : Int)).toNat) → ((IxOk value_1 a_8) ∧ (IxOk value_1 (a_8 + (1 : Int)))))))))
theorem v_is_names (value_1 : (List SS)) (least_2 : Int) (most_3 : Int) (hc : C_is_names value_1 least_2 most_3) : A_is_names [(eT eS) value_1, PyData.int least_2, PyData.int most_3] = .ok (PyData.bool (V_is_names value_1 least_2 most_3)) := by
  show P_is_names ((eT eS) value_1) (PyData.int least_2) (PyData.int most_3) = _
  unfold P_is_names V_is_names
  exact (if_v (w := (fun z => PR.ok (PyData.bool (z)))) (or_of (not_of (tst_of (vTest rfl rfl)) rfl) (fun h_4 => (not_of (tst_of (vLeLe rfl (vLenT rfl) rfl)) rfl)) rfl) (fun h_12 => rfl) (fun h_12 => (if_v (w := (fun z => PR.ok (PyData.bool (z)))) (not_of (tst_of (vAll (e := eS) (g := fun (a_5 : SS) => (nmB a_5)) (vSeqT rfl) (fun a_5 h_7 => st1_of (call_of (acons_of rfl rfl) (v_nm a_5 ((hc h_12).1 a_5 h_7)))))) rfl) (fun h_11 => rfl) (fun h_11 => (vAll (e := PyData.int) (g := fun (a_8 : Int) => (ltS (gI value_1 a_8) (gI value_1 (a_8 + (1 : Int))))) (vRng1 (vSub (vLenT rfl) rfl) ((hc h_12).2 h_11).1) (fun a_8 h_10 => st1_of (vLtS (vIxT (e := eS) rfl rfl (((hc h_12).2 h_11).2 a_8 h_10).1) (vIxT (e := eS) rfl (vAdd rfl rfl) (((hc h_12).2 h_11).2 a_8 h_10).2))))))))
def V_is_vector (value_1 : (List (SS × Int))) : Bool :=
 (if ((!true) || (!(value_1.all fun (a_2 : (SS × Int)) => (true && decide ((2 : Int) = (2 : Int)))))) = true then false else (if (!(V_is_names (value_1.map fun (a_7 : (SS × Int)) => a_7.1) (0 : Int) (8 : Int))) = true then false else (value_1.all fun (a_10 : (SS × Int)) => (V_is_number a_10.2 (1 : Int) (1000000000 : Int)))))
def C_is_vector (value_1 : (List (SS × Int))) : Prop :=
 (((!true) || (!(value_1.all fun (a_2 : (SS × Int)) => (true && decide ((2 : Int) = (2 : Int)))))) = false → ((value_1.length ≤ 2000000) ∧ (C_is_names (value_1.map fun (a_7 : (SS × Int)) => a_7.1) (0 : Int) (8 : Int))))
theorem v_is_vector (value_1 : (List (SS × Int))) (hc : C_is_vector value_1) : A_is_vector [(eT (eP eS PyData.int)) value_1] = .ok (PyData.bool (V_is_vector value_1)) := by
  show P_is_vector ((eT (eP eS PyData.int)) value_1) = _
  unfold P_is_vector V_is_vector
  exact (if_v (w := (fun z => PR.ok (PyData.bool (z)))) (or_of (not_of (tst_of (vTest rfl rfl)) rfl) (fun h_6 => (not_of (tst_of (vAll (e := (eP eS PyData.int)) (g := fun (a_2 : (SS × Int)) => (true && decide ((2 : Int) = (2 : Int)))) (vSeqT rfl) (fun a_2 h_5 => st1_of (vand_of (vTest rfl rfl) (fun h_3 => (vEq enc_int (by decide) (vLenP2 rfl) rfl)) rfl)))) rfl)) rfl) (fun h_14 => rfl) (fun h_14 => (if_v (w := (fun z => PR.ok (PyData.bool (z)))) (not_of (tst_of (call_of (acons_of (vTupL (vMap (e := (eP eS PyData.int)) (f := eS) (g := fun (a_7 : (SS × Int)) => a_7.1) (vSeqT rfl) (hc h_14).1 (fun a_7 h_9 => st1_of (vP0 rfl)))) (acons_of rfl (acons_of rfl rfl))) (v_is_names (value_1.map fun (a_7 : (SS × Int)) => a_7.1) (0 : Int) (8 : Int) (hc h_14).2))) rfl) (fun h_13 => rfl) (fun h_13 => (vAll (e := (eP eS PyData.int)) (g := fun (a_10 : (SS × Int)) => (V_is_number a_10.2 (1 : Int) (1000000000 : Int))) (vSeqT rfl) (fun a_10 h_12 => st1_of (call_of (acons_of (vP1 rfl) (acons_of rfl (acons_of rfl rfl))) (v_is_number a_10.2 (1 : Int) (1000000000 : Int)))))))))
end Q57


namespace Q57
open PySem ZD ZP
/-- what is_vector says of anything -/
def vecB (d : PyData) : Bool := match A_is_vector [d] with
  | .ok (.bool b) => b
  | _ => false
def vecC (d : PyData) : Prop := ∃ b, A_is_vector [d] = .ok (.bool b)
theorem v_vec (d : PyData) (h : vecC d) : A_is_vector [eR d] = .ok (.bool (vecB d)) := by
  obtain ⟨b, e⟩ := h
  unfold vecB
  rw [e]
  exact e
end Q57


namespace Q57
open PySem ZD ZP
def V_number_of (vector_1 : (List (SS × Int))) (node_2 : SS) : Int :=
 ((getL (putsL [] vector_1) node_2).getD (0 : Int))
theorem v_number_of (vector_1 : (List (SS × Int))) (node_2 : SS) : A_number_of [(eT (eP eS PyData.int)) vector_1, eS node_2] = .ok (PyData.int (V_number_of vector_1 node_2)) := by
  show P_number_of ((eT (eP eS PyData.int)) vector_1) (eS node_2) = _
  unfold P_number_of V_number_of
  exact (vGet2 key_ss.g (vDictT (e := eS) (f := PyData.int) key_ss rfl) rfl rfl)
def V_at_most (one_1 : (List (SS × Int))) (other_2 : (List (SS × Int))) : Bool :=
 (one_1.all fun (a_3 : (SS × Int)) => decide (a_3.2 ≤ (V_number_of other_2 a_3.1)))
theorem v_at_most (one_1 : (List (SS × Int))) (other_2 : (List (SS × Int))) : A_at_most [(eT (eP eS PyData.int)) one_1, (eT (eP eS PyData.int)) other_2] = .ok (PyData.bool (V_at_most one_1 other_2)) := by
  show P_at_most ((eT (eP eS PyData.int)) one_1) ((eT (eP eS PyData.int)) other_2) = _
  unfold P_at_most V_at_most
  exact (vAll (e := (eP eS PyData.int)) (g := fun (a_3 : (SS × Int)) => decide (a_3.2 ≤ (V_number_of other_2 a_3.1))) (vSeqT rfl) (fun a_3 h_5 => st1_of (vLe rfl (call_of (acons_of rfl (acons_of rfl rfl)) (v_number_of other_2 a_3.1)))))
def V_join_b1  (s_5 : (List (SS × Int))) (a_6 : (SS × Int)) : (List (SS × Int)) := (let told_7 : (List (SS × Int)) := (putL s_5 a_6.1 (max a_6.2 ((getL s_5 a_6.1).getD (0 : Int)))); told_7)
def C_join_b1  (s_5 : (List (SS × Int))) (a_6 : (SS × Int)) : Prop := (s_5.length < 1000000)
def V_join (one_1 : (List (SS × Int))) (other_2 : (List (SS × Int))) : (List (SS × Int)) :=
 (let told_3 : (List (SS × Int)) := (putsL [] other_2); (let s_11 : (List (SS × Int)) := (List.foldl V_join_b1 told_3 one_1); (sortV (eP eS PyData.int) s_11)))
def C_join (one_1 : (List (SS × Int))) (other_2 : (List (SS × Int))) : Prop :=
 (let told_3 : (List (SS × Int)) := (putsL [] other_2); ((FoldC V_join_b1 C_join_b1 one_1 told_3) ∧ (let s_11 : (List (SS × Int)) := (List.foldl V_join_b1 told_3 one_1); (sortOk (s_11.map (eP eS PyData.int)) = true))))
theorem v_join (one_1 : (List (SS × Int))) (other_2 : (List (SS × Int))) (hc : C_join one_1 other_2) : A_join [(eT (eP eS PyData.int)) one_1, (eT (eP eS PyData.int)) other_2] = .ok ((eT (eP eS PyData.int)) (V_join one_1 other_2)) := by
  show P_join ((eT (eP eS PyData.int)) one_1) ((eT (eP eS PyData.int)) other_2) = _
  unfold P_join V_join
  exact (bind_v (e := (eD eS PyData.int)) (v := (putsL [] other_2)) (r := fun (told_3 : (List (SS × Int))) => PR.ok ((eT (eP eS PyData.int)) ((let s_11 : (List (SS × Int)) := (List.foldl V_join_b1 told_3 one_1); (sortV (eP eS PyData.int) s_11))))) (C := (fun (told_3 : (List (SS × Int))) => ((FoldC V_join_b1 C_join_b1 one_1 told_3) ∧ (let s_11 : (List (SS × Int)) := (List.foldl V_join_b1 told_3 one_1); (sortOk (s_11.map (eP eS PyData.int)) = true))))) (vDictT (e := eS) (f := PyData.int) key_ss rfl) (fun told_3 hc_4 => (bind_eq (vSeqT rfl) (bind_v (e := (fun (z : (List (SS × Int))) => (eD eS PyData.int) z)) (v := (List.foldl V_join_b1 told_3 one_1)) (r := fun (s_11 : (List (SS × Int))) => PR.ok ((eT (eP eS PyData.int)) ((sortV (eP eS PyData.int) s_11)))) (C := (fun (s_11 : (List (SS × Int))) => (sortOk (s_11.map (eP eS PyData.int)) = true))) (fold_v (e := (eP eS PyData.int)) (es := (fun (z : (List (SS × Int))) => (eD eS PyData.int) z)) (g := V_join_b1) (c := C_join_b1) one_1 told_3 (fun s_5 a_6 h_9 hc_10 => show _ = PR.ok ((fun (z : (List (SS × Int))) => (eD eS PyData.int) z) (let told_7 : (List (SS × Int)) := (putL s_5 a_6.1 (max a_6.2 ((getL s_5 a_6.1).getD (0 : Int)))); told_7)) from (bind_eq rfl (bind_eq (vMax2 rfl (vGet2 key_ss.g rfl rfl rfl)) (bind_eq rfl (bind_v (e := (eD eS PyData.int)) (v := (putL s_5 a_6.1 (max a_6.2 ((getL s_5 a_6.1).getD (0 : Int))))) (r := fun (told_7 : (List (SS × Int))) => PR.ok ((fun (z : (List (SS × Int))) => (eD eS PyData.int) z) told_7)) (C := (fun (told_7 : (List (SS × Int))) => True)) (vDst (e := eS) (f := PyData.int) (D := s_5) (i := a_6.1) (v := (max a_6.2 ((getL s_5 a_6.1).getD (0 : Int)))) key_ss.g hc_10) (fun told_7 hc_8 => rfl) trivial))))) hc_4.1) (fun s_11 hc_12 => (vTupL (vItsS (e := eS) (f := PyData.int) key_ss rfl hc_12))) hc_4.2))) hc)
def V_compare (one_1 : (List (SS × Int))) (other_2 : (List (SS × Int))) : SS :=
 (if (V_at_most one_1 other_2) = true then (if decide (one_1 = other_2) = true then (ss "same") else (ss "older")) else (if (V_at_most other_2 one_1) = true then (ss "newer") else (ss "beside")))
theorem v_compare (one_1 : (List (SS × Int))) (other_2 : (List (SS × Int))) : A_compare [(eT (eP eS PyData.int)) one_1, (eT (eP eS PyData.int)) other_2] = .ok (eS (V_compare one_1 other_2)) := by
  show P_compare ((eT (eP eS PyData.int)) one_1) ((eT (eP eS PyData.int)) other_2) = _
  unfold P_compare V_compare
  exact (if_v (w := (fun z => PR.ok (eS (z)))) (tst_of (call_of (acons_of rfl (acons_of rfl rfl)) (v_at_most one_1 other_2))) (fun h_5 => (if_v (w := fun z => PR.ok (eS z)) (tst_of (vEq (EncOk.tup (EncOk.pair (enc_ss.up (by decide)) (enc_int.up (by decide)) : EncOk 1 (eP eS PyData.int)) : EncOk 2 (eT (eP eS PyData.int))) (by decide) rfl rfl)) (fun h_3 => rfl) (fun h_3 => rfl))) (fun h_5 => (if_v (w := fun z => PR.ok (eS z)) (tst_of (call_of (acons_of rfl (acons_of rfl rfl)) (v_at_most other_2 one_1))) (fun h_4 => rfl) (fun h_4 => rfl))))
def V_raised (vector_1 : (List (SS × Int))) (node_2 : SS) (number_3 : Int) : (List (SS × Int)) :=
 (let told_4 : (List (SS × Int)) := (putsL [] vector_1); (let told_6 : (List (SS × Int)) := (putL told_4 node_2 (((getL told_4 node_2).getD (0 : Int)) + number_3)); (sortV (eP eS PyData.int) told_6)))
def C_raised (vector_1 : (List (SS × Int))) (node_2 : SS) (number_3 : Int) : Prop :=
 (let told_4 : (List (SS × Int)) := (putsL [] vector_1); ((told_4.length < 1000000) ∧ (let told_6 : (List (SS × Int)) := (putL told_4 node_2 (((getL told_4 node_2).getD (0 : Int)) + number_3)); (sortOk (told_6.map (eP eS PyData.int)) = true))))
theorem v_raised (vector_1 : (List (SS × Int))) (node_2 : SS) (number_3 : Int) (hc : C_raised vector_1 node_2 number_3) : A_raised [(eT (eP eS PyData.int)) vector_1, eS node_2, PyData.int number_3] = .ok ((eT (eP eS PyData.int)) (V_raised vector_1 node_2 number_3)) := by
  show P_raised ((eT (eP eS PyData.int)) vector_1) (eS node_2) (PyData.int number_3) = _
  unfold P_raised V_raised
  exact (bind_v (e := (eD eS PyData.int)) (v := (putsL [] vector_1)) (r := fun (told_4 : (List (SS × Int))) => PR.ok ((eT (eP eS PyData.int)) ((let told_6 : (List (SS × Int)) := (putL told_4 node_2 (((getL told_4 node_2).getD (0 : Int)) + number_3)); (sortV (eP eS PyData.int) told_6))))) (C := (fun (told_4 : (List (SS × Int))) => ((told_4.length < 1000000) ∧ (let told_6 : (List (SS × Int)) := (putL told_4 node_2 (((getL told_4 node_2).getD (0 : Int)) + number_3)); (sortOk (told_6.map (eP eS PyData.int)) = true))))) (vDictT (e := eS) (f := PyData.int) key_ss rfl) (fun told_4 hc_5 => (bind_eq (vAdd (vGet2 key_ss.g rfl rfl rfl) rfl) (bind_eq rfl (bind_v (e := (eD eS PyData.int)) (v := (putL told_4 node_2 (((getL told_4 node_2).getD (0 : Int)) + number_3))) (r := fun (told_6 : (List (SS × Int))) => PR.ok ((eT (eP eS PyData.int)) ((sortV (eP eS PyData.int) told_6)))) (C := (fun (told_6 : (List (SS × Int))) => (sortOk (told_6.map (eP eS PyData.int)) = true))) (vDst (e := eS) (f := PyData.int) (D := told_4) (i := node_2) (v := (((getL told_4 node_2).getD (0 : Int)) + number_3)) key_ss.g hc_5.1) (fun told_6 hc_7 => (vTupL (vItsS (e := eS) (f := PyData.int) key_ss rfl hc_7))) hc_5.2)))) hc)
def V__law_int (value_1 : Int) : Bool :=
 (true && (!false))
theorem v__law_int (value_1 : Int) : A__law_int [PyData.int value_1] = .ok (PyData.bool (V__law_int value_1)) := by
  show P__law_int (PyData.int value_1) = _
  unfold P__law_int V__law_int
  exact (vand_of (vTest rfl rfl) (fun h_2 => (vnot_of (vTest rfl rfl) rfl)) rfl)
def V__law_same (told_1 : Bool) (due_2 : Bool) : Bool :=
 (if due_2 = true then (told_1 == true) else (told_1 == false))
theorem v__law_same (told_1 : Bool) (due_2 : Bool) : A__law_same [PyData.bool told_1, PyData.bool due_2] = .ok (PyData.bool (V__law_same told_1 due_2)) := by
  show P__law_same (PyData.bool told_1) (PyData.bool due_2) = _
  unfold P__law_same V__law_same
  exact (if_v (w := fun z => PR.ok (PyData.bool z)) (tst_of rfl) (fun h_3 => ((vIsB (t := false) rfl rfl).trans (by simp))) (fun h_3 => ((vIsB (t := false) rfl rfl).trans (by simp))))
def W__law_vector (most_1 : Int) : WM (List (SS × Int)) :=
 (wB True ([(ss "a"), (ss "bob"), (ss "c"), (ss "d"), (ss "e"), (ss "f"), (ss "g"), (ss "h")] : List SS) fun (names_2 : (List SS)) => (wD (wA True (wD (wA (True ∧ (3 : Int) < 18446744073709551616) (wT (3 : Int))) fun (r_4 : Int) => wP (IxOk ([(2 : Int), (4 : Int), (1000000000 : Int)] : List Int) r_4) ((gI ([(2 : Int), (4 : Int), (1000000000 : Int)] : List Int) r_4)))) fun (size_7 : Int) => (wD (wD (wP True (cutA names_2 none (some most_1))) fun (r_22 : List SS) => wA (r_22.length ≤ 2000000) (wC (fun (a_9 : SS) => (wD (wD (wA (True ∧ (3 : Int) < 18446744073709551616) (wT (3 : Int))) fun (r_11 : Int) => wP (True ∧ True) (decide ((0 : Int) < r_11))) fun (r_23 : Bool) => wI r_23 (wD (wD (wP True (a_9)) fun (r_19 : SS) => (wD (wA True (wD (wA (True ∧ size_7 < 18446744073709551616) (wT size_7)) fun (r_16 : Int) => wP True (((1 : Int) + r_16)))) fun (r_20 : Int) => (wP True (r_19, r_20)))) fun (r_21 : (SS × Int)) => wP True (some r_21)) (wP True none))) r_22)) fun (r_24 : (List (SS × Int))) => wP True (r_24))))
theorem w__law_vector (most_1 : Int) : Rf (eT (eP eS PyData.int)) (A__law_vector [PyData.int most_1]) (W__law_vector most_1) := by
  show Rf _ (P__law_vector (PyData.int most_1)) _
  unfold P__law_vector W__law_vector
  exact (rf_let (e := (eL eS)) (fun hc_26 => (vLst (e := eS) (l := ([(ss "a"), (ss "bob"), (ss "c"), (ss "d"), (ss "e"), (ss "f"), (ss "g"), (ss "h")] : List SS)) (vCons rfl (vCons rfl (vCons rfl (vCons rfl (vCons rfl (vCons rfl (vCons rfl (vCons rfl (vNil eS))))))))) (by simp))) (fun names_2 => (rf_bind (e := PyData.int) (rf_b2l (a := (eL PyData.int) ([(2 : Int), (4 : Int), (1000000000 : Int)] : List Int)) (e2 := PyData.int) (e3 := PyData.int) (C := fun (r_4 : Int) => (IxOk ([(2 : Int), (4 : Int), (1000000000 : Int)] : List Int) r_4)) (v := fun (r_4 : Int) => (gI ([(2 : Int), (4 : Int), (1000000000 : Int)] : List Int) r_4)) (fun hc_5 => (vLst (e := PyData.int) (l := ([(2 : Int), (4 : Int), (1000000000 : Int)] : List Int)) (vCons rfl (vCons rfl (vCons rfl (vNil PyData.int)))) (by simp))) (rf_draw (fun hc_3 => (acons_of rfl rfl))) (fun r_4 => (fun hc_6 => (vIxL (e := PyData.int) rfl rfl hc_6)))) (fun size_7 => (rf_b1 (e1 := (eL (eP eS PyData.int))) (e3 := (eT (eP eS PyData.int))) (C := fun (r_24 : (List (SS × Int))) => True) (v := fun (r_24 : (List (SS × Int))) => r_24) (rf_comp (a := eS) (e := (eP eS PyData.int)) (rf_pq (e := List.map eS) (fun hc_8 => (vSeqL (vSlL rfl rfl (vPos rfl))))) (fun a_9 => (rf_st (rf_tst (rf_b2r (b := PyData.int (0 : Int)) (e1 := PyData.int) (e3 := PyData.bool) (C0 := fun (r_11 : Int) => True) (C := fun (r_11 : Int) => True) (v := fun (r_11 : Int) => decide ((0 : Int) < r_11)) (rf_draw (fun hc_10 => (acons_of rfl rfl))) (fun r_11 => (fun hc_12 => rfl)) (fun r_11 => (fun hc_13 => (vGt rfl rfl))))) (rf_pr (rf_pq (e := eS) (v := a_9) (fun hc_14 => rfl)) (rf_b2l (a := PyData.int (1 : Int)) (e2 := PyData.int) (e3 := PyData.int) (C := fun (r_16 : Int) => True) (v := fun (r_16 : Int) => ((1 : Int) + r_16)) (fun hc_17 => rfl) (rf_draw (fun hc_15 => (acons_of rfl rfl))) (fun r_16 => (fun hc_18 => (vAdd rfl rfl)))))))) (fun r_24 => (fun hc_25 => (vTupL rfl))))))))
def V__law_number (vector_1 : (List (SS × Int))) (node_2 : SS) : Int :=
 ((vector_1.filter (fun (a_3 : (SS × Int)) => decide (a_3.1 = node_2))).map fun (a_3 : (SS × Int)) => a_3.2).sum
def C__law_number (vector_1 : (List (SS × Int))) (node_2 : SS) : Prop :=
 (vector_1.length ≤ 2000000)
theorem v__law_number (vector_1 : (List (SS × Int))) (node_2 : SS) (hc : C__law_number vector_1 node_2) : A__law_number [(eT (eP eS PyData.int)) vector_1, eS node_2] = .ok (PyData.int (V__law_number vector_1 node_2)) := by
  show P__law_number ((eT (eP eS PyData.int)) vector_1) (eS node_2) = _
  unfold P__law_number V__law_number
  exact (vSum (vFM (e := (eP eS PyData.int)) (f := PyData.int) (c := (fun (a_3 : (SS × Int)) => decide (a_3.1 = node_2))) (g := fun (a_3 : (SS × Int)) => a_3.2) (vSeqT rfl) hc (fun a_3 h_5 => stP_of (tst_of (vEq enc_ss (by decide) rfl rfl)) (fun h_4 => rfl))))
def V__law_join (one_1 : (List (SS × Int))) (other_2 : (List (SS × Int))) : (List (SS × Int)) :=
 (let nodes_9 : (List SS) := (sortV eS ((one_1.map fun (a_3 : (SS × Int)) => a_3.1) ++ ((other_2.filter (fun (a_6 : (SS × Int)) => decide ((V__law_number one_1 a_6.1) = (0 : Int)))).map fun (a_6 : (SS × Int)) => a_6.1))); (nodes_9.map fun (a_11 : SS) => (a_11, (max (V__law_number one_1 a_11) (V__law_number other_2 a_11)))))
def C__law_join (one_1 : (List (SS × Int))) (other_2 : (List (SS × Int))) : Prop :=
 ((one_1.length ≤ 2000000) ∧ (other_2.length ≤ 2000000) ∧ (∀ a_6 : (SS × Int), a_6 ∈ other_2 → (C__law_number one_1 a_6.1)) ∧ ((one_1.map fun (a_3 : (SS × Int)) => a_3.1).length + ((other_2.filter (fun (a_6 : (SS × Int)) => decide ((V__law_number one_1 a_6.1) = (0 : Int)))).map fun (a_6 : (SS × Int)) => a_6.1).length ≤ 2000000) ∧ (sortOk (((one_1.map fun (a_3 : (SS × Int)) => a_3.1) ++ ((other_2.filter (fun (a_6 : (SS × Int)) => decide ((V__law_number one_1 a_6.1) = (0 : Int)))).map fun (a_6 : (SS × Int)) => a_6.1)).map eS) = true) ∧ (let nodes_9 : (List SS) := (sortV eS ((one_1.map fun (a_3 : (SS × Int)) => a_3.1) ++ ((other_2.filter (fun (a_6 : (SS × Int)) => decide ((V__law_number one_1 a_6.1) = (0 : Int)))).map fun (a_6 : (SS × Int)) => a_6.1))); ((nodes_9.length ≤ 2000000) ∧ (∀ a_11 : SS, a_11 ∈ nodes_9 → ((C__law_number one_1 a_11) ∧ (C__law_number other_2 a_11))))))
theorem v__law_join (one_1 : (List (SS × Int))) (other_2 : (List (SS × Int))) (hc : C__law_join one_1 other_2) : A__law_join [(eT (eP eS PyData.int)) one_1, (eT (eP eS PyData.int)) other_2] = .ok ((eT (eP eS PyData.int)) (V__law_join one_1 other_2)) := by
  show P__law_join ((eT (eP eS PyData.int)) one_1) ((eT (eP eS PyData.int)) other_2) = _
  unfold P__law_join V__law_join
  exact (bind_v (e := (eL eS)) (v := (sortV eS ((one_1.map fun (a_3 : (SS × Int)) => a_3.1) ++ ((other_2.filter (fun (a_6 : (SS × Int)) => decide ((V__law_number one_1 a_6.1) = (0 : Int)))).map fun (a_6 : (SS × Int)) => a_6.1)))) (r := fun (nodes_9 : (List SS)) => PR.ok ((eT (eP eS PyData.int)) ((nodes_9.map fun (a_11 : SS) => (a_11, (max (V__law_number one_1 a_11) (V__law_number other_2 a_11))))))) (C := (fun (nodes_9 : (List SS)) => ((nodes_9.length ≤ 2000000) ∧ (∀ a_11 : SS, a_11 ∈ nodes_9 → ((C__law_number one_1 a_11) ∧ (C__law_number other_2 a_11)))))) (vSrtL (vCatL (e := eS) (vMap (e := (eP eS PyData.int)) (f := eS) (g := fun (a_3 : (SS × Int)) => a_3.1) (vSeqT rfl) hc.1 (fun a_3 h_5 => st1_of rfl)) (vFM (e := (eP eS PyData.int)) (f := eS) (c := (fun (a_6 : (SS × Int)) => decide ((V__law_number one_1 a_6.1) = (0 : Int)))) (g := fun (a_6 : (SS × Int)) => a_6.1) (vSeqT rfl) hc.2.1 (fun a_6 h_8 => stP_of (tst_of (vEq enc_int (by decide) (call_of (acons_of rfl (acons_of rfl rfl)) (v__law_number one_1 a_6.1 (hc.2.2.1 a_6 h_8))) rfl)) (fun h_7 => rfl))) hc.2.2.2.1) hc.2.2.2.2.1) (fun nodes_9 hc_10 => (vTupL (vMap (e := eS) (f := (eP eS PyData.int)) (g := fun (a_11 : SS) => (a_11, (max (V__law_number one_1 a_11) (V__law_number other_2 a_11)))) (vSeqL rfl) hc_10.1 (fun a_11 h_13 => st1_of (vPr (e := eS) (f := PyData.int) rfl (vMax2 (call_of (acons_of rfl (acons_of rfl rfl)) (v__law_number one_1 a_11 (hc_10.2 a_11 h_13).1)) (call_of (acons_of rfl (acons_of rfl rfl)) (v__law_number other_2 a_11 (hc_10.2 a_11 h_13).2)))))))) hc.2.2.2.2.2)
def V__law_at_most (one_1 : (List (SS × Int))) (other_2 : (List (SS × Int))) : Bool :=
 decide (((one_1.filter (fun (a_3 : (SS × Int)) => decide ((V__law_number other_2 a_3.1) < a_3.2))).map fun (a_3 : (SS × Int)) => a_3.1) = ([] : List SS))
def C__law_at_most (one_1 : (List (SS × Int))) (other_2 : (List (SS × Int))) : Prop :=
 ((one_1.length ≤ 2000000) ∧ (∀ a_3 : (SS × Int), a_3 ∈ one_1 → (C__law_number other_2 a_3.1)))
theorem v__law_at_most (one_1 : (List (SS × Int))) (other_2 : (List (SS × Int))) (hc : C__law_at_most one_1 other_2) : A__law_at_most [(eT (eP eS PyData.int)) one_1, (eT (eP eS PyData.int)) other_2] = .ok (PyData.bool (V__law_at_most one_1 other_2)) := by
  show P__law_at_most ((eT (eP eS PyData.int)) one_1) ((eT (eP eS PyData.int)) other_2) = _
  unfold P__law_at_most V__law_at_most
  exact (vEq (EncOk.list enc_ss : EncOk 1 (eL eS)) (by decide) (vFM (e := (eP eS PyData.int)) (f := eS) (c := (fun (a_3 : (SS × Int)) => decide ((V__law_number other_2 a_3.1) < a_3.2))) (g := fun (a_3 : (SS × Int)) => a_3.1) (vSeqT rfl) hc.1 (fun a_3 h_5 => stP_of (tst_of (vGt rfl (call_of (acons_of rfl (acons_of rfl rfl)) (v__law_number other_2 a_3.1 (hc.2 a_3 h_5))))) (fun h_4 => rfl))) (vLst (e := eS) (l := ([] : List SS)) (vNil eS) (by simp)))
def V__law_wrong (vector_1 : (List (SS × Int))) : Bool :=
 (let wrong_5 : (List PyData) := ([(eN ()), ((eL (eP eS PyData.int)) vector_1), ((eT eN) ([()] : List Unit)), ((eT (eT eS)) ([([(ss "a")] : List SS)] : List (List SS))), ((eT (eP eS PyData.int)) ([((ss "a"), (0 : Int))] : List (SS × Int))), ((eT (eP eS PyData.int)) ([((ss "a"), (1000000001 : Int))] : List (SS × Int))), ((eT (eP eS PyData.bool)) ([((ss "a"), true)] : List (SS × Bool))), ((eT (eP eS eN)) ([((ss "a"), ())] : List (SS × Unit))), ((eT (e3 eS PyData.int PyData.int)) ([((ss "a"), (1 : Int), (1 : Int))] : List (SS × Int × Int))), ((eT (eL eR)) ([([(eS (ss "a")), (PyData.int (1 : Int))] : List PyData)] : List (List PyData))), ((eT (eP eS PyData.int)) ([((ss "A"), (1 : Int))] : List (SS × Int))), ((eT (eP eS PyData.int)) ([((ss ""), (1 : Int))] : List (SS × Int))), ((eP (eP eS PyData.int) (eP eS PyData.int)) (((ss "b"), (1 : Int)), ((ss "a"), (1 : Int)))), ((eP (eP eS PyData.int) (eP eS PyData.int)) (((ss "a"), (1 : Int)), ((ss "a"), (2 : Int)))), ((eP (eP eS PyData.int) (eP eS PyData.int)) (((ss "a"), (1 : Int)), ((ss "a"), (1 : Int)))), ((eT (eP eS PyData.int)) ((chS (ss "abcdefghi")).map fun (a_2 : SS) => ((catS (ss "n") a_2), (1 : Int)))), ((eP eS PyData.int) ((ss "a"), (1 : Int))), (PyData.int (5 : Int)), (eS (ss "a"))] : List PyData); (let eight_10 : (List (SS × Int)) := ((chS (ss "abcdefgh")).map fun (a_7 : SS) => ((catS (ss "n") a_7), (1000000000 : Int))); (((vecB ((eT (eP eS PyData.int)) vector_1)) == true) && (((vecB ((eT PyData.int) ([] : List Int))) == true) && (((vecB ((eT (eP eS PyData.int)) eight_10)) == true) && (wrong_5.filter (fun (a_12 : PyData) => (!((vecB a_12) == false)))).isEmpty)))))
def C__law_wrong (vector_1 : (List (SS × Int))) : Prop :=
 (((chS (ss "abcdefghi")).length ≤ 2000000) ∧ (∀ a_2 : SS, a_2 ∈ (chS (ss "abcdefghi")) → ((cps (ss "n")).length + (cps a_2).length ≤ 2000000)) ∧ (let wrong_5 : (List PyData) := ([(eN ()), ((eL (eP eS PyData.int)) vector_1), ((eT eN) ([()] : List Unit)), ((eT (eT eS)) ([([(ss "a")] : List SS)] : List (List SS))), ((eT (eP eS PyData.int)) ([((ss "a"), (0 : Int))] : List (SS × Int))), ((eT (eP eS PyData.int)) ([((ss "a"), (1000000001 : Int))] : List (SS × Int))), ((eT (eP eS PyData.bool)) ([((ss "a"), true)] : List (SS × Bool))), ((eT (eP eS eN)) ([((ss "a"), ())] : List (SS × Unit))), ((eT (e3 eS PyData.int PyData.int)) ([((ss "a"), (1 : Int), (1 : Int))] : List (SS × Int × Int))), ((eT (eL eR)) ([([(eS (ss "a")), (PyData.int (1 : Int))] : List PyData)] : List (List PyData))), ((eT (eP eS PyData.int)) ([((ss "A"), (1 : Int))] : List (SS × Int))), ((eT (eP eS PyData.int)) ([((ss ""), (1 : Int))] : List (SS × Int))), ((eP (eP eS PyData.int) (eP eS PyData.int)) (((ss "b"), (1 : Int)), ((ss "a"), (1 : Int)))), ((eP (eP eS PyData.int) (eP eS PyData.int)) (((ss "a"), (1 : Int)), ((ss "a"), (2 : Int)))), ((eP (eP eS PyData.int) (eP eS PyData.int)) (((ss "a"), (1 : Int)), ((ss "a"), (1 : Int)))), ((eT (eP eS PyData.int)) ((chS (ss "abcdefghi")).map fun (a_2 : SS) => ((catS (ss "n") a_2), (1 : Int)))), ((eP eS PyData.int) ((ss "a"), (1 : Int))), (PyData.int (5 : Int)), (eS (ss "a"))] : List PyData); (((chS (ss "abcdefgh")).length ≤ 2000000) ∧ (∀ a_7 : SS, a_7 ∈ (chS (ss "abcdefgh")) → ((cps (ss "n")).length + (cps a_7).length ≤ 2000000)) ∧ (let eight_10 : (List (SS × Int)) := ((chS (ss "abcdefgh")).map fun (a_7 : SS) => ((catS (ss "n") a_7), (1000000000 : Int))); ((vecC ((eT (eP eS PyData.int)) vector_1)) ∧ (((vecB ((eT (eP eS PyData.int)) vector_1)) == true) = true → ((vecC ((eT PyData.int) ([] : List Int))) ∧ (((vecB ((eT PyData.int) ([] : List Int))) == true) = true → ((vecC ((eT (eP eS PyData.int)) eight_10)) ∧ (((vecB ((eT (eP eS PyData.int)) eight_10)) == true) = true → ((wrong_5.length ≤ 2000000) ∧ (∀ a_12 : PyData, a_12 ∈ wrong_5 → (vecC a_12)) ∧ ((wrong_5.filter (fun (a_12 : PyData) => (!((vecB a_12) == false)))).all (shN 60) = true))))))))))))
theorem v__law_wrong (vector_1 : (List (SS × Int))) (hc : C__law_wrong vector_1) : A__law_wrong [(eT (eP eS PyData.int)) vector_1] = .ok (PyData.bool (V__law_wrong vector_1)) := by
  show P__law_wrong ((eT (eP eS PyData.int)) vector_1) = _
  unfold P__law_wrong V__law_wrong
  exact (bind_v (e := (eL eR)) (v := ([(eN ()), ((eL (eP eS PyData.int)) vector_1), ((eT eN) ([()] : List Unit)), ((eT (eT eS)) ([([(ss "a")] : List SS)] : List (List SS))), ((eT (eP eS PyData.int)) ([((ss "a"), (0 : Int))] : List (SS × Int))), ((eT (eP eS PyData.int)) ([((ss "a"), (1000000001 : Int))] : List (SS × Int))), ((eT (eP eS PyData.bool)) ([((ss "a"), true)] : List (SS × Bool))), ((eT (eP eS eN)) ([((ss "a"), ())] : List (SS × Unit))), ((eT (e3 eS PyData.int PyData.int)) ([((ss "a"), (1 : Int), (1 : Int))] : List (SS × Int × Int))), ((eT (eL eR)) ([([(eS (ss "a")), (PyData.int (1 : Int))] : List PyData)] : List (List PyData))), ((eT (eP eS PyData.int)) ([((ss "A"), (1 : Int))] : List (SS × Int))), ((eT (eP eS PyData.int)) ([((ss ""), (1 : Int))] : List (SS × Int))), ((eP (eP eS PyData.int) (eP eS PyData.int)) (((ss "b"), (1 : Int)), ((ss "a"), (1 : Int)))), ((eP (eP eS PyData.int) (eP eS PyData.int)) (((ss "a"), (1 : Int)), ((ss "a"), (2 : Int)))), ((eP (eP eS PyData.int) (eP eS PyData.int)) (((ss "a"), (1 : Int)), ((ss "a"), (1 : Int)))), ((eT (eP eS PyData.int)) ((chS (ss "abcdefghi")).map fun (a_2 : SS) => ((catS (ss "n") a_2), (1 : Int)))), ((eP eS PyData.int) ((ss "a"), (1 : Int))), (PyData.int (5 : Int)), (eS (ss "a"))] : List PyData)) (r := fun (wrong_5 : (List PyData)) => PR.ok (PyData.bool ((let eight_10 : (List (SS × Int)) := ((chS (ss "abcdefgh")).map fun (a_7 : SS) => ((catS (ss "n") a_7), (1000000000 : Int))); (((vecB ((eT (eP eS PyData.int)) vector_1)) == true) && (((vecB ((eT PyData.int) ([] : List Int))) == true) && (((vecB ((eT (eP eS PyData.int)) eight_10)) == true) && (wrong_5.filter (fun (a_12 : PyData) => (!((vecB a_12) == false)))).isEmpty))))))) (C := (fun (wrong_5 : (List PyData)) => (((chS (ss "abcdefgh")).length ≤ 2000000) ∧ (∀ a_7 : SS, a_7 ∈ (chS (ss "abcdefgh")) → ((cps (ss "n")).length + (cps a_7).length ≤ 2000000)) ∧ (let eight_10 : (List (SS × Int)) := ((chS (ss "abcdefgh")).map fun (a_7 : SS) => ((catS (ss "n") a_7), (1000000000 : Int))); ((vecC ((eT (eP eS PyData.int)) vector_1)) ∧ (((vecB ((eT (eP eS PyData.int)) vector_1)) == true) = true → ((vecC ((eT PyData.int) ([] : List Int))) ∧ (((vecB ((eT PyData.int) ([] : List Int))) == true) = true → ((vecC ((eT (eP eS PyData.int)) eight_10)) ∧ (((vecB ((eT (eP eS PyData.int)) eight_10)) == true) = true → ((wrong_5.length ≤ 2000000) ∧ (∀ a_12 : PyData, a_12 ∈ wrong_5 → (vecC a_12)) ∧ ((wrong_5.filter (fun (a_12 : PyData) => (!((vecB a_12) == false)))).all (shN 60) = true)))))))))))) (vLst (e := eR) (l := ([(eN ()), ((eL (eP eS PyData.int)) vector_1), ((eT eN) ([()] : List Unit)), ((eT (eT eS)) ([([(ss "a")] : List SS)] : List (List SS))), ((eT (eP eS PyData.int)) ([((ss "a"), (0 : Int))] : List (SS × Int))), ((eT (eP eS PyData.int)) ([((ss "a"), (1000000001 : Int))] : List (SS × Int))), ((eT (eP eS PyData.bool)) ([((ss "a"), true)] : List (SS × Bool))), ((eT (eP eS eN)) ([((ss "a"), ())] : List (SS × Unit))), ((eT (e3 eS PyData.int PyData.int)) ([((ss "a"), (1 : Int), (1 : Int))] : List (SS × Int × Int))), ((eT (eL eR)) ([([(eS (ss "a")), (PyData.int (1 : Int))] : List PyData)] : List (List PyData))), ((eT (eP eS PyData.int)) ([((ss "A"), (1 : Int))] : List (SS × Int))), ((eT (eP eS PyData.int)) ([((ss ""), (1 : Int))] : List (SS × Int))), ((eP (eP eS PyData.int) (eP eS PyData.int)) (((ss "b"), (1 : Int)), ((ss "a"), (1 : Int)))), ((eP (eP eS PyData.int) (eP eS PyData.int)) (((ss "a"), (1 : Int)), ((ss "a"), (2 : Int)))), ((eP (eP eS PyData.int) (eP eS PyData.int)) (((ss "a"), (1 : Int)), ((ss "a"), (1 : Int)))), ((eT (eP eS PyData.int)) ((chS (ss "abcdefghi")).map fun (a_2 : SS) => ((catS (ss "n") a_2), (1 : Int)))), ((eP eS PyData.int) ((ss "a"), (1 : Int))), (PyData.int (5 : Int)), (eS (ss "a"))] : List PyData)) (vCons rfl (vCons (vLstT rfl) (vCons (vTup (e := eN) (l := ([()] : List Unit)) (vCons rfl (vNil eN)) (by simp)) (vCons (vTup (e := (eT eS)) (l := ([([(ss "a")] : List SS)] : List (List SS))) (vCons (vTup (e := eS) (l := ([(ss "a")] : List SS)) (vCons rfl (vNil eS)) (by simp)) (vNil (eT eS))) (by simp)) (vCons (vTup (e := (eP eS PyData.int)) (l := ([((ss "a"), (0 : Int))] : List (SS × Int))) (vCons (vPr (e := eS) (f := PyData.int) rfl rfl) (vNil (eP eS PyData.int))) (by simp)) (vCons (vTup (e := (eP eS PyData.int)) (l := ([((ss "a"), (1000000001 : Int))] : List (SS × Int))) (vCons (vPr (e := eS) (f := PyData.int) rfl rfl) (vNil (eP eS PyData.int))) (by simp)) (vCons (vTup (e := (eP eS PyData.bool)) (l := ([((ss "a"), true)] : List (SS × Bool))) (vCons (vPr (e := eS) (f := PyData.bool) rfl rfl) (vNil (eP eS PyData.bool))) (by simp)) (vCons (vTup (e := (eP eS eN)) (l := ([((ss "a"), ())] : List (SS × Unit))) (vCons (vPr (e := eS) (f := eN) rfl rfl) (vNil (eP eS eN))) (by simp)) (vCons (vTup (e := (e3 eS PyData.int PyData.int)) (l := ([((ss "a"), (1 : Int), (1 : Int))] : List (SS × Int × Int))) (vCons (vTr (e := eS) (f := PyData.int) (g := PyData.int) rfl rfl rfl) (vNil (e3 eS PyData.int PyData.int))) (by simp)) (vCons (vTup (e := (eL eR)) (l := ([([(eS (ss "a")), (PyData.int (1 : Int))] : List PyData)] : List (List PyData))) (vCons (vLst (e := eR) (l := ([(eS (ss "a")), (PyData.int (1 : Int))] : List PyData)) (vCons rfl (vCons rfl (vNil eR))) (by simp)) (vNil (eL eR))) (by simp)) (vCons (vTup (e := (eP eS PyData.int)) (l := ([((ss "A"), (1 : Int))] : List (SS × Int))) (vCons (vPr (e := eS) (f := PyData.int) rfl rfl) (vNil (eP eS PyData.int))) (by simp)) (vCons (vTup (e := (eP eS PyData.int)) (l := ([((ss ""), (1 : Int))] : List (SS × Int))) (vCons (vPr (e := eS) (f := PyData.int) rfl rfl) (vNil (eP eS PyData.int))) (by simp)) (vCons (vPr (e := (eP eS PyData.int)) (f := (eP eS PyData.int)) (vPr (e := eS) (f := PyData.int) rfl rfl) (vPr (e := eS) (f := PyData.int) rfl rfl)) (vCons (vPr (e := (eP eS PyData.int)) (f := (eP eS PyData.int)) (vPr (e := eS) (f := PyData.int) rfl rfl) (vPr (e := eS) (f := PyData.int) rfl rfl)) (vCons (vPr (e := (eP eS PyData.int)) (f := (eP eS PyData.int)) (vPr (e := eS) (f := PyData.int) rfl rfl) (vPr (e := eS) (f := PyData.int) rfl rfl)) (vCons (vTupL (vMap (e := eS) (f := (eP eS PyData.int)) (g := fun (a_2 : SS) => ((catS (ss "n") a_2), (1 : Int))) (vSeqS rfl) hc.1 (fun a_2 h_4 => st1_of (vPr (e := eS) (f := PyData.int) (vCatS rfl rfl (hc.2.1 a_2 h_4)) rfl)))) (vCons (vPr (e := eS) (f := PyData.int) rfl rfl) (vCons rfl (vCons rfl (vNil eR)))))))))))))))))))) (by simp)) (fun wrong_5 hc_6 => (bind_v (e := (eT (eP eS PyData.int))) (v := ((chS (ss "abcdefgh")).map fun (a_7 : SS) => ((catS (ss "n") a_7), (1000000000 : Int)))) (r := fun (eight_10 : (List (SS × Int))) => PR.ok (PyData.bool ((((vecB ((eT (eP eS PyData.int)) vector_1)) == true) && (((vecB ((eT PyData.int) ([] : List Int))) == true) && (((vecB ((eT (eP eS PyData.int)) eight_10)) == true) && (wrong_5.filter (fun (a_12 : PyData) => (!((vecB a_12) == false)))).isEmpty)))))) (C := (fun (eight_10 : (List (SS × Int))) => ((vecC ((eT (eP eS PyData.int)) vector_1)) ∧ (((vecB ((eT (eP eS PyData.int)) vector_1)) == true) = true → ((vecC ((eT PyData.int) ([] : List Int))) ∧ (((vecB ((eT PyData.int) ([] : List Int))) == true) = true → ((vecC ((eT (eP eS PyData.int)) eight_10)) ∧ (((vecB ((eT (eP eS PyData.int)) eight_10)) == true) = true → ((wrong_5.length ≤ 2000000) ∧ (∀ a_12 : PyData, a_12 ∈ wrong_5 → (vecC a_12)) ∧ ((wrong_5.filter (fun (a_12 : PyData) => (!((vecB a_12) == false)))).all (shN 60) = true)))))))))) (vTupL (vMap (e := eS) (f := (eP eS PyData.int)) (g := fun (a_7 : SS) => ((catS (ss "n") a_7), (1000000000 : Int))) (vSeqS rfl) hc_6.1 (fun a_7 h_9 => st1_of (vPr (e := eS) (f := PyData.int) (vCatS rfl rfl (hc_6.2.1 a_7 h_9)) rfl)))) (fun eight_10 hc_11 => (vand_of ((vIsB (t := false) (call_of (acons_of rfl rfl) (v_vec ((eT (eP eS PyData.int)) vector_1) hc_11.1)) rfl).trans (by simp)) (fun h_17 => (vand_of ((vIsB (t := false) (call_of (acons_of (vTup (e := PyData.int) (l := ([] : List Int)) (vNil PyData.int) (by simp)) rfl) (v_vec ((eT PyData.int) ([] : List Int)) (hc_11.2 h_17).1)) rfl).trans (by simp)) (fun h_16 => (vand_of ((vIsB (t := false) (call_of (acons_of rfl rfl) (v_vec ((eT (eP eS PyData.int)) eight_10) ((hc_11.2 h_17).2 h_16).1)) rfl).trans (by simp)) (fun h_15 => (vEqNil (vFil (e := eR) (c := (fun (a_12 : PyData) => (!((vecB a_12) == false)))) (vSeqL rfl) (((hc_11.2 h_17).2 h_16).2 h_15).1 (fun a_12 h_14 => stP_of (tst_of ((vIsB (t := true) (call_of (acons_of rfl rfl) (v_vec a_12 ((((hc_11.2 h_17).2 h_16).2 h_15).2.1 a_12 h_14))) rfl).trans (by simp))) (fun h_13 => rfl))) (vLst (e := PyData.int) (l := ([] : List Int)) (vNil PyData.int) (by simp)) (((hc_11.2 h_17).2 h_16).2 h_15).2.2)) rfl)) rfl)) rfl)) hc_6.2.2)) hc.2.2)
def W_law_b1  (s_29 : Unit) (a_30 : ((List (SS × Int)) × (List (SS × Int)))) : WM (LR (Unit) Bool) := (wP ((C_join a_30.1 a_30.2) ∧ (let told_31 : (List (SS × Int)) := (V_join a_30.1 a_30.2); ((C__law_join a_30.1 a_30.2) ∧ (let due_33 : (List (SS × Int)) := (V__law_join a_30.1 a_30.2); ((vecC ((eT (eP eS PyData.int)) told_31)) ∧ ((!((vecB ((eT (eP eS PyData.int)) told_31)) == true)) = false → ((!decide (told_31 = due_33)) = false → (C__law_at_most a_30.1 a_30.2))) ∧ (((!((vecB ((eT (eP eS PyData.int)) told_31)) == true)) || ((!decide (told_31 = due_33)) || (!(V__law_same (V_at_most a_30.1 a_30.2) (V__law_at_most a_30.1 a_30.2))))) = false → (let word_37 : SS := (ss "beside"); ((decide (a_30.1 = a_30.2) = false → ((C__law_at_most a_30.1 a_30.2) ∧ ((V__law_at_most a_30.1 a_30.2) = false → (C__law_at_most a_30.2 a_30.1)))) ∧ (let j_86 : SS := (if decide (a_30.1 = a_30.2) = true then (let word_62 : SS := (ss "same"); word_62) else (let j_83 : SS := (if (V__law_at_most a_30.1 a_30.2) = true then (let word_73 : SS := (ss "older"); word_73) else (let j_80 : SS := (if (V__law_at_most a_30.2 a_30.1) = true then (let word_77 : SS := (ss "newer"); word_77) else word_37); j_80)); j_83)); ((!decide ((V_compare a_30.1 a_30.2) = j_86)) = false → ((!((V_at_most a_30.1 told_31) == true)) = false → ((!((V_at_most a_30.2 told_31) == true)) = false → (C_join told_31 a_30.2))))))))))))) ((let told_31 : (List (SS × Int)) := (V_join a_30.1 a_30.2); (let due_33 : (List (SS × Int)) := (V__law_join a_30.1 a_30.2); (if ((!((vecB ((eT (eP eS PyData.int)) told_31)) == true)) || ((!decide (told_31 = due_33)) || (!(V__law_same (V_at_most a_30.1 a_30.2) (V__law_at_most a_30.1 a_30.2))))) = true then (LR.rt false) else (let word_37 : SS := (ss "beside"); (let j_86 : SS := (if decide (a_30.1 = a_30.2) = true then (let word_62 : SS := (ss "same"); word_62) else (let j_83 : SS := (if (V__law_at_most a_30.1 a_30.2) = true then (let word_73 : SS := (ss "older"); word_73) else (let j_80 : SS := (if (V__law_at_most a_30.2 a_30.1) = true then (let word_77 : SS := (ss "newer"); word_77) else word_37); j_80)); j_83)); (if ((!decide ((V_compare a_30.1 a_30.2) = j_86)) || ((!((V_at_most a_30.1 told_31) == true)) || ((!((V_at_most a_30.2 told_31) == true)) || (!decide ((V_join told_31 a_30.2) = told_31))))) = true then (LR.rt false) else (LR.nx ())))))))))
def W_law (script_1 : PyData) : WM Bool :=
 (wD (wP (True ∧ GoodScr (eR script_1)) ()) fun (_ : Unit) => (wD (wA True (W__law_vector (8 : Int))) fun (one_3 : (List (SS × Int))) => (wD (wD (wD (wD (wA True (W__law_vector (8 : Int))) fun (r_18 : (List (SS × Int))) => wD (wD (wP True (one_3)) fun (r_16 : (List (SS × Int))) => wD (wD (wD (wP True (one_3)) fun (r_8 : (List (SS × Int))) => (wD (wA True (W__law_vector (3 : Int))) fun (r_9 : (List (SS × Int))) => (wP (C__law_join r_8 r_9) ((V__law_join r_8 r_9))))) fun (r_14 : (List (SS × Int))) => wD (wD (wP True (([] : List (SS × Int)))) fun (r_12 : (List (SS × Int))) => wD (wP True ([] : List (List (SS × Int)))) fun (r_13 : List (List (SS × Int))) => wP True (r_12 :: r_13)) fun (r_15 : List (List (SS × Int))) => wP True (r_14 :: r_15)) fun (r_17 : List (List (SS × Int))) => wP True (r_16 :: r_17)) fun (r_19 : List (List (SS × Int))) => wP True (r_18 :: r_19)) fun (r_20 : List (List (SS × Int))) => wP (r_20.length ≤ 1000) r_20) fun (r_21 : (List (List (SS × Int)))) => wD (wA (True ∧ (4 : Int) < 18446744073709551616) (wT (4 : Int))) fun (r_23 : Int) => wP (IxOk r_21 r_23) ((gI r_21 r_23))) fun (other_25 : (List (SS × Int))) => (wD (wA True (W__law_vector (5 : Int))) fun (third_27 : (List (SS × Int))) => (wA (C__law_wrong one_3) (wI (!(V__law_wrong one_3)) (wP True (false)) (wA True (wD (wL W_law_b1 ([(one_3, other_25), (other_25, one_3), (one_3, one_3), (third_27, one_3)] : List ((List (SS × Int)) × (List (SS × Int)))) ()) (wAft (fun (s_94 : Unit) => (wA ((C_join one_3 other_25) ∧ (C_join (V_join one_3 other_25) third_27) ∧ (C_join other_25 third_27) ∧ (C_join one_3 (V_join other_25 third_27)) ∧ ((!decide ((V_join (V_join one_3 other_25) third_27) = (V_join one_3 (V_join other_25 third_27)))) = false → ((C_join one_3 other_25) ∧ (C_join other_25 one_3)))) (wI ((!decide ((V_join (V_join one_3 other_25) third_27) = (V_join one_3 (V_join other_25 third_27)))) || (!decide ((V_join one_3 other_25) = (V_join other_25 one_3)))) (wP True (false)) (wB ((C__law_join one_3 other_25) ∧ (C__law_join (V__law_join one_3 other_25) third_27)) (V__law_join (V__law_join one_3 other_25) third_27) fun (above_96 : (List (SS × Int))) => (wA (C_join one_3 other_25) (wI (!((V_at_most (V_join one_3 other_25) above_96) == true)) (wP True (false)) (wD (wA True (wD (wA (True ∧ (4 : Int) < 18446744073709551616) (wT (4 : Int))) fun (r_99 : Int) => wP (IxOk ([(ss "a"), (ss "c"), (ss "h"), (ss "zed")] : List SS) r_99) ((gI ([(ss "a"), (ss "c"), (ss "h"), (ss "zed")] : List SS) r_99)))) fun (node_102 : SS) => (wD (wA True (wD (wA (True ∧ (9 : Int) < 18446744073709551616) (wT (9 : Int))) fun (r_104 : Int) => wP True (((1 : Int) + r_104)))) fun (more_107 : Int) => (wP ((C__law_number one_3 node_102) ∧ ((decide ((V__law_number one_3 node_102) < (999999990 : Int)) && decide ((one_3.length : Int) < (8 : Int))) = true → ((C_raised one_3 node_102 more_107) ∧ (let told_109 : (List (SS × Int)) := (V_raised one_3 node_102 more_107); ((one_3.length ≤ 2000000) ∧ (C__law_number one_3 node_102) ∧ ((one_3.filter (fun (a_111 : (SS × Int)) => (!decide (a_111.1 = node_102)))).length + ([(node_102, ((V__law_number one_3 node_102) + more_107))] : List (SS × Int)).length ≤ 2000000) ∧ (sortOk (((one_3.filter (fun (a_111 : (SS × Int)) => (!decide (a_111.1 = node_102)))) ++ ([(node_102, ((V__law_number one_3 node_102) + more_107))] : List (SS × Int))).map (eP eS PyData.int)) = true) ∧ (let due_114 : (List (SS × Int)) := (sortV (eP eS PyData.int) ((one_3.filter (fun (a_111 : (SS × Int)) => (!decide (a_111.1 = node_102)))) ++ ([(node_102, ((V__law_number one_3 node_102) + more_107))] : List (SS × Int)))); (((!decide (told_109 = due_114)) = false → ((vecC ((eT (eP eS PyData.int)) told_109)) ∧ ((!((vecB ((eT (eP eS PyData.int)) told_109)) == true)) = false → (C__law_number one_3 node_102)))) ∧ (((!decide (told_109 = due_114)) || ((!((vecB ((eT (eP eS PyData.int)) told_109)) == true)) || (!decide ((V_number_of told_109 node_102) = ((V__law_number one_3 node_102) + more_107))))) = false → ((V__law_int (V_number_of one_3 node_102)) = true → (C__law_number one_3 node_102))))))))) ∧ ((decide ((V__law_number one_3 node_102) < (999999990 : Int)) && decide ((one_3.length : Int) < (8 : Int))) = false → ((V__law_int (V_number_of one_3 node_102)) = true → (C__law_number one_3 node_102)))) ((if (decide ((V__law_number one_3 node_102) < (999999990 : Int)) && decide ((one_3.length : Int) < (8 : Int))) = true then (let told_109 : (List (SS × Int)) := (V_raised one_3 node_102 more_107); (let due_114 : (List (SS × Int)) := (sortV (eP eS PyData.int) ((one_3.filter (fun (a_111 : (SS × Int)) => (!decide (a_111.1 = node_102)))) ++ ([(node_102, ((V__law_number one_3 node_102) + more_107))] : List (SS × Int)))); (if ((!decide (told_109 = due_114)) || ((!((vecB ((eT (eP eS PyData.int)) told_109)) == true)) || (!decide ((V_number_of told_109 node_102) = ((V__law_number one_3 node_102) + more_107))))) = true then false else ((V__law_int (V_number_of one_3 node_102)) && decide ((V_number_of one_3 node_102) = (V__law_number one_3 node_102)))))) else ((V__law_int (V_number_of one_3 node_102)) && decide ((V_number_of one_3 node_102) = (V__law_number one_3 node_102)))))))))))))) (fun (q : Bool) => q))))))))))
theorem w_law (script_1 : PyData) : Rf PyData.bool (A_law [eR script_1]) (W_law script_1) := by
  show Rf _ (P_law (eR script_1)) _
  unfold P_law W_law
  exact (rf_bind (e := fun u : Unit => u) (rf_draws (fun hc_130 => (acons_of rfl rfl))) (fun _ => (rf_bind (e := (eT (eP eS PyData.int))) (rf_call (fun hc_2 => (acons_of rfl rfl)) (w__law_vector (8 : Int))) (fun one_3 => (rf_bind (e := (eT (eP eS PyData.int))) (rf_b2 (e1 := (eL (eT (eP eS PyData.int)))) (e2 := PyData.int) (e3 := (eT (eP eS PyData.int))) (C := fun (r_21 : (List (List (SS × Int)))) (r_23 : Int) => (IxOk r_21 r_23)) (v := fun (r_21 : (List (List (SS × Int)))) (r_23 : Int) => (gI r_21 r_23)) (rf_lst (rf_acons (rf_call (fun hc_4 => (acons_of rfl rfl)) (w__law_vector (8 : Int))) (rf_acons (rf_pq (e := (eT (eP eS PyData.int))) (v := one_3) (fun hc_5 => rfl)) (rf_acons (rf_call2 (A := fun ds => PQ (A__law_join ds)) (rf_pq (e := (eT (eP eS PyData.int))) (v := one_3) (fun hc_6 => rfl)) (rf_call (fun hc_7 => (acons_of rfl rfl)) (w__law_vector (3 : Int))) (fun r_8 r_9 => rf_pq (e := (eT (eP eS PyData.int))) (fun hc_10 => (v__law_join r_8 r_9 hc_10)))) (rf_acons (rf_pq (e := (eT (eP eS PyData.int))) (v := ([] : List (SS × Int))) (fun hc_11 => (vTup (e := (eP eS PyData.int)) (l := ([] : List (SS × Int))) (vNil (eP eS PyData.int)) (by simp)))) (rf_nil (e := (eT (eP eS PyData.int))))))))) (rf_draw (fun hc_22 => (acons_of rfl rfl))) (fun r_21 r_23 => (fun hc_24 => (vIxL (e := (eT (eP eS PyData.int))) rfl rfl hc_24)))) (fun other_25 => (rf_bind (e := (eT (eP eS PyData.int))) (rf_call (fun hc_26 => (acons_of rfl rfl)) (w__law_vector (5 : Int))) (fun third_27 => (rf_if (fun hc_129 => (not_of (tst_of (call_of (acons_of rfl rfl) (v__law_wrong one_3 hc_129))) rfl)) (fun _ => (rf_pq (e := PyData.bool) (v := false) (fun hc_28 => rfl))) (fun _ => (rf_loopX (a := (eP (eT (eP eS PyData.int)) (eT (eP eS PyData.int)))) (es := (fun (_ : Unit) => ())) (ed := PyData.bool) (er := PyData.bool) (g := W_law_b1) (j := (fun (q : Bool) => q)) (fun hc_127 => (vSeqL (vLst (e := (eP (eT (eP eS PyData.int)) (eT (eP eS PyData.int)))) (l := ([(one_3, other_25), (other_25, one_3), (one_3, one_3), (third_27, one_3)] : List ((List (SS × Int)) × (List (SS × Int))))) (vCons (vPr (e := (eT (eP eS PyData.int))) (f := (eT (eP eS PyData.int))) rfl rfl) (vCons (vPr (e := (eT (eP eS PyData.int))) (f := (eT (eP eS PyData.int))) rfl rfl) (vCons (vPr (e := (eT (eP eS PyData.int))) (f := (eT (eP eS PyData.int))) rfl rfl) (vCons (vPr (e := (eT (eP eS PyData.int))) (f := (eT (eP eS PyData.int))) rfl rfl) (vNil (eP (eT (eP eS PyData.int)) (eT (eP eS PyData.int)))))))) (by simp)))) () (fun s_29 a_30 => show Rf (LRm (fun (_ : Unit) => ()) PyData.bool) _ (wP ((C_join a_30.1 a_30.2) ∧ (let told_31 : (List (SS × Int)) := (V_join a_30.1 a_30.2); ((C__law_join a_30.1 a_30.2) ∧ (let due_33 : (List (SS × Int)) := (V__law_join a_30.1 a_30.2); ((vecC ((eT (eP eS PyData.int)) told_31)) ∧ ((!((vecB ((eT (eP eS PyData.int)) told_31)) == true)) = false → ((!decide (told_31 = due_33)) = false → (C__law_at_most a_30.1 a_30.2))) ∧ (((!((vecB ((eT (eP eS PyData.int)) told_31)) == true)) || ((!decide (told_31 = due_33)) || (!(V__law_same (V_at_most a_30.1 a_30.2) (V__law_at_most a_30.1 a_30.2))))) = false → (let word_37 : SS := (ss "beside"); ((decide (a_30.1 = a_30.2) = false → ((C__law_at_most a_30.1 a_30.2) ∧ ((V__law_at_most a_30.1 a_30.2) = false → (C__law_at_most a_30.2 a_30.1)))) ∧ (let j_86 : SS := (if decide (a_30.1 = a_30.2) = true then (let word_62 : SS := (ss "same"); word_62) else (let j_83 : SS := (if (V__law_at_most a_30.1 a_30.2) = true then (let word_73 : SS := (ss "older"); word_73) else (let j_80 : SS := (if (V__law_at_most a_30.2 a_30.1) = true then (let word_77 : SS := (ss "newer"); word_77) else word_37); j_80)); j_83)); ((!decide ((V_compare a_30.1 a_30.2) = j_86)) = false → ((!((V_at_most a_30.1 told_31) == true)) = false → ((!((V_at_most a_30.2 told_31) == true)) = false → (C_join told_31 a_30.2))))))))))))) ((let told_31 : (List (SS × Int)) := (V_join a_30.1 a_30.2); (let due_33 : (List (SS × Int)) := (V__law_join a_30.1 a_30.2); (if ((!((vecB ((eT (eP eS PyData.int)) told_31)) == true)) || ((!decide (told_31 = due_33)) || (!(V__law_same (V_at_most a_30.1 a_30.2) (V__law_at_most a_30.1 a_30.2))))) = true then (LR.rt false) else (let word_37 : SS := (ss "beside"); (let j_86 : SS := (if decide (a_30.1 = a_30.2) = true then (let word_62 : SS := (ss "same"); word_62) else (let j_83 : SS := (if (V__law_at_most a_30.1 a_30.2) = true then (let word_73 : SS := (ss "older"); word_73) else (let j_80 : SS := (if (V__law_at_most a_30.2 a_30.1) = true then (let word_77 : SS := (ss "newer"); word_77) else word_37); j_80)); j_83)); (if ((!decide ((V_compare a_30.1 a_30.2) = j_86)) || ((!((V_at_most a_30.1 told_31) == true)) || ((!((V_at_most a_30.2 told_31) == true)) || (!decide ((V_join told_31 a_30.2) = told_31))))) = true then (LR.rt false) else (LR.nx ()))))))))) from (rf_skip0 rfl (rf_pq (e := (LRm (fun (_ : Unit) => ()) PyData.bool)) (v := (let told_31 : (List (SS × Int)) := (V_join a_30.1 a_30.2); (let due_33 : (List (SS × Int)) := (V__law_join a_30.1 a_30.2); (if ((!((vecB ((eT (eP eS PyData.int)) told_31)) == true)) || ((!decide (told_31 = due_33)) || (!(V__law_same (V_at_most a_30.1 a_30.2) (V__law_at_most a_30.1 a_30.2))))) = true then (LR.rt false) else (let word_37 : SS := (ss "beside"); (let j_86 : SS := (if decide (a_30.1 = a_30.2) = true then (let word_62 : SS := (ss "same"); word_62) else (let j_83 : SS := (if (V__law_at_most a_30.1 a_30.2) = true then (let word_73 : SS := (ss "older"); word_73) else (let j_80 : SS := (if (V__law_at_most a_30.2 a_30.1) = true then (let word_77 : SS := (ss "newer"); word_77) else word_37); j_80)); j_83)); (if ((!decide ((V_compare a_30.1 a_30.2) = j_86)) || ((!((V_at_most a_30.1 told_31) == true)) || ((!((V_at_most a_30.2 told_31) == true)) || (!decide ((V_join told_31 a_30.2) = told_31))))) = true then (LR.rt false) else (LR.nx ())))))))) (fun hc_93 => (bind_v (e := (eT (eP eS PyData.int))) (v := (V_join a_30.1 a_30.2)) (r := fun (told_31 : (List (SS × Int))) => PR.ok (LRm (fun (_ : Unit) => ()) PyData.bool (let due_33 : (List (SS × Int)) := (V__law_join a_30.1 a_30.2); (if ((!((vecB ((eT (eP eS PyData.int)) told_31)) == true)) || ((!decide (told_31 = due_33)) || (!(V__law_same (V_at_most a_30.1 a_30.2) (V__law_at_most a_30.1 a_30.2))))) = true then (LR.rt false) else (let word_37 : SS := (ss "beside"); (let j_86 : SS := (if decide (a_30.1 = a_30.2) = true then (let word_62 : SS := (ss "same"); word_62) else (let j_83 : SS := (if (V__law_at_most a_30.1 a_30.2) = true then (let word_73 : SS := (ss "older"); word_73) else (let j_80 : SS := (if (V__law_at_most a_30.2 a_30.1) = true then (let word_77 : SS := (ss "newer"); word_77) else word_37); j_80)); j_83)); (if ((!decide ((V_compare a_30.1 a_30.2) = j_86)) || ((!((V_at_most a_30.1 told_31) == true)) || ((!((V_at_most a_30.2 told_31) == true)) || (!decide ((V_join told_31 a_30.2) = told_31))))) = true then (LR.rt false) else (LR.nx ())))))))) (C := (fun (told_31 : (List (SS × Int))) => ((C__law_join a_30.1 a_30.2) ∧ (let due_33 : (List (SS × Int)) := (V__law_join a_30.1 a_30.2); ((vecC ((eT (eP eS PyData.int)) told_31)) ∧ ((!((vecB ((eT (eP eS PyData.int)) told_31)) == true)) = false → ((!decide (told_31 = due_33)) = false → (C__law_at_most a_30.1 a_30.2))) ∧ (((!((vecB ((eT (eP eS PyData.int)) told_31)) == true)) || ((!decide (told_31 = due_33)) || (!(V__law_same (V_at_most a_30.1 a_30.2) (V__law_at_most a_30.1 a_30.2))))) = false → (let word_37 : SS := (ss "beside"); ((decide (a_30.1 = a_30.2) = false → ((C__law_at_most a_30.1 a_30.2) ∧ ((V__law_at_most a_30.1 a_30.2) = false → (C__law_at_most a_30.2 a_30.1)))) ∧ (let j_86 : SS := (if decide (a_30.1 = a_30.2) = true then (let word_62 : SS := (ss "same"); word_62) else (let j_83 : SS := (if (V__law_at_most a_30.1 a_30.2) = true then (let word_73 : SS := (ss "older"); word_73) else (let j_80 : SS := (if (V__law_at_most a_30.2 a_30.1) = true then (let word_77 : SS := (ss "newer"); word_77) else word_37); j_80)); j_83)); ((!decide ((V_compare a_30.1 a_30.2) = j_86)) = false → ((!((V_at_most a_30.1 told_31) == true)) = false → ((!((V_at_most a_30.2 told_31) == true)) = false → (C_join told_31 a_30.2))))))))))))) (call_of (acons_of rfl (acons_of rfl rfl)) (v_join a_30.1 a_30.2 hc_93.1)) (fun told_31 hc_32 => (bind_v (e := (eT (eP eS PyData.int))) (v := (V__law_join a_30.1 a_30.2)) (r := fun (due_33 : (List (SS × Int))) => PR.ok (LRm (fun (_ : Unit) => ()) PyData.bool (if ((!((vecB ((eT (eP eS PyData.int)) told_31)) == true)) || ((!decide (told_31 = due_33)) || (!(V__law_same (V_at_most a_30.1 a_30.2) (V__law_at_most a_30.1 a_30.2))))) = true then (LR.rt false) else (let word_37 : SS := (ss "beside"); (let j_86 : SS := (if decide (a_30.1 = a_30.2) = true then (let word_62 : SS := (ss "same"); word_62) else (let j_83 : SS := (if (V__law_at_most a_30.1 a_30.2) = true then (let word_73 : SS := (ss "older"); word_73) else (let j_80 : SS := (if (V__law_at_most a_30.2 a_30.1) = true then (let word_77 : SS := (ss "newer"); word_77) else word_37); j_80)); j_83)); (if ((!decide ((V_compare a_30.1 a_30.2) = j_86)) || ((!((V_at_most a_30.1 told_31) == true)) || ((!((V_at_most a_30.2 told_31) == true)) || (!decide ((V_join told_31 a_30.2) = told_31))))) = true then (LR.rt false) else (LR.nx ()))))))) (C := (fun (due_33 : (List (SS × Int))) => ((vecC ((eT (eP eS PyData.int)) told_31)) ∧ ((!((vecB ((eT (eP eS PyData.int)) told_31)) == true)) = false → ((!decide (told_31 = due_33)) = false → (C__law_at_most a_30.1 a_30.2))) ∧ (((!((vecB ((eT (eP eS PyData.int)) told_31)) == true)) || ((!decide (told_31 = due_33)) || (!(V__law_same (V_at_most a_30.1 a_30.2) (V__law_at_most a_30.1 a_30.2))))) = false → (let word_37 : SS := (ss "beside"); ((decide (a_30.1 = a_30.2) = false → ((C__law_at_most a_30.1 a_30.2) ∧ ((V__law_at_most a_30.1 a_30.2) = false → (C__law_at_most a_30.2 a_30.1)))) ∧ (let j_86 : SS := (if decide (a_30.1 = a_30.2) = true then (let word_62 : SS := (ss "same"); word_62) else (let j_83 : SS := (if (V__law_at_most a_30.1 a_30.2) = true then (let word_73 : SS := (ss "older"); word_73) else (let j_80 : SS := (if (V__law_at_most a_30.2 a_30.1) = true then (let word_77 : SS := (ss "newer"); word_77) else word_37); j_80)); j_83)); ((!decide ((V_compare a_30.1 a_30.2) = j_86)) = false → ((!((V_at_most a_30.1 told_31) == true)) = false → ((!((V_at_most a_30.2 told_31) == true)) = false → (C_join told_31 a_30.2))))))))))) (call_of (acons_of rfl (acons_of rfl rfl)) (v__law_join a_30.1 a_30.2 hc_32.1)) (fun due_33 hc_34 => (if_v (w := (fun z => PR.ok (LRm (fun (_ : Unit) => ()) PyData.bool z))) (or_of (tst_of ((vIsB (t := true) (call_of (acons_of rfl rfl) (v_vec ((eT (eP eS PyData.int)) told_31) hc_34.1)) rfl).trans (by simp))) (fun h_36 => (or_of (tst_of (vNe (EncOk.tup (EncOk.pair (enc_ss.up (by decide)) (enc_int.up (by decide)) : EncOk 1 (eP eS PyData.int)) : EncOk 2 (eT (eP eS PyData.int))) (by decide) rfl rfl)) (fun h_35 => (not_of (tst_of (call_of (acons_of (call_of (acons_of rfl (acons_of rfl rfl)) (v_at_most a_30.1 a_30.2)) (acons_of (call_of (acons_of rfl (acons_of rfl rfl)) (v__law_at_most a_30.1 a_30.2 ((hc_34.2.1 h_36) h_35))) rfl)) (v__law_same (V_at_most a_30.1 a_30.2) (V__law_at_most a_30.1 a_30.2)))) rfl)) rfl)) rfl) (fun h_92 => rfl) (fun h_92 => (bind_v (e := eS) (v := (ss "beside")) (r := fun (word_37 : SS) => PR.ok (LRm (fun (_ : Unit) => ()) PyData.bool (let j_86 : SS := (if decide (a_30.1 = a_30.2) = true then (let word_62 : SS := (ss "same"); word_62) else (let j_83 : SS := (if (V__law_at_most a_30.1 a_30.2) = true then (let word_73 : SS := (ss "older"); word_73) else (let j_80 : SS := (if (V__law_at_most a_30.2 a_30.1) = true then (let word_77 : SS := (ss "newer"); word_77) else word_37); j_80)); j_83)); (if ((!decide ((V_compare a_30.1 a_30.2) = j_86)) || ((!((V_at_most a_30.1 told_31) == true)) || ((!((V_at_most a_30.2 told_31) == true)) || (!decide ((V_join told_31 a_30.2) = told_31))))) = true then (LR.rt false) else (LR.nx ()))))) (C := (fun (word_37 : SS) => ((decide (a_30.1 = a_30.2) = false → ((C__law_at_most a_30.1 a_30.2) ∧ ((V__law_at_most a_30.1 a_30.2) = false → (C__law_at_most a_30.2 a_30.1)))) ∧ (let j_86 : SS := (if decide (a_30.1 = a_30.2) = true then (let word_62 : SS := (ss "same"); word_62) else (let j_83 : SS := (if (V__law_at_most a_30.1 a_30.2) = true then (let word_73 : SS := (ss "older"); word_73) else (let j_80 : SS := (if (V__law_at_most a_30.2 a_30.1) = true then (let word_77 : SS := (ss "newer"); word_77) else word_37); j_80)); j_83)); ((!decide ((V_compare a_30.1 a_30.2) = j_86)) = false → ((!((V_at_most a_30.1 told_31) == true)) = false → ((!((V_at_most a_30.2 told_31) == true)) = false → (C_join told_31 a_30.2)))))))) rfl (fun word_37 hc_38 => (bind_v (e := (fun (z : SS) => eS z)) (v := (if decide (a_30.1 = a_30.2) = true then (let word_62 : SS := (ss "same"); word_62) else (let j_83 : SS := (if (V__law_at_most a_30.1 a_30.2) = true then (let word_73 : SS := (ss "older"); word_73) else (let j_80 : SS := (if (V__law_at_most a_30.2 a_30.1) = true then (let word_77 : SS := (ss "newer"); word_77) else word_37); j_80)); j_83))) (r := fun (j_86 : SS) => PR.ok (LRm (fun (_ : Unit) => ()) PyData.bool (if ((!decide ((V_compare a_30.1 a_30.2) = j_86)) || ((!((V_at_most a_30.1 told_31) == true)) || ((!((V_at_most a_30.2 told_31) == true)) || (!decide ((V_join told_31 a_30.2) = told_31))))) = true then (LR.rt false) else (LR.nx ())))) (C := (fun (j_86 : SS) => ((!decide ((V_compare a_30.1 a_30.2) = j_86)) = false → ((!((V_at_most a_30.1 told_31) == true)) = false → ((!((V_at_most a_30.2 told_31) == true)) = false → (C_join told_31 a_30.2)))))) (if_v (w := (fun z => PR.ok ((fun (z : SS) => eS z) z))) (tst_of (vEq (EncOk.tup (EncOk.pair (enc_ss.up (by decide)) (enc_int.up (by decide)) : EncOk 1 (eP eS PyData.int)) : EncOk 2 (eT (eP eS PyData.int))) (by decide) rfl rfl)) (fun h_85 => (bind_v (e := eS) (v := (ss "same")) (r := fun (word_62 : SS) => PR.ok ((fun (z : SS) => eS z) word_62)) (C := (fun (word_62 : SS) => True)) rfl (fun word_62 hc_63 => rfl) trivial)) (fun h_85 => (bind_v (e := (fun (z : SS) => eS z)) (v := (if (V__law_at_most a_30.1 a_30.2) = true then (let word_73 : SS := (ss "older"); word_73) else (let j_80 : SS := (if (V__law_at_most a_30.2 a_30.1) = true then (let word_77 : SS := (ss "newer"); word_77) else word_37); j_80))) (r := fun (j_83 : SS) => PR.ok ((fun (z : SS) => eS z) j_83)) (C := (fun (j_83 : SS) => True)) (if_v (w := (fun z => PR.ok ((fun (z : SS) => eS z) z))) (tst_of (call_of (acons_of rfl (acons_of rfl rfl)) (v__law_at_most a_30.1 a_30.2 (hc_38.1 h_85).1))) (fun h_82 => (bind_v (e := eS) (v := (ss "older")) (r := fun (word_73 : SS) => PR.ok ((fun (z : SS) => eS z) word_73)) (C := (fun (word_73 : SS) => True)) rfl (fun word_73 hc_74 => rfl) trivial)) (fun h_82 => (bind_v (e := (fun (z : SS) => eS z)) (v := (if (V__law_at_most a_30.2 a_30.1) = true then (let word_77 : SS := (ss "newer"); word_77) else word_37)) (r := fun (j_80 : SS) => PR.ok ((fun (z : SS) => eS z) j_80)) (C := (fun (j_80 : SS) => True)) (if_v (w := (fun z => PR.ok ((fun (z : SS) => eS z) z))) (tst_of (call_of (acons_of rfl (acons_of rfl rfl)) (v__law_at_most a_30.2 a_30.1 ((hc_38.1 h_85).2 h_82)))) (fun h_79 => (bind_v (e := eS) (v := (ss "newer")) (r := fun (word_77 : SS) => PR.ok ((fun (z : SS) => eS z) word_77)) (C := (fun (word_77 : SS) => True)) rfl (fun word_77 hc_78 => rfl) trivial)) (fun h_79 => rfl)) (fun j_80 hc_81 => rfl) trivial))) (fun j_83 hc_84 => rfl) trivial))) (fun j_86 hc_87 => (if_v (w := (fun z => PR.ok (LRm (fun (_ : Unit) => ()) PyData.bool z))) (or_of (tst_of (vNe enc_ss (by decide) (call_of (acons_of rfl (acons_of rfl rfl)) (v_compare a_30.1 a_30.2)) rfl)) (fun h_90 => (or_of (tst_of ((vIsB (t := true) (call_of (acons_of rfl (acons_of rfl rfl)) (v_at_most a_30.1 told_31)) rfl).trans (by simp))) (fun h_89 => (or_of (tst_of ((vIsB (t := true) (call_of (acons_of rfl (acons_of rfl rfl)) (v_at_most a_30.2 told_31)) rfl).trans (by simp))) (fun h_88 => (tst_of (vNe (EncOk.tup (EncOk.pair (enc_ss.up (by decide)) (enc_int.up (by decide)) : EncOk 1 (eP eS PyData.int)) : EncOk 2 (eT (eP eS PyData.int))) (by decide) (call_of (acons_of rfl (acons_of rfl rfl)) (v_join told_31 a_30.2 (((hc_87 h_90) h_89) h_88))) rfl))) rfl)) rfl)) rfl) (fun h_91 => rfl) (fun h_91 => rfl))) hc_38.2)) (hc_34.2.2 h_92))))) hc_32.2)) hc_93.2))))) (fun _ => rfl) (fun s_94 => (rf_if (fun hc_126 => (or_of (tst_of (vNe (EncOk.tup (EncOk.pair (enc_ss.up (by decide)) (enc_int.up (by decide)) : EncOk 1 (eP eS PyData.int)) : EncOk 2 (eT (eP eS PyData.int))) (by decide) (call_of (acons_of (call_of (acons_of rfl (acons_of rfl rfl)) (v_join one_3 other_25 hc_126.1)) (acons_of rfl rfl)) (v_join (V_join one_3 other_25) third_27 hc_126.2.1)) (call_of (acons_of rfl (acons_of (call_of (acons_of rfl (acons_of rfl rfl)) (v_join other_25 third_27 hc_126.2.2.1)) rfl)) (v_join one_3 (V_join other_25 third_27) hc_126.2.2.2.1)))) (fun h_125 => (tst_of (vNe (EncOk.tup (EncOk.pair (enc_ss.up (by decide)) (enc_int.up (by decide)) : EncOk 1 (eP eS PyData.int)) : EncOk 2 (eT (eP eS PyData.int))) (by decide) (call_of (acons_of rfl (acons_of rfl rfl)) (v_join one_3 other_25 (hc_126.2.2.2.2 h_125).1)) (call_of (acons_of rfl (acons_of rfl rfl)) (v_join other_25 one_3 (hc_126.2.2.2.2 h_125).2))))) rfl)) (fun _ => (rf_pq (e := PyData.bool) (v := false) (fun hc_95 => rfl))) (fun _ => (rf_let (e := (eT (eP eS PyData.int))) (fun hc_124 => (call_of (acons_of (call_of (acons_of rfl (acons_of rfl rfl)) (v__law_join one_3 other_25 hc_124.1)) (acons_of rfl rfl)) (v__law_join (V__law_join one_3 other_25) third_27 hc_124.2))) (fun above_96 => (rf_if (fun hc_123 => (tst_of ((vIsB (t := true) (call_of (acons_of (call_of (acons_of rfl (acons_of rfl rfl)) (v_join one_3 other_25 hc_123)) (acons_of rfl rfl)) (v_at_most (V_join one_3 other_25) above_96)) rfl).trans (by simp)))) (fun _ => (rf_pq (e := PyData.bool) (v := false) (fun hc_97 => rfl))) (fun _ => (rf_bind (e := eS) (rf_b2l (a := (eL eS) ([(ss "a"), (ss "c"), (ss "h"), (ss "zed")] : List SS)) (e2 := PyData.int) (e3 := eS) (C := fun (r_99 : Int) => (IxOk ([(ss "a"), (ss "c"), (ss "h"), (ss "zed")] : List SS) r_99)) (v := fun (r_99 : Int) => (gI ([(ss "a"), (ss "c"), (ss "h"), (ss "zed")] : List SS) r_99)) (fun hc_100 => (vLst (e := eS) (l := ([(ss "a"), (ss "c"), (ss "h"), (ss "zed")] : List SS)) (vCons rfl (vCons rfl (vCons rfl (vCons rfl (vNil eS))))) (by simp))) (rf_draw (fun hc_98 => (acons_of rfl rfl))) (fun r_99 => (fun hc_101 => (vIxL (e := eS) rfl rfl hc_101)))) (fun node_102 => (rf_bind (e := PyData.int) (rf_b2l (a := PyData.int (1 : Int)) (e2 := PyData.int) (e3 := PyData.int) (C := fun (r_104 : Int) => True) (v := fun (r_104 : Int) => ((1 : Int) + r_104)) (fun hc_105 => rfl) (rf_draw (fun hc_103 => (acons_of rfl rfl))) (fun r_104 => (fun hc_106 => (vAdd rfl rfl)))) (fun more_107 => (rf_pq (e := PyData.bool) (v := (if (decide ((V__law_number one_3 node_102) < (999999990 : Int)) && decide ((one_3.length : Int) < (8 : Int))) = true then (let told_109 : (List (SS × Int)) := (V_raised one_3 node_102 more_107); (let due_114 : (List (SS × Int)) := (sortV (eP eS PyData.int) ((one_3.filter (fun (a_111 : (SS × Int)) => (!decide (a_111.1 = node_102)))) ++ ([(node_102, ((V__law_number one_3 node_102) + more_107))] : List (SS × Int)))); (if ((!decide (told_109 = due_114)) || ((!((vecB ((eT (eP eS PyData.int)) told_109)) == true)) || (!decide ((V_number_of told_109 node_102) = ((V__law_number one_3 node_102) + more_107))))) = true then false else ((V__law_int (V_number_of one_3 node_102)) && decide ((V_number_of one_3 node_102) = (V__law_number one_3 node_102)))))) else ((V__law_int (V_number_of one_3 node_102)) && decide ((V_number_of one_3 node_102) = (V__law_number one_3 node_102))))) (fun hc_122 => (if_v (w := (fun z => PR.ok (PyData.bool (z)))) (and_of (tst_of (vLt (call_of (acons_of rfl (acons_of rfl rfl)) (v__law_number one_3 node_102 hc_122.1)) rfl)) (fun h_108 => (tst_of (vLt (vLenT rfl) rfl))) rfl) (fun h_121 => (bind_v (e := (eT (eP eS PyData.int))) (v := (V_raised one_3 node_102 more_107)) (r := fun (told_109 : (List (SS × Int))) => PR.ok (PyData.bool ((let due_114 : (List (SS × Int)) := (sortV (eP eS PyData.int) ((one_3.filter (fun (a_111 : (SS × Int)) => (!decide (a_111.1 = node_102)))) ++ ([(node_102, ((V__law_number one_3 node_102) + more_107))] : List (SS × Int)))); (if ((!decide (told_109 = due_114)) || ((!((vecB ((eT (eP eS PyData.int)) told_109)) == true)) || (!decide ((V_number_of told_109 node_102) = ((V__law_number one_3 node_102) + more_107))))) = true then false else ((V__law_int (V_number_of one_3 node_102)) && decide ((V_number_of one_3 node_102) = (V__law_number one_3 node_102)))))))) (C := (fun (told_109 : (List (SS × Int))) => ((one_3.length ≤ 2000000) ∧ (C__law_number one_3 node_102) ∧ ((one_3.filter (fun (a_111 : (SS × Int)) => (!decide (a_111.1 = node_102)))).length + ([(node_102, ((V__law_number one_3 node_102) + more_107))] : List (SS × Int)).length ≤ 2000000) ∧ (sortOk (((one_3.filter (fun (a_111 : (SS × Int)) => (!decide (a_111.1 = node_102)))) ++ ([(node_102, ((V__law_number one_3 node_102) + more_107))] : List (SS × Int))).map (eP eS PyData.int)) = true) ∧ (let due_114 : (List (SS × Int)) := (sortV (eP eS PyData.int) ((one_3.filter (fun (a_111 : (SS × Int)) => (!decide (a_111.1 = node_102)))) ++ ([(node_102, ((V__law_number one_3 node_102) + more_107))] : List (SS × Int)))); (((!decide (told_109 = due_114)) = false → ((vecC ((eT (eP eS PyData.int)) told_109)) ∧ ((!((vecB ((eT (eP eS PyData.int)) told_109)) == true)) = false → (C__law_number one_3 node_102)))) ∧ (((!decide (told_109 = due_114)) || ((!((vecB ((eT (eP eS PyData.int)) told_109)) == true)) || (!decide ((V_number_of told_109 node_102) = ((V__law_number one_3 node_102) + more_107))))) = false → ((V__law_int (V_number_of one_3 node_102)) = true → (C__law_number one_3 node_102)))))))) (call_of (acons_of rfl (acons_of rfl (acons_of rfl rfl))) (v_raised one_3 node_102 more_107 (hc_122.2.1 h_121).1)) (fun told_109 hc_110 => (bind_v (e := (eT (eP eS PyData.int))) (v := (sortV (eP eS PyData.int) ((one_3.filter (fun (a_111 : (SS × Int)) => (!decide (a_111.1 = node_102)))) ++ ([(node_102, ((V__law_number one_3 node_102) + more_107))] : List (SS × Int))))) (r := fun (due_114 : (List (SS × Int))) => PR.ok (PyData.bool ((if ((!decide (told_109 = due_114)) || ((!((vecB ((eT (eP eS PyData.int)) told_109)) == true)) || (!decide ((V_number_of told_109 node_102) = ((V__law_number one_3 node_102) + more_107))))) = true then false else ((V__law_int (V_number_of one_3 node_102)) && decide ((V_number_of one_3 node_102) = (V__law_number one_3 node_102))))))) (C := (fun (due_114 : (List (SS × Int))) => (((!decide (told_109 = due_114)) = false → ((vecC ((eT (eP eS PyData.int)) told_109)) ∧ ((!((vecB ((eT (eP eS PyData.int)) told_109)) == true)) = false → (C__law_number one_3 node_102)))) ∧ (((!decide (told_109 = due_114)) || ((!((vecB ((eT (eP eS PyData.int)) told_109)) == true)) || (!decide ((V_number_of told_109 node_102) = ((V__law_number one_3 node_102) + more_107))))) = false → ((V__law_int (V_number_of one_3 node_102)) = true → (C__law_number one_3 node_102)))))) (vTupL (vSrtL (vCatL (e := (eP eS PyData.int)) (vFil (e := (eP eS PyData.int)) (c := (fun (a_111 : (SS × Int)) => (!decide (a_111.1 = node_102)))) (vSeqT rfl) hc_110.1 (fun a_111 h_113 => stP_of (tst_of (vNe enc_ss (by decide) (vP0 rfl) rfl)) (fun h_112 => rfl))) (vLst (e := (eP eS PyData.int)) (l := ([(node_102, ((V__law_number one_3 node_102) + more_107))] : List (SS × Int))) (vCons (vPr (e := eS) (f := PyData.int) rfl (vAdd (call_of (acons_of rfl (acons_of rfl rfl)) (v__law_number one_3 node_102 hc_110.2.1)) rfl)) (vNil (eP eS PyData.int))) (by simp)) hc_110.2.2.1) hc_110.2.2.2.1)) (fun due_114 hc_115 => (if_v (w := (fun z => PR.ok (PyData.bool (z)))) (or_of (tst_of (vNe (EncOk.tup (EncOk.pair (enc_ss.up (by decide)) (enc_int.up (by decide)) : EncOk 1 (eP eS PyData.int)) : EncOk 2 (eT (eP eS PyData.int))) (by decide) rfl rfl)) (fun h_117 => (or_of (tst_of ((vIsB (t := true) (call_of (acons_of rfl rfl) (v_vec ((eT (eP eS PyData.int)) told_109) (hc_115.1 h_117).1)) rfl).trans (by simp))) (fun h_116 => (tst_of (vNe enc_int (by decide) (call_of (acons_of rfl (acons_of rfl rfl)) (v_number_of told_109 node_102)) (vAdd (call_of (acons_of rfl (acons_of rfl rfl)) (v__law_number one_3 node_102 ((hc_115.1 h_117).2 h_116))) rfl)))) rfl)) rfl) (fun h_119 => rfl) (fun h_119 => (vand_of (call_of (acons_of (call_of (acons_of rfl (acons_of rfl rfl)) (v_number_of one_3 node_102)) rfl) (v__law_int (V_number_of one_3 node_102))) (fun h_118 => (vEq enc_int (by decide) (call_of (acons_of rfl (acons_of rfl rfl)) (v_number_of one_3 node_102)) (call_of (acons_of rfl (acons_of rfl rfl)) (v__law_number one_3 node_102 ((hc_115.2 h_119) h_118))))) rfl)))) hc_110.2.2.2.2)) (hc_122.2.1 h_121).2)) (fun h_121 => (vand_of (call_of (acons_of (call_of (acons_of rfl (acons_of rfl rfl)) (v_number_of one_3 node_102)) rfl) (v__law_int (V_number_of one_3 node_102))) (fun h_120 => (vEq enc_int (by decide) (call_of (acons_of rfl (acons_of rfl rfl)) (v_number_of one_3 node_102)) (call_of (acons_of rfl (acons_of rfl rfl)) (v__law_number one_3 node_102 ((hc_122.2.2 h_121) h_120))))) rfl)))))))))))))))))))))))))))
end Q57


namespace VC
open PySem ZD ZP Q57
theorem nm_pw : NM.Pairwise fun a b => ltS a b = true := by decide +kernel
theorem ltS_ne {a b : SS} (h : ltS a b = true) : a ≠ b := fun e => by rw [e, ltS_irr] at h; cases h
theorem nm_nodup : NM.Nodup := nm_pw.imp fun h => ltS_ne h
/-- numbers of names, in their order -/
def cn (m : SS → Int) : List (SS × Int) := (NM.filter fun k => decide (0 < m k)).map fun k => (k, m k)
def mg (D : List (SS × Int)) (k : SS) : Int := (getL D k).getD 0
theorem mem_cn {m : SS → Int} {q : SS × Int} : q ∈ cn m ↔ q.1 ∈ NM ∧ 0 < m q.1 ∧ q.2 = m q.1 := by
  unfold cn
  rw [List.mem_map]
  constructor
  · rintro ⟨k, hk, rfl⟩
    obtain ⟨h1, h2⟩ := List.mem_filter.mp hk
    exact ⟨h1, of_decide_eq_true h2, rfl⟩
  · rintro ⟨h1, h2, h3⟩
    exact ⟨q.1, List.mem_filter.mpr ⟨h1, decide_eq_true h2⟩, by rw [← h3]⟩
theorem cn_keys (m : SS → Int) : (cn m).map (·.1) = NM.filter fun k => decide (0 < m k) := by
  unfold cn
  rw [List.map_map]
  exact List.map_id' _
theorem cn_knd (m : SS → Int) : ((cn m).map (·.1)).Nodup := by rw [cn_keys]; exact nm_nodup.filter _
theorem nd_of {D : List (SS × Int)} (h : (D.map (·.1)).Nodup) : D.Nodup := by
  have := List.pairwise_map.mp h
  exact this.imp fun h e => h (by rw [e])
theorem cn_nd (m : SS → Int) : (cn m).Nodup := nd_of (cn_knd m)
theorem cn_len (m : SS → Int) : (cn m).length ≤ 9 := by
  unfold cn
  rw [List.length_map]
  exact List.length_filter_le _ _
theorem cn_pw (m : SS → Int) : (cn m).Pairwise fun a b => leE (eP eS PyData.int) b a = false := by
  unfold cn
  refine List.pairwise_map.mpr (List.Pairwise.imp_of_mem ?_ (nm_pw.filter _))
  intro a b ha hb h
  rw [leE_si (b, m b) (a, m a) (ltS_ne h).symm, h]; rfl
/-- what a row of pairs with different names says -/
structure Rep (D : List (SS × Int)) (m : SS → Int) : Prop where
  nd : (D.map (·.1)).Nodup
  inn : ∀ q ∈ D, q.1 ∈ NM ∧ 0 < q.2
  get : ∀ k, mg D k = m k
theorem get_mem {D : List (SS × Int)} (h : (D.map (·.1)).Nodup) {k : SS} {z : Int} : getL D k = some z ↔ (k, z) ∈ D := by
  unfold getL
  induction D with
  | nil => simp
  | cons q D ih =>
    rw [List.map_cons, List.nodup_cons] at h
    rw [List.find?_cons]
    by_cases e : q.1 = k
    · rw [decide_eq_true e]
      simp only [Option.map_some, Option.some.injEq, List.mem_cons]
      constructor
      · rintro rfl; exact .inl (by rw [← e])
      · rintro (e2 | hm)
        · rw [← e2]
        · exact absurd (List.mem_map.mpr ⟨_, hm, rfl⟩) (by rw [← e] at *; exact h.1)
    · rw [decide_eq_false e]
      simp only
      rw [ih h.2, List.mem_cons]
      exact ⟨.inr, fun h => h.resolve_left fun e2 => e (by rw [← e2])⟩
theorem Rep.perm {D : List (SS × Int)} {m : SS → Int} (r : Rep D m) : D.Perm (cn m) := (List.perm_ext_iff_of_nodup (nd_of r.nd) (cn_nd m)).mpr fun q => by
  rw [mem_cn]
  constructor
  · intro hq
    have h1 : getL D q.1 = some q.2 := (get_mem r.nd).mpr hq
    have h2 : m q.1 = q.2 := by rw [← r.get]; unfold mg; rw [h1]; rfl
    rw [h2]
    exact ⟨(r.inn q hq).1, (r.inn q hq).2, rfl⟩
  · rintro ⟨_, h2, h3⟩
    have h4 := r.get q.1
    unfold mg at h4
    cases hg : getL D q.1 with
    | none => rw [hg] at h4; simp at h4; omega
    | some z =>
      rw [hg] at h4
      have : z = q.2 := by rw [h3, ← h4]; rfl
      subst this
      exact (get_mem r.nd).mp hg
theorem Rep.sort {D : List (SS × Int)} {m : SS → Int} (r : Rep D m) : sortV (eP eS PyData.int) D = cn m := sortV_of r.perm (cn_pw m)
theorem Rep.len {D : List (SS × Int)} {m : SS → Int} (r : Rep D m) : D.length ≤ 9 := by rw [r.perm.length_eq]; exact cn_len m
/-- numbers that are told of names -/
structure Mv (m : SS → Int) : Prop where
  nn : ∀ k, 0 ≤ m k
  out : ∀ k, k ∉ NM → m k = 0
theorem cn_rep {m : SS → Int} (h : Mv m) : Rep (cn m) m := ⟨cn_knd m, fun q hq => ⟨(mem_cn.mp hq).1, by rw [(mem_cn.mp hq).2.2]; exact (mem_cn.mp hq).2.1⟩, fun k => by
  unfold mg
  cases hg : getL (cn m) k with
  | some z => exact (mem_cn.mp ((get_mem (cn_knd m)).mp hg)).2.2
  | none =>
    show (0 : Int) = m k
    by_cases hk : k ∈ NM
    · have h0 := h.nn k
      rcases Int.lt_or_eq_of_le h0 with h1 | h1
      · have := (get_mem (cn_knd m)).mpr (mem_cn.mpr ⟨hk, h1, rfl⟩ : (k, m k) ∈ cn m)
        rw [hg] at this; cases this
      · exact h1
    · exact (h.out k hk).symm⟩
theorem Rep.mv {D : List (SS × Int)} {m : SS → Int} (r : Rep D m) : Mv m := ⟨fun k => by
  rw [← r.get]; unfold mg
  cases hg : getL D k with
  | none => exact Int.le_refl _
  | some z => exact Int.le_of_lt (r.inn _ ((get_mem r.nd).mp hg)).2, fun k hk => by
  rw [← r.get]; unfold mg
  cases hg : getL D k with
  | none => rfl
  | some z => exact absurd (r.inn _ ((get_mem r.nd).mp hg)).1 hk⟩
theorem rep_put {D : List (SS × Int)} {m : SS → Int} (r : Rep D m) {k : SS} {z : Int} (hk : k ∈ NM) (hz : 0 < z) : Rep (putL D k z) fun j => if j = k then z else m j := by
  have nd := putL_nodup k z r.nd
  refine ⟨nd, fun q hq => ?_, fun j => ?_⟩
  · have h1 := (get_mem nd).mpr hq
    rw [getL_put] at h1
    by_cases e : q.1 = k
    · rw [if_pos e] at h1; cases h1; exact ⟨e ▸ hk, hz⟩
    · rw [if_neg e] at h1; exact r.inn q ((get_mem r.nd).mp h1)
  · unfold mg
    rw [getL_put]
    by_cases e : j = k
    · rw [if_pos e, if_pos e]; rfl
    · rw [if_neg e, if_neg e]; exact r.get j
theorem puts_nd {β : Type} : ∀ (l D : List (SS × β)), (D.map (·.1) ++ l.map (·.1)).Nodup → putsL D l = D ++ l
  | [], D, _ => by simp [putsL]
  | q :: l, D, h => by
    have hq : q.1 ∉ D.map (·.1) := fun hm => by
      rw [List.map_cons, List.nodup_append] at h
      exact h.2.2 q.1 hm q.1 List.mem_cons_self rfl
    have e : putL D q.1 q.2 = D ++ [q] := by
      unfold putL
      rw [if_neg]
      intro hc
      obtain ⟨p, hp, he⟩ := List.any_eq_true.mp hc
      exact hq (List.mem_map.mpr ⟨p, hp, of_decide_eq_true he⟩)
    show putsL (putL D q.1 q.2) l = _
    rw [e, puts_nd l (D ++ [q]) (by simpa using h), List.append_assoc]; rfl
theorem puts_cn (m : SS → Int) : putsL [] (cn m) = cn m := by
  rw [puts_nd _ _ (by simpa using cn_knd m), List.nil_append]
theorem number_cn {m : SS → Int} (h : Mv m) (k : SS) : V_number_of (cn m) k = m k := by
  unfold V_number_of
  rw [puts_cn]
  exact (cn_rep h).get k
def mx (m n : SS → Int) (k : SS) : Int := max (m k) (n k)
theorem mv_mx {m n : SS → Int} (h : Mv m) (k : Mv n) : Mv (mx m n) := ⟨fun x => by unfold mx; have := h.nn x; omega, fun x hx => by unfold mx; rw [h.out x hx, k.out x hx]; rfl⟩
theorem join_cn {m n : SS → Int} (h : Mv m) (k : Mv n) : C_join (cn m) (cn n) ∧ V_join (cn m) (cn n) = cn (mx m n) := by
  have key : ∀ (l : List (SS × Int)) (D : List (SS × Int)) (w : SS → Int), (∀ q ∈ l, q ∈ cn m) → (l.map (·.1)).Nodup → Rep D w → FoldC V_join_b1 C_join_b1 l D ∧ Rep (List.foldl V_join_b1 D l) fun j => if j ∈ l.map (·.1) then max (m j) (w j) else w j := fun l => by
    induction l with
    | nil => intro D w _ _ r; exact ⟨trivial, by simpa using r⟩
    | cons q l ih =>
      intro D w hq hn r
      obtain ⟨h1, h2, h3⟩ := mem_cn.mp (hq q List.mem_cons_self)
      have hgw : (getL D q.1).getD 0 = w q.1 := r.get q.1
      have r2 := rep_put r (k := q.1) (z := max q.2 ((getL D q.1).getD 0)) h1 (by omega)
      rw [List.map_cons, List.nodup_cons] at hn
      obtain ⟨c1, c2⟩ := ih _ _ (fun x hx => hq x (List.mem_cons_of_mem _ hx)) hn.2 r2
      refine ⟨⟨by have := r.len; unfold C_join_b1; omega, c1⟩, ?_⟩
      rw [List.foldl_cons]
      have e : (fun j => if j ∈ l.map (·.1) then max (m j) ((fun j => if j = q.1 then max q.2 ((getL D q.1).getD 0) else w j) j) else (fun j => if j = q.1 then max q.2 ((getL D q.1).getD 0) else w j) j) = fun j => if j ∈ (q :: l).map (·.1) then max (m j) (w j) else w j := by
        funext j
        by_cases e1 : j = q.1
        · subst e1
          rw [if_neg hn.1, if_pos (by simp)]
          show (if q.1 = q.1 then _ else _) = _
          rw [if_pos rfl, hgw, h3]
        · have e2 : (j ∈ (q :: l).map (·.1)) ↔ j ∈ l.map (·.1) := by simp [e1]
          simp only [if_neg e1, e2]
      rw [e] at c2
      exact c2
  obtain ⟨c1, c2⟩ := key (cn m) (cn n) n (fun q hq => hq) (cn_knd m) (cn_rep k)
  have e : (fun j => if j ∈ (cn m).map (·.1) then max (m j) (n j) else n j) = mx m n := by
    funext j
    unfold mx
    by_cases hj : j ∈ (cn m).map (·.1)
    · rw [if_pos hj]
    · rw [if_neg hj]
      have : ¬ 0 < m j ∨ j ∉ NM := by
        by_cases hm : j ∈ NM
        · refine .inl fun h0 => hj ?_
          rw [cn_keys]
          exact List.mem_filter.mpr ⟨hm, decide_eq_true h0⟩
        · exact .inr hm
      have h0 : m j = 0 := by
        rcases this with h1 | h1
        · have := h.nn j; omega
        · exact h.out j h1
      have := k.nn j
      omega
  rw [e] at c2
  unfold C_join V_join
  dsimp only
  rw [puts_cn]
  exact ⟨⟨c1, sortOk_si (by have := c2.len; omega)⟩, c2.sort⟩
def leM (m n : SS → Int) : Prop := ∀ k, m k ≤ n k
theorem most_iff {m n : SS → Int} (h : Mv m) (k : Mv n) : V_at_most (cn m) (cn n) = true ↔ leM m n := by
  unfold V_at_most
  rw [List.all_eq_true]
  constructor
  · intro ha x
    by_cases h0 : 0 < m x
    · have hx : x ∈ NM := by
        by_cases hx : x ∈ NM
        · exact hx
        · have := h.out x hx; omega
      have := of_decide_eq_true (ha (x, m x) (mem_cn.mpr ⟨hx, h0, rfl⟩))
      rw [number_cn k] at this
      exact this
    · have := h.nn x; have := k.nn x; omega
  · intro hl q hq
    rw [number_cn k, (mem_cn.mp hq).2.2]
    exact decide_eq_true (hl _)
theorem lnum {D : List (SS × Int)} {m : SS → Int} (r : Rep D m) (k : SS) : V__law_number D k = m k := by
  rw [← r.get k]
  have nd := r.nd
  unfold V__law_number mg getL
  clear r
  induction D with
  | nil => rfl
  | cons q D ih =>
    rw [List.map_cons, List.nodup_cons] at nd
    rw [List.filter_cons, List.find?_cons]
    by_cases e : q.1 = k
    · have : D.filter (fun a => decide (a.1 = k)) = [] := List.filter_eq_nil_iff.mpr fun x hx => by
        have : x.1 ≠ k := fun e2 => nd.1 (List.mem_map.mpr ⟨x, hx, by rw [e2, e]⟩)
        simpa using this
      rw [decide_eq_true e, if_pos rfl, this]; simp
    · rw [decide_eq_false e, if_neg (by decide)]
      exact ih nd.2
theorem lmost {m n : SS → Int} (h : Mv m) (k : Mv n) : C__law_at_most (cn m) (cn n) ∧ (V__law_at_most (cn m) (cn n) = true ↔ leM m n) := by
  have l1 := cn_len m
  have l2 := cn_len n
  refine ⟨⟨by omega, fun q _ => by unfold C__law_number; omega⟩, ?_⟩
  unfold V__law_at_most
  rw [decide_eq_true_iff, List.map_eq_nil_iff, List.filter_eq_nil_iff]
  constructor
  · intro ha x
    by_cases h0 : 0 < m x
    · have hx : x ∈ NM := by
        by_cases hx : x ∈ NM
        · exact hx
        · have := h.out x hx; omega
      have := ha (x, m x) (mem_cn.mpr ⟨hx, h0, rfl⟩)
      rw [lnum (cn_rep k)] at this
      simp at this
      exact this
    · have := h.nn x; have := k.nn x; omega
  · intro hl q hq
    rw [lnum (cn_rep k), (mem_cn.mp hq).2.2]
    have := hl q.1
    simp; omega
theorem ljoin {m n : SS → Int} (h : Mv m) (k : Mv n) : C__law_join (cn m) (cn n) ∧ V__law_join (cn m) (cn n) = cn (mx m n) := by
  have l1 := cn_len m
  have l2 := cn_len n
  have hl := fun x => lnum (cn_rep h) x
  have hk := fun x => lnum (cn_rep k) x
  have lf : ((cn n).filter (fun a => decide (V__law_number (cn m) a.1 = 0))).length ≤ 9 := Nat.le_trans (List.length_filter_le _ _) l2
  have hs : sortV eS ((cn m).map (fun a => a.1) ++ ((cn n).filter (fun a => decide (V__law_number (cn m) a.1 = 0))).map fun a => a.1) = NM.filter fun x => decide (0 < mx m n x) := by
    refine sortV_of ?_ ?_
    · refine (List.perm_ext_iff_of_nodup ?_ (nm_nodup.filter _)).mpr fun x => ?_
      · rw [List.nodup_append]
        refine ⟨cn_knd m, List.Nodup.sublist ((List.filter_sublist).map _) (cn_knd n), fun a ha b hb e => ?_⟩
        subst e
        obtain ⟨q, hq, rfl⟩ := List.mem_map.mp ha
        obtain ⟨q2, hq2, e2⟩ := List.mem_map.mp hb
        have := of_decide_eq_true (List.mem_filter.mp hq2).2
        rw [hl, e2] at this
        have := (mem_cn.mp hq).2.1
        omega
      · rw [List.mem_append, List.mem_filter, decide_eq_true_iff]
        unfold mx
        have a1 := h.nn x
        have a2 := k.nn x
        constructor
        · rintro (hx | hx)
          · obtain ⟨q, hq, rfl⟩ := List.mem_map.mp hx
            obtain ⟨b1, b2, _⟩ := mem_cn.mp hq
            exact ⟨b1, by omega⟩
          · obtain ⟨q, hq, rfl⟩ := List.mem_map.mp hx
            obtain ⟨b1, b2, _⟩ := mem_cn.mp (List.mem_filter.mp hq).1
            exact ⟨b1, by omega⟩
        · rintro ⟨b1, b2⟩
          by_cases h0 : 0 < m x
          · exact .inl (List.mem_map.mpr ⟨(x, m x), mem_cn.mpr ⟨b1, h0, rfl⟩, rfl⟩)
          · refine .inr (List.mem_map.mpr ⟨(x, n x), List.mem_filter.mpr ⟨mem_cn.mpr ⟨b1, by show 0 < n x; omega, rfl⟩, decide_eq_true ?_⟩, rfl⟩)
            rw [hl]; show m x = 0; omega
    · refine List.Pairwise.imp_of_mem ?_ (nm_pw.filter _)
      intro a b _ _ hab
      rw [leE_s, hab]; rfl
  have lN : ∀ f : SS → Bool, (NM.filter f).length ≤ 9 := fun f => List.length_filter_le _ _
  unfold C__law_join V__law_join C__law_number
  dsimp only
  rw [hs]
  refine ⟨⟨by omega, by omega, fun _ _ => by omega, by rw [List.length_map, List.length_map]; omega, sortOk_s (by rw [List.length_append, List.length_map, List.length_map]; omega), by have := lN fun x => decide (0 < mx m n x); omega, fun _ _ => ⟨by omega, by omega⟩⟩, ?_⟩
  show _ = (NM.filter fun k => decide (0 < mx m n k)).map fun k => (k, mx m n k)
  refine List.map_congr_left fun x _ => ?_
  show (x, max _ _) = (x, mx m n x)
  rw [hl, hk]; rfl
end VC


namespace VC
open PySem ZD ZP Q57
/-- what is_vector says of right ones -/
theorem vec_cn {m : SS → Int} (h : Mv m) (hb : ∀ k, m k ≤ 1000000000) (hl : (cn m).length ≤ 8) : vecC ((eT (eP eS PyData.int)) (cn m)) ∧ vecB ((eT (eP eS PyData.int)) (cn m)) = true := by
  have hnm : ∀ x ∈ (cn m).map (fun a => a.1), nmC x := fun x hx => by
    obtain ⟨q, hq, rfl⟩ := List.mem_map.mp hx
    exact (mem_cn.mp hq).1
  have hlen : ((cn m).map (fun a => a.1)).length = (cn m).length := List.length_map _
  have cN : C_is_names ((cn m).map (fun a => a.1)) 0 8 := by
    unfold C_is_names
    refine fun _ => ⟨hnm, fun _ => ⟨by rw [hlen]; omega, fun x hx => ?_⟩⟩
    unfold ran at hx
    obtain ⟨i, hi, rfl⟩ := List.mem_map.mp hx
    have := List.mem_range.mp hi
    exact ⟨⟨by omega, by omega⟩, by omega, by omega⟩
  have vN : V_is_names ((cn m).map (fun a => a.1)) 0 8 = true := by
    unfold V_is_names
    have e1 : (((cn m).map (fun a => a.1)).all fun a => nmB a) = true := List.all_eq_true.mpr fun _ _ => rfl
    rw [if_neg (by rw [hlen, decide_eq_true (show (0 : Int) ≤ ((cn m).length : Int) by omega), decide_eq_true (show ((cn m).length : Int) ≤ 8 by omega)]; decide), if_neg (by rw [e1]; decide), List.all_eq_true]
    intro x hx
    unfold ran at hx
    obtain ⟨i, hi, rfl⟩ := List.mem_map.mp hx
    have hi := List.mem_range.mp hi
    rw [hlen] at hi
    have hpw : ((cn m).map (fun a => a.1)).Pairwise fun a b => ltS a b = true := by rw [cn_keys]; exact nm_pw.filter _
    have := List.pairwise_iff_getElem.mp hpw i (i + 1) (by rw [hlen]; omega) (by rw [hlen]; omega) (by omega)
    rw [gI_get (show i < _ by rw [hlen]; omega), show ((i : Int) + 1) = ((i + 1 : Nat) : Int) by omega, gI_get (show i + 1 < _ by rw [hlen]; omega)]
    exact this
  have c : C_is_vector (cn m) := by
    unfold C_is_vector
    exact fun _ => ⟨by omega, cN⟩
  have v : V_is_vector (cn m) = true := by
    unfold V_is_vector
    have e1 : ((cn m).all fun (a : SS × Int) => (true && decide ((2 : Int) = 2))) = true := List.all_eq_true.mpr fun _ _ => rfl
    rw [if_neg (by rw [e1]; decide), vN, if_neg (by decide), List.all_eq_true]
    intro q hq
    obtain ⟨_, h2, h3⟩ := mem_cn.mp hq
    unfold V_is_number
    have := hb q.1
    rw [decide_eq_true (show (1 : Int) ≤ q.2 by omega), decide_eq_true (show q.2 ≤ 1000000000 by omega)]; rfl
  have key := v_is_vector (cn m) c
  rw [v] at key
  exact ⟨⟨true, key⟩, by unfold vecB; rw [key]⟩
/-- a vector that is drawn -/
structure Dr (m : SS → Int) : Prop where
  mv : Mv m
  zed : m (ss "zed") = 0
  le : ∀ k, m k ≤ 1000000000
theorem dr_len {m : SS → Int} (h : Dr m) : (cn m).length ≤ 8 := by
  unfold cn
  rw [List.length_map]
  have : NM.filter (fun k => decide (0 < m k)) = ([ss "a", ss "bob", ss "c", ss "d", ss "e", ss "f", ss "g", ss "h"] : List SS).filter fun k => decide (0 < m k) := by
    show (([ss "a", ss "bob", ss "c", ss "d", ss "e", ss "f", ss "g", ss "h"] : List SS) ++ [ss "zed"]).filter _ = _
    rw [List.filter_append]
    have : [ss "zed"].filter (fun k => decide (0 < m k)) = [] := by
      rw [List.filter_cons, h.zed]; rfl
    rw [this, List.append_nil]
  rw [this]
  exact List.length_filter_le _ _
theorem dr_mx {m n : SS → Int} (h : Dr m) (k : Dr n) : Dr (mx m n) := ⟨mv_mx h.mv k.mv, by unfold mx; rw [h.zed, k.zed]; rfl, fun x => by unfold mx; have := h.le x; have := k.le x; omega⟩
theorem dr_vec {m : SS → Int} (h : Dr m) : vecC ((eT (eP eS PyData.int)) (cn m)) ∧ vecB ((eT (eP eS PyData.int)) (cn m)) = true := vec_cn h.mv h.le (dr_len h)
theorem sel_sub {l : List SS} {ys : List (SS × Int)} {R : SS → SS × Int → Prop} (hR : ∀ a y, R a y → y.1 = a) (h : Sel R l ys) : (ys.map (·.1)).Sublist l := by
  induction h with
  | nil => exact List.Sublist.slnil
  | skip _ ih => exact ih.cons _
  | take hr _ ih => rw [List.map_cons, hR _ _ hr]; exact ih.cons₂ _
theorem sel_all {l : List SS} {ys : List (SS × Int)} {R : SS → SS × Int → Prop} (h : Sel R l ys) : ∀ y ∈ ys, ∃ a ∈ l, R a y := by
  induction h with
  | nil => intro y hy; cases hy
  | skip _ ih => intro y hy; obtain ⟨a, ha, hr⟩ := ih y hy; exact ⟨a, List.mem_cons_of_mem _ ha, hr⟩
  | take hr _ ih =>
    intro y hy
    rcases List.mem_cons.mp hy with rfl | hy
    · exact ⟨_, List.mem_cons_self, hr⟩
    · obtain ⟨a, ha, hr⟩ := ih y hy; exact ⟨a, List.mem_cons_of_mem _ ha, hr⟩
theorem vector_w {n : Int} (h0 : 0 ≤ n) {Q : List (SS × Int) → Prop} (k : ∀ m, Dr m → Q (cn m)) : Wp (W__law_vector n) Q := by
  unfold W__law_vector
  simp only [p_D, p_A, p_B, p_P, p_T, p_I, true_and]
  refine ⟨by decide, by decide, fun r r0 r1 => ?_⟩
  have hr : IxOk ([2, 4, 1000000000] : List Int) r ∧ 0 < gI ([2, 4, 1000000000] : List Int) r ∧ gI ([2, 4, 1000000000] : List Int) r ≤ 1000000000 := by
    rcases (show r = 0 ∨ r = 1 ∨ r = 2 by omega) with rfl | rfl | rfl
    · exact ⟨⟨by simp, by simp⟩, by decide, by decide⟩
    · exact ⟨⟨by simp, by simp⟩, by decide, by decide⟩
    · exact ⟨⟨by simp, by simp⟩, by decide, by decide⟩
  obtain ⟨h1, h2, h3⟩ := hr
  generalize gI ([2, 4, 1000000000] : List Int) r = s at h2 h3
  refine ⟨h1, ?_⟩
  rw [cutA_to h0]
  have hsub : (List.take n.toNat ([ss "a", ss "bob", ss "c", ss "d", ss "e", ss "f", ss "g", ss "h"] : List SS)).Sublist NM := (List.take_sublist _ _).trans (List.sublist_append_left _ [ss "zed"])
  have hz : ss "zed" ∉ List.take n.toNat ([ss "a", ss "bob", ss "c", ss "d", ss "e", ss "f", ss "g", ss "h"] : List SS) := fun hm => by
    have := List.mem_of_mem_take hm
    revert this; decide +kernel
  have hlen : (List.take n.toNat ([ss "a", ss "bob", ss "c", ss "d", ss "e", ss "f", ss "g", ss "h"] : List SS)).length ≤ 2000000 := by
    rw [List.length_take]; simp; omega
  generalize List.take n.toNat ([ss "a", ss "bob", ss "c", ss "d", ss "e", ss "f", ss "g", ss "h"] : List SS) = l at hsub hz hlen
  refine ⟨hlen, w_comp (fun a y => y.1 = a ∧ 0 < y.2 ∧ y.2 ≤ 1000000000) (fun a ha Q' q0 q1 => ?_) fun ys hys => ?_⟩
  · simp only [p_D, p_A, p_B, p_P, p_T, p_I, true_and]
    refine ⟨by decide, by decide, fun t _ _ => ⟨fun _ => ⟨by omega, h2, fun z z0 z1 => q1 _ ⟨rfl, by show 0 < 1 + z; omega, by show 1 + z ≤ 1000000000; omega⟩⟩, fun _ => q0⟩⟩
  · have sub := sel_sub (fun a y h => h.1) hys
    have al := sel_all hys
    have rep : Rep ys (mg ys) := ⟨(sub.trans hsub).nodup nm_nodup, fun q hq => by
      obtain ⟨a, ha, hr⟩ := al q hq
      exact ⟨hsub.subset (hr.1 ▸ ha), hr.2.1⟩, fun _ => rfl⟩
    have pw : ys.Pairwise fun a b => leE (eP eS PyData.int) b a = false := by
      have : (ys.map (·.1)).Pairwise fun a b => ltS a b = true := nm_pw.sublist (sub.trans hsub)
      refine (List.pairwise_map.mp this).imp fun {a b} h => ?_
      rw [leE_si b a (ltS_ne h).symm, h]; rfl
    have e : ys = cn (mg ys) := by rw [← rep.sort]; exact (sortV_of (List.Perm.refl _) pw).symm
    have hd : Dr (mg ys) := ⟨rep.mv, by
      unfold mg
      cases hg : getL ys (ss "zed") with
      | none => rfl
      | some z =>
        obtain ⟨a, ha, hr⟩ := al _ ((get_mem rep.nd).mp hg)
        exact absurd (hr.1 ▸ ha : ss "zed" ∈ l) hz, fun x => by
      unfold mg
      cases hg : getL ys x with
      | none => decide
      | some z =>
        obtain ⟨a, ha, hr⟩ := al _ ((get_mem rep.nd).mp hg)
        exact hr.2.2⟩
    rw [e]
    exact k _ hd
def mb (m n : SS → Int) : Bool := V_at_most (cn m) (cn n)
theorem turn_w {m n : SS → Int} (h : Dr m) (k : Dr n) (s : Unit) {Q : LR Unit Bool → Prop} (hQ : Q (.nx ())) : Wp (W_law_b1 s (cn m, cn n)) Q := by
  obtain ⟨j1, j2⟩ := join_cn h.mv k.mv
  obtain ⟨l1, l2⟩ := ljoin h.mv k.mv
  obtain ⟨a1, a2⟩ := lmost h.mv k.mv
  obtain ⟨b1, b2⟩ := lmost k.mv h.mv
  obtain ⟨v1, v2⟩ := dr_vec (dr_mx h k)
  have m1 := most_iff h.mv k.mv
  have m2 := most_iff k.mv h.mv
  obtain ⟨t1, t2⟩ := join_cn (mv_mx h.mv k.mv) k.mv
  have x1 : V_at_most (cn m) (cn (mx m n)) = true := (most_iff h.mv (mv_mx h.mv k.mv)).mpr fun x => by unfold mx; omega
  have x2 : V_at_most (cn n) (cn (mx m n)) = true := (most_iff k.mv (mv_mx h.mv k.mv)).mpr fun x => by unfold mx; omega
  have x3 : mx (mx m n) n = mx m n := funext fun x => by unfold mx; omega
  have e1 : V__law_at_most (cn m) (cn n) = V_at_most (cn m) (cn n) := by rw [Bool.eq_iff_iff, a2, m1]
  have e2 : V__law_at_most (cn n) (cn m) = V_at_most (cn n) (cn m) := by rw [Bool.eq_iff_iff, b2, m2]
  have eq1 : cn m = cn n → V_at_most (cn m) (cn n) = true := fun e => by rw [e]; exact (most_iff k.mv k.mv).mpr fun _ => Int.le_refl _
  unfold W_law_b1
  simp only [p_D, p_A, p_B, p_P, p_T, p_I, true_and]
  rw [j2, l2, e1, e2, t2, x3, v2, x1, x2]
  have same : V__law_same (V_at_most (cn m) (cn n)) (V_at_most (cn m) (cn n)) = true := by unfold V__law_same; cases V_at_most (cn m) (cn n) <;> rfl
  have comp : V_compare (cn m) (cn n) = (if decide (cn m = cn n) = true then ss "same" else if V_at_most (cn m) (cn n) = true then ss "older" else if V_at_most (cn n) (cn m) = true then ss "newer" else ss "beside") := by
    unfold V_compare
    generalize V_at_most (cn m) (cn n) = A at eq1
    generalize V_at_most (cn n) (cn m) = B
    by_cases e : cn m = cn n
    · rw [eq1 e, decide_eq_true e]; rfl
    · rw [decide_eq_false e]
      cases A <;> cases B <;> rfl
  rw [same, comp]
  refine ⟨⟨j1, l1, v1, fun _ _ => a1, fun _ => ⟨fun _ => ⟨a1, fun _ => b1⟩, fun _ _ _ => t1⟩⟩, ?_⟩
  simp
  exact hQ
theorem ev {d : PyData} {b : Bool} (h : A_is_vector [d] = .ok (.bool b)) : vecC d ∧ vecB d = b := ⟨⟨b, h⟩, by unfold vecB; rw [h]⟩
theorem w_n : A_is_vector [((eT (eP eS PyData.int)) ((chS (ss "abcdefghi")).map fun (a_2 : SS) => ((catS (ss "n") a_2), (1 : Int))))] = .ok (.bool false) := by kernel_rfl
theorem w_8 : A_is_vector [((eT (eP eS PyData.int)) ((chS (ss "abcdefgh")).map fun (a_2 : SS) => ((catS (ss "n") a_2), (1000000000 : Int))))] = .ok (.bool true) := by kernel_rfl
theorem wrong_ok {m : SS → Int} (h : Dr m) : C__law_wrong (cn m) ∧ V__law_wrong (cn m) = true := by
  obtain ⟨v1, v2⟩ := dr_vec h
  obtain ⟨u1, u2⟩ := ev w_8
  have n1 : vecC ((eT PyData.int) ([] : List Int)) ∧ vecB ((eT PyData.int) ([] : List Int)) = true := ev (by kernel_rfl)
  have wr : ∀ d ∈ ([(eN ()), ((eL (eP eS PyData.int)) (cn m)), ((eT eN) ([()] : List Unit)), ((eT (eT eS)) ([([(ss "a")] : List SS)] : List (List SS))), ((eT (eP eS PyData.int)) ([((ss "a"), (0 : Int))] : List (SS × Int))), ((eT (eP eS PyData.int)) ([((ss "a"), (1000000001 : Int))] : List (SS × Int))), ((eT (eP eS PyData.bool)) ([((ss "a"), true)] : List (SS × Bool))), ((eT (eP eS eN)) ([((ss "a"), ())] : List (SS × Unit))), ((eT (e3 eS PyData.int PyData.int)) ([((ss "a"), (1 : Int), (1 : Int))] : List (SS × Int × Int))), ((eT (eL eR)) ([([(eS (ss "a")), (PyData.int (1 : Int))] : List PyData)] : List (List PyData))), ((eT (eP eS PyData.int)) ([((ss "A"), (1 : Int))] : List (SS × Int))), ((eT (eP eS PyData.int)) ([((ss ""), (1 : Int))] : List (SS × Int))), ((eP (eP eS PyData.int) (eP eS PyData.int)) (((ss "b"), (1 : Int)), ((ss "a"), (1 : Int)))), ((eP (eP eS PyData.int) (eP eS PyData.int)) (((ss "a"), (1 : Int)), ((ss "a"), (2 : Int)))), ((eP (eP eS PyData.int) (eP eS PyData.int)) (((ss "a"), (1 : Int)), ((ss "a"), (1 : Int)))), ((eT (eP eS PyData.int)) ((chS (ss "abcdefghi")).map fun (a_2 : SS) => ((catS (ss "n") a_2), (1 : Int)))), ((eP eS PyData.int) ((ss "a"), (1 : Int))), (PyData.int (5 : Int)), (eS (ss "a"))] : List PyData), vecC d ∧ vecB d = false := fun d hd => by
    simp only [List.mem_cons, List.not_mem_nil, or_false] at hd
    rcases hd with rfl | rfl | rfl | rfl | rfl | rfl | rfl | rfl | rfl | rfl | rfl | rfl | rfl | rfl | rfl | rfl | rfl | rfl | rfl
    · exact ev (by kernel_rfl)
    · exact ev rfl
    · exact ev (by kernel_rfl)
    · exact ev (by kernel_rfl)
    · exact ev (by kernel_rfl)
    · exact ev (by kernel_rfl)
    · exact ev (by kernel_rfl)
    · exact ev (by kernel_rfl)
    · exact ev (by kernel_rfl)
    · exact ev (by kernel_rfl)
    · exact ev (by kernel_rfl)
    · exact ev (by kernel_rfl)
    · exact ev (by kernel_rfl)
    · exact ev (by kernel_rfl)
    · exact ev (by kernel_rfl)
    · exact ev w_n
    · exact ev (by kernel_rfl)
    · exact ev (by kernel_rfl)
    · exact ev (by kernel_rfl)
  have c1 : ∀ n : Nat, n = 9 ∨ n = 8 → n ≤ 2000000 := fun n h => by omega
  have k9 : (chS (ss "abcdefghi")).length = 9 := by decide +kernel
  have k8 : (chS (ss "abcdefgh")).length = 8 := by decide +kernel
  have kc : ∀ t : SS, ∀ a ∈ chS t, (cps (ss "n")).length + (cps a).length ≤ 2000000 := fun t a ha => by
    obtain ⟨c, hc, rfl⟩ := List.mem_map.mp ha
    have e1 : (cps (ss "n")).length = 1 := by decide +kernel
    rw [cps_mk fun d hd => by rw [List.mem_singleton] at hd; subst hd; exact cps_ok t d hc, e1, List.length_singleton]
    decide
  unfold C__law_wrong V__law_wrong
  generalize hw : ([(eN ()), _, _, _, _, _, _, _, _, _, _, _, _, _, _, _, _, _, _] : List PyData) = W at wr
  dsimp only
  have hf : W.filter (fun a => !(vecB a == false)) = [] := List.filter_eq_nil_iff.mpr fun d hd => by rw [(wr d hd).2]; decide
  have hl : W.length ≤ 2000000 := by rw [← hw]; simp
  rw [v2, u2, n1.2, hf, k9, k8]
  exact ⟨⟨by decide, kc _, by decide, kc _, v1, fun _ => ⟨n1.1, fun _ => ⟨u1, fun _ => ⟨hl, fun d hd => (wr d hd).1, rfl⟩⟩⟩⟩, rfl⟩
theorem raise_cn {m : SS → Int} (h : Dr m) {k : SS} (hk : k ∈ NM) {z : Int} (hz : 0 < z) (hl : (cn m).length < 8) (hb : m k < 999999990) (hz9 : z ≤ 9) :
    C_raised (cn m) k z ∧ V_raised (cn m) k z = cn (fun j => if j = k then m k + z else m j) ∧ Mv (fun j => if j = k then m k + z else m j) ∧ (∀ j, (fun j => if j = k then m k + z else m j) j ≤ 1000000000) ∧ (cn (fun j => if j = k then m k + z else m j)).length ≤ 8 ∧
      sortV (eP eS PyData.int) ((cn m).filter (fun a => !decide (a.1 = k)) ++ [(k, m k + z)]) = cn (fun j => if j = k then m k + z else m j) := by
  have r0 := cn_rep h.mv
  have hg : (getL (cn m) k).getD 0 = m k := r0.get k
  have h0 := h.mv.nn k
  have r := rep_put r0 (k := k) (z := m k + z) hk (by omega)
  have ln := putL_len (cn m) k (m k + z)
  have l8 : (cn (fun j => if j = k then m k + z else m j)).length ≤ 8 := by rw [← r.perm.length_eq]; omega
  have r2 : Rep ((cn m).filter (fun a => !decide (a.1 = k)) ++ [(k, m k + z)]) (fun j => if j = k then m k + z else m j) := by
    have nd : (((cn m).filter (fun a => !decide (a.1 = k)) ++ [(k, m k + z)]).map (·.1)).Nodup := by
      rw [List.map_append, List.nodup_append]
      refine ⟨List.Nodup.sublist ((List.filter_sublist).map _) (cn_knd m), by simp, fun a ha b hb e => ?_⟩
      obtain ⟨q, hq, rfl⟩ := List.mem_map.mp ha
      have := (List.mem_filter.mp hq).2
      simp at hb this
      exact this (by rw [e, hb])
    refine ⟨nd, fun q hq => ?_, fun j => ?_⟩
    · rcases List.mem_append.mp hq with hq | hq
      · exact r0.inn q (List.mem_filter.mp hq).1
      · rw [List.mem_singleton.mp hq]; exact ⟨hk, by show 0 < m k + z; omega⟩
    · by_cases e : j = k
      · subst e
        have : getL ((cn m).filter (fun a => !decide (a.1 = j)) ++ [(j, m j + z)]) j = some (m j + z) := (get_mem nd).mpr (List.mem_append_right _ (by simp))
        unfold mg
        rw [this]; simp
      · show mg _ j = if j = k then m k + z else m j
        rw [if_neg e, ← r0.get j]
        unfold mg
        congr 1
        cases hgj : getL (cn m) j with
        | some y =>
          refine (get_mem nd).mpr (List.mem_append_left _ (List.mem_filter.mpr ⟨(get_mem r0.nd).mp hgj, by simp [e]⟩))
        | none =>
          cases hgk : getL ((cn m).filter (fun a => !decide (a.1 = k)) ++ [(k, m k + z)]) j with
          | none => rfl
          | some y =>
            rcases List.mem_append.mp ((get_mem nd).mp hgk) with hq | hq
            · have := (get_mem r0.nd).mpr (List.mem_filter.mp hq).1
              rw [hgj] at this; cases this
            · have := List.mem_singleton.mp hq
              exact absurd (congrArg (·.1) this) e
  refine ⟨?_, ?_, r.mv, fun j => ?_, l8, r2.sort⟩
  · unfold C_raised
    dsimp only
    rw [puts_cn, hg]
    exact ⟨by omega, sortOk_si (by omega)⟩
  · unfold V_raised
    dsimp only
    rw [puts_cn, hg]
    exact r.sort
  · dsimp only
    split
    · omega
    · exact h.le j
theorem law_w {d : PyData} (hd : GoodScr d) : Wp (W_law d) fun b => b = true := by
  unfold W_law
  simp only [p_D, p_A, p_B, p_P, p_T, p_I, true_and]
  refine ⟨hd, vector_w (by decide) fun one h1 => vector_w (by decide) fun o1 ho1 => vector_w (by decide) fun o3 ho3 => ?_⟩
  obtain ⟨q1, q2⟩ := ljoin h1.mv ho3.mv
  rw [q2]
  have z0 : Mv (fun _ => 0) := ⟨fun _ => Int.le_refl _, fun _ _ => rfl⟩
  have zd : Dr (fun _ => 0) := ⟨z0, rfl, fun _ => by decide⟩
  have ze : cn (fun _ => 0) = [] := by unfold cn; simp
  refine ⟨q1, by simp, by decide, by decide, fun r r0 r1 => ?_⟩
  have hoth : IxOk [cn o1, cn one, cn (mx one o3), []] r ∧ ∃ oth, gI [cn o1, cn one, cn (mx one o3), []] r = cn oth ∧ Dr oth := by
    rcases (show r = 0 ∨ r = 1 ∨ r = 2 ∨ r = 3 by omega) with rfl | rfl | rfl | rfl
    · exact ⟨⟨by simp, by simp⟩, o1, rfl, ho1⟩
    · exact ⟨⟨by simp, by simp⟩, one, rfl, h1⟩
    · exact ⟨⟨by simp, by simp⟩, _, rfl, dr_mx h1 ho3⟩
    · exact ⟨⟨by simp, by simp⟩, _, ze.symm, zd⟩
  obtain ⟨i1, oth, i2, h2⟩ := hoth
  rw [i2]
  refine ⟨i1, vector_w (by decide) fun third h3 => ?_⟩
  obtain ⟨w1, w2⟩ := wrong_ok h1
  rw [w2]
  refine ⟨w1, fun h => by simp at h, fun _ => w_loop (fun _ _ => True) trivial (fun i z s hz _ Q' hq => ?_) fun s _ => ?_⟩
  · have hz := List.mem_of_getElem? hz
    simp only [List.mem_cons, List.not_mem_nil, or_false] at hz
    rcases hz with rfl | rfl | rfl | rfl
    · exact turn_w h1 h2 s (hq () trivial)
    · exact turn_w h2 h1 s (hq () trivial)
    · exact turn_w h1 h1 s (hq () trivial)
    · exact turn_w h3 h1 s (hq () trivial)
  rw [p_nx]
  simp only [p_D, p_A, p_B, p_P, p_T, p_I, true_and]
  obtain ⟨a1, a2⟩ := join_cn h1.mv h2.mv
  obtain ⟨b1, b2⟩ := join_cn h2.mv h3.mv
  obtain ⟨c1, c2⟩ := join_cn (mv_mx h1.mv h2.mv) h3.mv
  obtain ⟨d1, d2⟩ := join_cn h1.mv (mv_mx h2.mv h3.mv)
  obtain ⟨e1, e2⟩ := join_cn h2.mv h1.mv
  obtain ⟨f1, f2⟩ := ljoin h1.mv h2.mv
  obtain ⟨g1, g2⟩ := ljoin (mv_mx h1.mv h2.mv) h3.mv
  have as : mx (mx one oth) third = mx one (mx oth third) := funext fun x => by unfold mx; omega
  have co : mx oth one = mx one oth := funext fun x => by unfold mx; omega
  have up : V_at_most (cn (mx one oth)) (cn (mx one (mx oth third))) = true := (most_iff (mv_mx h1.mv h2.mv) (mv_mx h1.mv (mv_mx h2.mv h3.mv))).mpr fun x => by unfold mx; omega
  rw [a2, b2, c2, d2, e2, f2, g2, as, co, up]
  refine ⟨⟨a1, c1, b1, d1, fun _ => ⟨a1, e1⟩⟩, fun h => by simp at h, fun _ => ⟨⟨f1, g1⟩, a1, fun h => by simp at h, fun _ => ⟨by decide, by decide, fun r r0 r1 => ?_⟩⟩⟩
  have hnode : IxOk ([ss "a", ss "c", ss "h", ss "zed"] : List SS) r ∧ gI ([ss "a", ss "c", ss "h", ss "zed"] : List SS) r ∈ NM := by
    rcases (show r = 0 ∨ r = 1 ∨ r = 2 ∨ r = 3 by omega) with rfl | rfl | rfl | rfl
    · exact ⟨⟨by simp, by simp⟩, by decide +kernel⟩
    · exact ⟨⟨by simp, by simp⟩, by decide +kernel⟩
    · exact ⟨⟨by simp, by simp⟩, by decide +kernel⟩
    · exact ⟨⟨by simp, by simp⟩, by decide +kernel⟩
  obtain ⟨n1, hk⟩ := hnode
  generalize gI ([ss "a", ss "c", ss "h", ss "zed"] : List SS) r = node at hk
  refine ⟨n1, by decide, by decide, fun z z0 z9 => ?_⟩
  have l9 := cn_len one
  have cl : C__law_number (cn one) node := by unfold C__law_number; omega
  rw [lnum (cn_rep h1.mv) node, number_cn h1.mv node]
  have hint : V__law_int (one node) = true := rfl
  cases hcond : (decide (one node < 999999990) && decide (((cn one).length : Int) < 8)) with
  | false =>
    refine ⟨⟨cl, (fun h => nomatch h), fun _ _ => cl⟩, ?_⟩
    rw [hint]; simp
  | true =>
    rw [Bool.and_eq_true, decide_eq_true_iff, decide_eq_true_iff] at hcond
    obtain ⟨x1, x2, x3, x4, x5, x6⟩ := raise_cn h1 hk (z := 1 + z) (by omega) (by omega) hcond.1 (by omega)
    rw [x2, x6]
    obtain ⟨y1, y2⟩ := vec_cn x3 x4 x5
    rw [y2, number_cn x3 node]
    have lf : ((cn one).filter (fun a => !decide (a.1 = node))).length ≤ 9 := Nat.le_trans (List.length_filter_le _ _) l9
    refine ⟨⟨cl, fun _ => ⟨x1, by omega, cl, by rw [List.length_singleton]; omega, sortOk_si (by rw [List.length_append, List.length_singleton]; omega), fun _ => ⟨y1, fun _ => cl⟩, fun _ _ => cl⟩, fun h => by cases h⟩, ?_⟩
    rw [hint]; simp
end VC
namespace Q57
open PySem ZD ZP
theorem law_holds : PySem.Challenge.rw_happenedfirst_k57_vectors.Holds := the_end fun ns h1 h2 => law_end (fnD_vw q_law) (fun _ => rfl) (fun d hd => ok_of (rf_ok (w_law d) (VC.law_w hd) fun b hb => by rw [hb])) ns h1 h2
end Q57


open Q57
theorem PySem.Challenge.cw_happenedfirst_k57_vectors_holds : PySem.Challenge.rw_happenedfirst_k57_vectors.Holds := by
  exact Q57.law_holds

