import PyProof.Rows.All
import Wide.All
import OpenK.AllK
import Wide.FinOn
import KE.KStateDown
import HandS.ForMost
import HandS.AnyAll
import HandS.GenOver
import PyProof.GenArm
import PyProof.GenQ
import PyProof.ConsumeS
import HandS.GenList
import KE.DataEq
import KE.DataCmp
import KE.SortData
import KE.SortKeyHeap
import HandS.Lambda
import HandS.Zip
import HandS.Wide
import HandS.WideBits
import HandS.TupAny
import HandS.TupLe
import HandS.TupMul
import HandS.Text
import HandS.IsInst
import HandS.Style
import HandS.Defaults
import HandS.SetBool
import HandS.ExcValue
import PyProof.ReprRoads
import HandS.EndTab
import HandS.HeadWalk
import HandS.Head0
import HandS.Head1
import HandS.Head2
import HandS.HeadEnd
import HandS.HeadHook1
import HandS.HeadHook2
import HandS.HeadHook3
import HandS.HeadHook4
import PySem.Challenge.RW_allreadings_k62_whole_least_hitting_lots
/-! part GenX -/
set_option Elab.async false
set_option linter.all false
set_option maxRecDepth 100000
set_option maxHeartbeats 4000000
/-! all, any over generator expressions whose elements call defs; own work -/
namespace GX
open PySem PySem.Spec PyProof.Rows L2

theorem inv_like {X : Cx} {pins : List (Addr × Obj)} {σ : L2.St} {H : Hp} {s s' : Shared} (I : Inv X pins σ H s) (hh : s'.heap = s.heap) (ho : s'.os = s.os) (hg : AllBare s'.gens) : Inv X pins σ H s' := by
  obtain ⟨h, g, d, t, o⟩ := s'
  obtain rfl : h = s.heap := hh
  obtain rfl : o = s.os := ho
  exact ⟨I.ok, I.os, hg, I.base, I.loc, I.cell, I.free, I.freeC, I.pin, I.hok, I.len⟩

abbrev gcx (X : Cx) (A' : Around) (s : Shared) (H : Hp) (scope : Scope) (genv : Env) (fp : List Addr) : Cx :=
  { X with A := A', s_0 := s, H_0 := H, env := genv, outer := X.stack, stack := genv :: X.stack, ex := fp, calm := true, fn := fun x => scope.names.lookup x == some .cell, pn := [], xe := fun _ _ => False }

/-- a generator expression's own scope: own: its targets and their slots -/
structure GenS (N : List Str) (sc scope : Scope) (own : List (Str × Nat)) : Prop where
  kind : scope.kind = .function
  co : scope.isCoroutine = false
  cell : ∀ y ∈ scope.names, y.2 ≠ .cell
  dot : scope.names.lookup (".0" : Str) = some NameKind.local
  uniq : ∀ y ∈ scope.names, scope.names.lookup y.1 = some y.2
  ix : ∀ p ∈ own, N[p.2]? = some p.1
  free : ∀ y ∈ scope.names, y.2 = .free → sc.names.lookup y.1 = some .cell ∨ sc.names.lookup y.1 = some .free
  own : ∀ y ∈ scope.names, y.2 = .local ∨ y.2 = .cell → y.1 ∈ own.map (·.1) ∨ y.1 ∉ N
def genC (N : List Str) (sc scope : Scope) (own : List (Str × Nat)) : Bool :=
  !scope.isCoroutine && ((scope.names.all fun y => y.2 != .cell) && (decide (scope.names.lookup (".0" : Str) = some NameKind.local) && blkC N sc scope own))
theorem genS_by {N : List Str} {sc scope : Scope} {own : List (Str × Nat)} (h : genC N sc scope own = true) : GenS N sc scope own := by
  unfold genC at h
  obtain ⟨h1, h⟩ := Bool.and_eq_true_iff.mp h
  obtain ⟨h2, h⟩ := Bool.and_eq_true_iff.mp h
  obtain ⟨h3, h4⟩ := Bool.and_eq_true_iff.mp h
  have B := blkOk_by h4
  refine ⟨B.kind, by simpa using h1, fun y hy e => ?_, of_decide_eq_true h3, B.uniq, B.ix, B.free, B.own⟩
  have := List.all_eq_true.mp h2 y hy
  rw [e] at this
  cases this

theorem over_gen {A : Around} {elt tg iter : Expr} {ifs : List Expr} {scope : Scope} {pos : Pos} {it acc : Value} {env : Env} :
    A.over (.compLoop (.GeneratorExp elt [⟨tg, iter, ifs, 0⟩] scope pos) 0 it acc env) [] = A.deeper env := by
  first
    | rfl
    | (obtain ⟨hd, d, fr, gs, u⟩ := A; simp [Around.over, Around.deeper, marksOver, frameCount, unitsOf, envsOf, guardsOf, pushEnvs, pushGuards, Code.envs, Code.env?, Code.isFrame, Code.guards, Code.isGuard, Code.weight, Code.frames, Code.isCreation, Code.isCaller, Code.cUnits])
theorem room_gen {k : Nat} {A : Around} (r : Room (k + 1) A) (env : Env) : Room k (A.in1.in1.deeper env) :=
  ⟨r.hd, by have := r.dp; show A.depth + 1 + 3 * k + 5 < _; omega, by have := r.un; show A.units + 1 + 1 + 3 + 16 * k + 200 < _; omega⟩

section
variable {X : Cx} {pins : List (Addr × Obj)} {σ : L2.St} {H : Hp} {s : Shared}
/-- the generator's frame at its birth -/
theorem gen_start {scope : Scope} {own : List (Str × Nat)} {fp : List Addr} {A' : Around} {code : Value} {g5 : Array GenState} {h5 : Heap} {tk : Nat} {a : Addr} {go : Obj} {m0 : Str → Option Value} (I : Inv X pins σ H s) (S : GenS X.N X.env.scope scope own) (hN : X.N.Nodup)
    (hfp : ∀ b ∈ fp, FpOk X pins H b ∧ b < s.heap.objs.size) (hA : A'.handled = none)
    (hfr : A'.frames = some (genEnv scope (cloFrom X.env.cells scope.names []) s.heap.objs.size code builtinsNs X.env :: X.stack))
    (kp : ∀ b o, s.heap.get? b = some o → h5.get? b = some o) (hn : h5.Ns s.heap.objs.size m0) (hg : AllBare g5) (ha : h5.get? a = some go) (hac : s.heap.objs.size < a) (hgo : ∀ v, go.data ≠ .cell v) :
    Inv (gcx X A' s H scope (genEnv scope (cloFrom X.env.cells scope.names []) s.heap.objs.size code builtinsNs X.env) fp) [(a, go)] (wipe σ (own.map (·.2))) H { s with gens := g5, toks := tk, heap := h5 } := by
  have hfree : ∀ y ∈ scope.names, y.2 = .free → ∃ c, X.env.cells.lookup y.1 = some c := fun y hy e => by
    rcases S.free y hy e with k | k
    · exact I.ok.has _ (.inl k)
    · exact I.ok.has _ (.inr k)
  generalize hcenv : genEnv scope (cloFrom X.env.cells scope.names []) s.heap.objs.size code builtinsNs X.env = cenv at hfr ⊢
  have hL : cenv.locals = s.heap.objs.size := by rw [← hcenv]; rfl
  have hcl : cenv.cells = cloFrom X.env.cells scope.names [] := by rw [← hcenv]; rfl
  have hsc : cenv.scope = scope := by rw [← hcenv]; rfl
  have hFL : cenv.frame = some cenv.locals := by rw [← hcenv]; rfl
  have cm : ∀ {y c}, (y, c) ∈ cloFrom X.env.cells scope.names [] → X.env.cells.lookup y = some c ∧ c < s.heap.objs.size := fun {y c} hm => by
    rcases cloFrom_mem hm with hm | ⟨h1, rfl⟩
    · cases hm
    · obtain ⟨c, hc⟩ := hfree _ h1 rfl
      rw [hc]
      obtain ⟨w, z⟩ := I.cell _ _ hc
      exact ⟨rfl, z.lt⟩
  have mem : ∀ {y c}, cenv.cells.lookup y = some c → X.env.cells.lookup y = some c ∧ c < s.heap.objs.size := fun {y c} e => by
    rw [hcl] at e
    exact cm (PySem.mem_of_lookup e)
  have look : ∀ {y}, scope.names.lookup y = some .free → ∃ c, cenv.cells.lookup y = some c ∧ X.env.cells.lookup y = some c := fun {y} hl => by
    have hy : (y, NameKind.free) ∈ scope.names := PySem.mem_of_lookup hl
    obtain ⟨c', e'⟩ := mem_lookup (cloFrom_has (cells := X.env.cells) (acc := []) hy)
    rw [← hcl] at e'
    exact ⟨c', e', (mem e').1⟩
  have noCell : ∀ y, scope.names.lookup y ≠ some .cell := fun y e => S.cell _ (PySem.mem_of_lookup e) rfl
  have okB : (gcx X A' s H scope cenv fp).Ok := by
    refine ⟨I.ok.mod, by show cenv.scope.kind = _; rw [hsc]; exact S.kind, by show cenv.globals = _; rw [← hcenv]; exact I.ok.glob, by show cenv.builtins = _; rw [← hcenv]; rfl, by show s.heap.objs.size ≤ cenv.locals; rw [hL]; exact Nat.le_refl _,
      fun y z c e1 e2 => ?_, fun y hy => ?_, fun y c z e => ?_, fun _ => hA, hfr, .inr ⟨rfl, hFL⟩, fun b hb => ⟨?_, fun y c e z => ?_⟩, I.bs, Nat.le_trans I.ok.bsz I.sz, fun b o e hb => ?_, fun b hb z => ?_, I.stack, I.stkFree⟩
    · exact I.ok.inj y z c (mem (show cenv.cells.lookup y = some c from e1)).1 (mem (show cenv.cells.lookup z = some c from e2)).1
    · show ∃ c, cenv.cells.lookup y = some c
      have key : ∀ k, scope.names.lookup y = some k → (k = .cell ∨ k = .free) → ∃ c, cenv.cells.lookup y = some c := fun k e hk => by
        rcases hk with rfl | rfl
        · exact absurd e (noCell y)
        · obtain ⟨c, h1, _⟩ := look e
          exact ⟨c, h1⟩
      rcases hy with hy | hy
      · have hy : cenv.scope.names.lookup y = some .cell := hy
        rw [hsc] at hy
        exact key _ hy (.inl rfl)
      · have hy : cenv.scope.names.lookup y = some .free := hy
        rw [hsc] at hy
        exact key _ hy (.inr rfl)
    · have z : (scope.names.lookup y == some NameKind.cell) = true := z
      exact absurd (by simpa using z) (noCell y)
    · show b ≠ cenv.locals
      rw [hL]; exact Nat.ne_of_lt (hfp b hb).2
    · exact (hfp b hb).1.2.2.2.2.1 y c (mem (show cenv.cells.lookup y = some c from e)).1 z
    · rcases (hfp b hb).1.2.2.2.1 with z | z
      · exact I.ok.noex b o e z
      · exact absurd (Nat.lt_of_lt_of_le (Heap.lt_size e) (Nat.le_trans I.ok.bsz z)) (Nat.lt_irrefl _)
    · rcases List.mem_cons.mp (I.stkSub b z) with z | z
      · exact (hfp b hb).1.2.1 z
      · exact (hfp b hb).1.2.2.1 z
  refine ⟨okB, rfl, hg, Un.kept kp, ⟨m0, ?_, fun i y av e1 e2 e3 => ?_⟩, fun y c e => ?_, ?_, fun y c e => ?_, fun p hp => ?_, I.hok.kept kp, by rw [wipe_length]; exact I.len⟩
  · show Heap.Ns _ cenv.locals _
    rw [hL]
    exact hn
  · obtain ⟨e2, hne⟩ := wipe_some e2
    have no : ∀ k, scope.names.lookup y = some k → ¬ (k = .local ∨ k = .cell) := fun k e hh => by
      rcases S.own _ (PySem.mem_of_lookup e) hh with e' | e'
      · obtain ⟨p, hp, hpy⟩ := List.mem_map.mp e'
        have e3 := S.ix p hp
        have : p.1 = y := hpy
        rw [this] at e3
        exact hne (List.mem_map.mpr ⟨p, hp, nodup_ix hN e3 e1⟩)
      · exact e' (List.mem_of_getElem? e1)
    have hfr : scope.names.lookup y = some .free := by
      have e3 : Vis cenv.scope y := e3
      rw [hsc] at e3
      rcases e3 with e3 | e3 | e3
      · exact absurd (.inl rfl) (no _ e3)
      · exact absurd (.inr rfl) (no _ e3)
      · exact e3
    obtain ⟨m, hn, hl⟩ := I.loc
    have hvis : Vis X.env.scope y := (S.free _ (PySem.mem_of_lookup hfr) rfl).elim (fun k => .inr (.inl k)) (fun k => .inr (.inr k))
    obtain ⟨w, r, q⟩ := hl i y av e1 e2 hvis
    refine ⟨w, r, .inr ⟨.inr (show cenv.scope.names.lookup y = some .free by rw [hsc]; exact hfr), ?_⟩⟩
    obtain ⟨c, h1, h2⟩ := look hfr
    rcases q with ⟨k, _⟩ | ⟨_, c', e', z⟩
    · have k : X.env.scope.names.lookup y = some .local := k
      rcases S.free _ (PySem.mem_of_lookup hfr) rfl with k' | k' <;> rw [show X.env.scope.names.lookup y = _ from k'] at k <;> cases k
    · rw [h2] at e'; cases e'
      exact ⟨c, h1, z.keeps kp⟩
  · obtain ⟨w, z⟩ := I.cell y c (mem (show cenv.cells.lookup y = some c from e)).1
    exact ⟨w, z.keeps kp⟩
  · show H cenv.locals = none
    rw [hL]; exact I.hok.fresh (Nat.le_refl _)
  · exact I.freeC y c (mem (show cenv.cells.lookup y = some c from e)).1
  · have ep : p = (a, go) := by simpa using hp
    subst ep
    refine ⟨ha, I.hok.fresh (Nat.le_of_lt hac), ?_, fun hb => ?_, hgo⟩
    · show a ≠ cenv.locals
      rw [hL]; exact Nat.ne_of_gt hac
    · have hb : a ∈ frs X.stack := hb
      rcases List.mem_cons.mp (I.stkSub a hb) with z | z
      · have h1 := I.lt
        rw [← z] at h1
        exact Nat.lt_asymm h1 hac
      · exact I.nofs (Nat.le_of_lt hac) z
end
end GX

/-! part GenY -/
set_option Elab.async false
set_option linter.all false
set_option maxRecDepth 100000
set_option maxHeartbeats 4000000
namespace GX
open PySem PySem.Spec PyProof.Rows L2
open Sem (wp)

theorem compTurn_genT (elt target iter : Expr) (ifs : List Expr) (scope : Scope) (pos : Pos) (it acc : Value) (env : Env) :
    compTurn (.GeneratorExp elt [⟨target, iter, ifs, 0⟩] scope pos) 0 it acc env = (do
      standAt iter.pos
      let r ← pyNext it
      match r with
      | none => pure (.done .next)
      | some v =>
        letOwnedTupleGo target it v
        assign target env v
        let ok ← forIn ifs true fun c r => if r = true then do let ok ← isTrue c env (eval c env); pure (ForInStep.yield ok) else pure (ForInStep.yield r)
        if ok then
          (do let v ← eval elt env; standAt elt.pos; let _ ← yieldOut env v)
        again (.compLoop (.GeneratorExp elt [⟨target, iter, ifs, 0⟩] scope pos) 0 it acc env)) := compTurn_gen ..

/-- what a `next` yields: y, behind turn i of measure m; resumed it goes on from the next turn -/
abbrev PostT := Nat → Nat → V → Hp → Prop

section
variable {X : Cx} {A' : Around} {s4 : Shared} {H4 : Hp} {scope : Scope} {genv : Env} {fp : List Addr} {a : Addr} {go : Obj} {it : Addr} {tn : Nat → Heap → Prop} {J : It} {tg elt iter : Expr} {ifs : List Expr} {gpos : Pos} {g : TG} {tt : TT} {te : TE} {vs : List Nat} {σ : L2.St}
/-- like s: a state with the same heap -/
def Like (s s' : Shared) : Prop := s'.heap = s.heap ∧ s'.os = s.os ∧ AllBare s'.gens
def YP (X : Cx) (A' : Around) (s4 : Shared) (H4 : Hp) (scope : Scope) (genv : Env) (fp : List Addr) (a : Addr) (go : Obj) (W : Nat → Nat → Hp → Prop) (Post : PostT) : Protocol := fun n s₀ v s kap =>
  ∃ y i m σ H, m ≤ n + 1 ∧ Inv (gcx X A' s4 H4 scope genv fp) [(a, go)] σ H s ∧ RelV y v ∧ Post m i y H ∧ ∀ s'', Like s s'' → ∀ m', m' < m → W (i + 1) m' H → kap (.send .none) s''
def RP (X : Cx) (A' : Around) (s4 : Shared) (H4 : Hp) (scope : Scope) (genv : Env) (fp : List Addr) (a : Addr) (go : Obj) (Qe : Hp → Prop) : Nat → Shared → Shared → Prop := fun n s₀ s =>
  ∃ σ H, Inv (gcx X A' s4 H4 scope genv fp) [(a, go)] σ H s ∧ Qe H

/-- the reading of the generator's turns -/
def Turns (J : It) (g : TG) (tt : TT) (te : TE) (vs : List Nat) (σ : L2.St) (W : Nat → Nat → Hp → Prop) (Post : PostT) (Qe : Hp → Prop) : Prop := ∀ i m H, W i m H →
  (J.stop i H ∧ Qe H) ∨ (J.go i H ∧ ∀ x H', J.yld i H x H' → g x (wipe σ vs) H' fun σ2 H2 => wipe σ2 vs = wipe σ vs ∧ tt σ2 H2 fun b H3 =>
    if b = true then te σ2 H3 fun y H4 => 0 < m ∧ Post m i y H4 else ∃ m', m' < m ∧ W (i + 1) m' H3)

theorem seg_genP {own : List (Str × Nat)} {W : Nat → Nat → Hp → Prop} {Post : PostT} {Qe : Hp → Prop} {A : Around}
    (hA' : A' = A.deeper genv) (hco : genv.scope.isCoroutine = false) (T : Turn X.prog X.w X.K tg J fp it tn)
    (hvs : vs = own.map (·.2)) (hg : PG (gcx X A' s4 H4 scope genv fp) tg g) (ht : PTs (gcx X A' s4 H4 scope genv fp) ifs tt) (he : PE (gcx X A' s4 H4 scope genv fp) elt te)
    (hpa : ∀ b ∈ fp, a ≠ b) (turns : Turns J g tt te vs σ W Post Qe) :
    ∀ (n m i : Nat) (s₀ s : Shared) (H : Hp), m ≤ n → W i m H → tn i s.heap → (∀ b ∈ fp, H b = none) → Inv (gcx X A' s4 H4 scope genv fp) [(a, go)] (wipe σ vs) H s →
      Seg (model X.prog X.w) A (fun n s₀ r s₁ => r = .ok .next ∧ RP X A' s4 H4 scope genv fp a go Qe n s₀ s₁) (YP X A' s4 H4 scope genv fp a go W Post) n s₀
        (.compLoop (.GeneratorExp elt [⟨tg, iter, ifs, 0⟩] scope gpos) 0 (.ref it) .none genv)
        ((model X.prog X.w).den (.compLoop (.GeneratorExp elt [⟨tg, iter, ifs, 0⟩] scope gpos) 0 (.ref it) .none genv)) [] s := by
  subst hA'
  have stat : ∀ {σ' : L2.St} {H' : Hp} {s' : Shared}, Inv (gcx X (A.deeper genv) s4 H4 scope genv fp) [(a, go)] σ' H' s' → (∀ b ∈ fp, H' b = none) → ∀ b ∈ fp, FpOk (gcx X (A.deeper genv) s4 H4 scope genv fp) [(a, go)] H' b := fun {σ' H' s'} I' hn b hb =>
    ⟨hn b hb, (I'.ok.exf b hb).1, I'.ok.exfs b hb, .inl hb, fun x c e => (I'.ok.exf b hb).2 x c e, fun p hp => by
      have ep : p = (a, go) := by simpa using hp
      subst ep
      exact hpa b hb⟩
  have oe : A.over (.compLoop (.GeneratorExp elt [⟨tg, iter, ifs, 0⟩] scope gpos) 0 (.ref it) .none genv) [] = A.deeper genv := over_gen
  intro n m
  induction m using Nat.strongRecOn generalizing n with
  | ind m ih =>
    intro i s₀ s H hmn w st fr I
    show Seg _ A _ _ _ s₀ _ ((compTurn (.GeneratorExp elt [⟨tg, iter, ifs, 0⟩] scope gpos) 0 (.ref it) .none genv).onRaise (leaving genv)) [] s
    rw [compTurn_genT, Sem.onRaise_eq_wrap]
    refine seg_bind_wrap (wpAny_standAt ?_)
    rcases turns i m H w with ⟨stop, qe⟩ | ⟨go', step⟩
    · refine seg_bind_wrap ?_
      rw [oe]
      refine thnF (T.done (gcx X (A.deeper genv) s4 H4 scope genv fp) rfl rfl rfl rfl i [(a, go)] s _ H (fun _ _ => False) I (stat I fr) st stop) fun r s6 ⟨hr, I6⟩ => ?_
      subst hr
      exact seg_end (.ok .next) ⟨rfl, _, H, I6, qe⟩
    · refine seg_bind_wrap ?_
      rw [oe]
      refine thnF (T.item (gcx X (A.deeper genv) s4 H4 scope genv fp) rfl rfl rfl rfl i [(a, go)] s _ H (fun _ _ => False) I (stat I fr) st go') fun r s6 ⟨u, hr, h6⟩ => ?_
      subst hr
      refine seg_bind_wrap ?_
      rw [oe]
      refine thnF h6 fun _ s7 ⟨x, H7, I7, r7, y7, st7, n7⟩ => ?_
      have I7' := I7.pinned (stat I7 n7) (T.obj _ _ st7)
      refine seg_bind_wrap ?_
      rw [oe]
      refine thnF (hg.run _ s7 _ H7 x u _ I7' r7 (step x H7 y7)) fun _ s8 ⟨σ8, H8, I8, hw8, q8⟩ => ?_
      refine seg_bind_wrap ?_
      rw [oe]
      refine thnF (ht.run _ s8 σ8 H8 _ I8 q8) fun b s9 ⟨H9, I9, q9⟩ => ?_
      have fin : ∀ {s' : Shared} {H' : Hp}, Inv (gcx X (A.deeper genv) s4 H4 scope genv fp) ([(a, go)] ++ pinsAt fp s7.heap) σ8 H' s' → Inv (gcx X (A.deeper genv) s4 H4 scope genv fp) [(a, go)] (wipe σ vs) H' s' ∧ tn (i + 1) s'.heap ∧ ∀ b ∈ fp, H' b = none := fun {s' H'} I' => by
        have pin' : ∀ b ∈ fp, ∀ o, s7.heap.get? b = some o → s'.heap.get? b = some o ∧ H' b = none := fun b hb o e =>
          let z := I'.pin (b, o) (List.mem_append_right _ (List.mem_append_right _ (mem_pinsAt hb e)))
          ⟨z.1, z.2.1⟩
        have hl : (wipe σ vs).length = σ8.length := by rw [← hw8, wipe_length]
        refine ⟨(I'.unpinned (pins := [(a, go)])).weak hl (fun j v e => ?_), T.keep _ _ _ st7 fun b hb o e => (pin' b hb o e).1, fun b hb => ?_⟩
        · rw [← hw8] at e
          exact (wipe_some e).1
        · obtain ⟨o, e, _⟩ := T.obj _ _ st7 b hb
          exact (pin' b hb o e).2
      cases b with
      | false =>
        simp only [Bool.false_eq_true, if_false] at q9 ⊢
        obtain ⟨m', hm, w'⟩ := q9
        obtain ⟨I10, st10, fr10⟩ := fin I9
        exact seg_again rfl (ih m' hm n (i + 1) s₀ s9 H9 (Nat.le_trans (Nat.le_of_lt hm) hmn) w' st10 fr10 I10)
      | true =>
        simp only [if_true] at q9 ⊢
        have hy : ∀ v, yieldOut genv v = yieldValue v := fun v => by simp only [yieldOut, hco, Bool.false_eq_true, if_false]
        simp only [hy]
        rw [Sem.bind_eq_wrap', Sem.bind_eq_wrap', Sem.wrap_wrap, Sem.wrap_wrap]
        refine seg_wrap ?_
        rw [oe]
        refine thnF (he.run _ s9 σ8 H9 _ I9 q9) fun z s10 ⟨yv, H10, I10, r10, hm0, post⟩ => ?_
        obtain ⟨I11, st11, fr11⟩ := fin I10
        obtain ⟨n', rfl⟩ : ∃ n', n = n' + 1 := ⟨n - 1, by omega⟩
        refine seg_at (seg_yield rfl rfl rfl ⟨yv, i, m, _, H10, hmn, I11, r10, post, fun s'' hl m' hm w' => ?_⟩)
        refine seg_again rfl (ih m' hm n' (i + 1) s'' s'' H10 (by omega) w' (by rw [hl.1]; exact st11) fr11 (inv_like I11 hl.1 hl.2.1 hl.2.2))
end
end GX

/-! part GenZ -/
set_option Elab.async false
set_option linter.all false
set_option maxRecDepth 100000
set_option maxHeartbeats 4000000
namespace GX
open PySem PySem.Spec PyProof.Rows L2
open Sem (wp)

section
variable {X : Cx} {A' : Around} {s4 : Shared} {H4 : Hp} {scope : Scope} {genv : Env} {fp : List Addr} {a : Addr} {go : Obj} {W : Nat → Nat → Hp → Prop} {Post : PostT} {Qe : Hp → Prop} {A : Around} {gno : Nat}
/-- the generator sleeps, at most n more items to come -/
def Asleep (X : Cx) (A A' : Around) (s4 : Shared) (H4 : Hp) (scope : Scope) (genv : Env) (fp : List Addr) (a : Addr) (go : Obj) (gno : Nat) (W : Nat → Nat → Hp → Prop) (Post : PostT) (Qe : Hp → Prop) (n : Nat) (s : Shared) : Prop :=
  ∃ gs σ H, s.gens[gno]? = some gs ∧ Inv (gcx X A' s4 H4 scope genv fp) [(a, go)] σ H s ∧
    ∀ s'', Like s s'' → gs.Goes (model X.prog X.w) A.in1 (fun n s₀ r s₁ => r = .ok .next ∧ RP X A' s4 H4 scope genv fp a go Qe n s₀ s₁) (YP X A' s4 H4 scope genv fp a go W Post) n (.send .none) s''

theorem next_gen {Q : Option Value → Shared → Prop} {E : Value → Shared → Prop} {n : Nat} {s : Shared} {nm qn : Value} (hgo : go = { cls := .type "generator", data := .fields #[.int gno 0, nm, qn] }) (hh : A.handled = none) (hroom : A.depth < recursionLimit)
    (z : Asleep X A A' s4 H4 scope genv fp a go gno W Post Qe n s)
    (hY : ∀ v y i m σ H s', RelV y v → Post m i y H → Inv (gcx X A' s4 H4 scope genv fp) [(a, go)] σ H s' → (∀ m', m' < m → W (i + 1) m' H → ∃ n', n' < n ∧ Asleep X A A' s4 H4 scope genv fp a go gno W Post Qe n' s') → Q (some v) s')
    (hP : ∀ σ H s', Inv (gcx X A' s4 H4 scope genv fp) [(a, go)] σ H s' → Qe H → Q none s') :
    wpAny (model X.prog X.w) A (pyNext (.ref a)) Q E s := by
  obtain ⟨gs, σ, H, hgs, I, goes⟩ := z
  have hpin := (I.pin (a, go) (List.mem_append_right _ (List.mem_singleton.mpr rfl))).1
  have hgen : s.heap.IsGen a gno := ⟨go, nm, qn, hpin, by rw [hgo], by rw [hgo], by rw [hgo]⟩
  have hsz : gno < s.gens.size := by
    rcases Nat.lt_or_ge gno s.gens.size with h' | h'
    · exact h'
    · rw [Array.getElem?_eq_none h'] at hgs; cases hgs
  have bareR : AllBare (s.setGen gno .running).gens := allBare_setGen I.bare rfl
  refine GenW.wpAny_gsz (n := gno + 1) hsz ?_
  refine wpAny_pyNext_genexpQ (P := RP X A' s4 H4 scope genv fp a go Qe) (Y := YP X A' s4 H4 scope genv fp a go W Post) hh I.nolimit hroom hgen hgs (goes _ ⟨rfl, rfl, bareR⟩) (fun v s₁ gs' hb hv => ?_) (fun s₁ hp h' hk => ?_)
  · obtain ⟨y, i, m, σ1, H1, hm, I1, rv, post, kap⟩ := hv
    intro hs1
    have hs1' : gno < s₁.gens.size := by
      rw [GenW.setGen_size] at hs1
      exact hs1
    have bare1 : AllBare (s₁.setGen gno gs').gens := allBare_setGen I1.bare hb
    refine hY v y i m σ1 H1 _ rv post (inv_like I1 rfl rfl bare1) fun m' hm' w' => ?_
    cases n with
    | zero => exact (kap s₁ ⟨rfl, rfl, I1.bare⟩ m' hm' w').elim
    | succ n' => exact ⟨n', Nat.lt_succ_self _, gs', σ1, H1, setGen_at hs1', inv_like I1 rfl rfl bare1, fun s'' hl => kap s'' ⟨hl.1, hl.2.1, hl.2.2⟩ m' hm' w'⟩
  · obtain ⟨σ1, H1, I1, qe⟩ := hp
    intro _
    have I2 := inv_like (s' := s₁.setGen gno .finished) I1 rfl rfl (allBare_setGen I1.bare rfl)
    exact hP σ1 H1 _ (I2.kept (t' := (s₁.setGen gno .finished).toks) hk) qe

/-- from the generator's frame back to the def's -/
theorem back {pins : List (Addr × Obj)} {σ σ' : L2.St} {H' : Hp} {s' : Shared} {pg : List (Addr × Obj)} (I : Inv X pins σ H4 s4) (hfp : ∀ b ∈ fp, FpOk X pins H4 b) (I' : Inv (gcx X A' s4 H4 scope genv fp) pg σ' H' s') : Inv X pins σ H' s' :=
  I.call' (ch := fp) I'.os I'.base I'.hok I'.bare fun b hb => ⟨(hfp b hb).2.2.2.1, (hfp b hb).2.1, (hfp b hb).2.2.2.2.1, (hfp b hb).2.2.2.2.2⟩

/-- all (stop = false), any (stop = true): what an element leads to -/
def PostB (stop : Bool) (W : Nat → Nat → Hp → Prop) (Q : Bool → Hp → Prop) : PostT := fun m i y H => ∃ k, y = .bl k ∧ if k = stop then Q stop H else ∃ m', m' < m ∧ W (i + 1) m' H

theorem all_loop {nm qn : Value} {Q : Bool → Hp → Prop} {R : Result → Shared → Prop} {A0 : Around} (hA : A = A0.in1) (hgo : go = { cls := .type "generator", data := .fields #[.int gno 0, nm, qn] }) (hh : A.handled = none) (hroom : A.depth < recursionLimit)
    (hR : ∀ b σ H s', Inv (gcx X A' s4 H4 scope genv fp) [(a, go)] σ H s' → Q b H → R (.ok (.ret (.bool b))) s') :
    ∀ (n : Nat) (s : Shared), Asleep X A A' s4 H4 scope genv fp a go gno W (PostB false W Q) (Q true) n s → codeAny (model X.prog X.w) A0 (.builtin "all.loop" ⟨[.ref a], []⟩) R s := by
  subst hA
  intro n
  induction n using Nat.strongRecOn with
  | ind n ih =>
    intro s z
    refine codeAny_builtin F.entry_all_loop ?_
    rw [Around.under_plainId F.plain_all_loop _]
    show wpAny _ A0.in1 (pyNext (.ref a) >>= _) _ _ s
    refine wpAny_bind (next_gen hgo hh hroom z (fun v y i m σ H s' rv post I' more => ?_) fun σ H s' I' qe => ?_)
    · obtain ⟨k, rfl, q⟩ := post
      cases rv
      refine wpAny_bind (wpAny_holding (wpAny_truthy_bool ?_))
      refine wpAny_bind (wpAny_letGo ?_)
      cases k with
      | true =>
        simp only [if_true, Bool.true_eq_false, if_false] at q ⊢
        obtain ⟨m', hm, w'⟩ := q
        obtain ⟨n', hn, z'⟩ := more m' hm w'
        exact wpAny_pure ⟨plainId_quiet F.plain_all_loop _, ih n' hn s' z'⟩
      | false =>
        simp only [Bool.false_eq_true, if_false, if_true] at q ⊢
        exact wpAny_bind (wpAny_rule (wpAny_pure (hR false σ H s' I' q)))
    · exact wpAny_bind (wpAny_rule (wpAny_pure (hR true σ H s' I' qe)))

theorem any_loop {nm qn : Value} {Q : Bool → Hp → Prop} {R : Result → Shared → Prop} {A0 : Around} (hA : A = A0.in1) (hgo : go = { cls := .type "generator", data := .fields #[.int gno 0, nm, qn] }) (hh : A.handled = none) (hroom : A.depth < recursionLimit)
    (hR : ∀ b σ H s', Inv (gcx X A' s4 H4 scope genv fp) [(a, go)] σ H s' → Q b H → R (.ok (.ret (.bool b))) s') :
    ∀ (n : Nat) (s : Shared), Asleep X A A' s4 H4 scope genv fp a go gno W (PostB true W Q) (Q false) n s → codeAny (model X.prog X.w) A0 (.builtin "any.loop" ⟨[.ref a], []⟩) R s := by
  subst hA
  intro n
  induction n using Nat.strongRecOn with
  | ind n ih =>
    intro s z
    refine codeAny_builtin F.entry_any_loop ?_
    rw [Around.under_plainId F.plain_any_loop _]
    show wpAny _ A0.in1 (pyNext (.ref a) >>= _) _ _ s
    refine wpAny_bind (next_gen hgo hh hroom z (fun v y i m σ H s' rv post I' more => ?_) fun σ H s' I' qe => ?_)
    · obtain ⟨k, rfl, q⟩ := post
      cases rv
      refine wpAny_bind (wpAny_holding (wpAny_truthy_bool ?_))
      refine wpAny_bind (wpAny_letGo ?_)
      cases k with
      | false =>
        simp only [if_true, Bool.false_eq_true, if_false] at q ⊢
        obtain ⟨m', hm, w'⟩ := q
        obtain ⟨n', hn, z'⟩ := more m' hm w'
        exact wpAny_pure ⟨plainId_quiet F.plain_any_loop _, ih n' hn s' z'⟩
      | true =>
        simp only [if_true] at q ⊢
        exact wpAny_bind (wpAny_rule (wpAny_pure (hR true σ H s' I' q)))
    · exact wpAny_bind (wpAny_rule (wpAny_pure (hR false σ H s' I' qe)))
end
end GX

/-! part GenW2 -/
set_option Elab.async false
set_option linter.all false
set_option maxRecDepth 100000
set_option maxHeartbeats 4000000
namespace GX
open PySem PySem.Spec PyProof.Rows L2
open Sem (wp)

theorem seg_start {X : Cx} {A A' : Around} {s4 : Shared} {H4 : Hp} {scope : Scope} {genv : Env} {fp : List Addr} {a : Addr} {go : Obj} {it : Addr} {tn : Nat → Heap → Prop} {J : It} {tg elt iter : Expr} {ifs : List Expr} {gpos : Pos}
    {W : Nat → Nat → Hp → Prop} {Post : PostT} {Qe : Hp → Prop} {n : Nat} {s₀ s : Shared}
    (T : Turn X.prog X.w X.K tg J fp it tn) (st : tn 0 s.heap)
    (loop : Seg (model X.prog X.w) A (fun n s₀ r s₁ => r = .ok .next ∧ RP X A' s4 H4 scope genv fp a go Qe n s₀ s₁) (YP X A' s4 H4 scope genv fp a go W Post) n s₀
        (.compLoop (.GeneratorExp elt [⟨tg, iter, ifs, 0⟩] scope gpos) 0 (.ref it) .none genv)
        ((model X.prog X.w).den (.compLoop (.GeneratorExp elt [⟨tg, iter, ifs, 0⟩] scope gpos) 0 (.ref it) .none genv)) [] s) :
    Seg (model X.prog X.w) A (fun n s₀ r s₁ => r = .ok .next ∧ RP X A' s4 H4 scope genv fp a go Qe n s₀ s₁) (YP X A' s4 H4 scope genv fp a go W Post) n s₀
        (.compStart (.GeneratorExp elt [⟨tg, iter, ifs, 0⟩] scope gpos) 0 (.ref it) .none genv)
        ((model X.prog X.w).den (.compStart (.GeneratorExp elt [⟨tg, iter, ifs, 0⟩] scope gpos) 0 (.ref it) .none genv)) [] s := by
  show Seg _ A _ _ _ s₀ _ ((compStart (.GeneratorExp elt [⟨tg, iter, ifs, 0⟩] scope gpos) 0 (.ref it) .none genv).onRaise (leaving genv)) [] s
  unfold compStart
  rw [Sem.onRaise_eq_wrap]
  show Seg _ A _ _ _ s₀ _ ((ask >>= _).wrap _ _ _ _) [] s
  refine seg_bind_wrap (wpAny_askSetting ?_)
  split
  · exact seg_again rfl loop
  · first
      | exact seg_bind_wrap (wpAny_rule (seg_bind_wrap (wpAny_standAt (seg_bind_wrap (T.self _ 0 s _ _ st (seg_again rfl loop))))))
      | (refine seg_bind_wrap (wpAny_rule ?_); show Seg _ A _ _ _ s₀ _ ((standAt iter.pos >>= _).wrap _ _ _ _) [] s; exact seg_bind_wrap (wpAny_standAt (seg_bind_wrap (T.self _ 0 s _ _ st (seg_again rfl loop)))))

section
variable {X : Cx} {pins : List (Addr × Obj)} {σ : L2.St} {H : Hp} {s : Shared}
theorem gen_made {c P : Addr} {elt tg iter : Expr} {ifs : List Expr} {gpos : Pos} {scope : Scope} {own : List (Str × Nat)} {k : Nat} {wi : TI} {g : TG} {tt : TT} {te : TE} {Post : (Nat → Nat → Hp → Prop) → PostT} {Qe : Hp → Prop} {Q' : Value → Shared → Prop}
    (hr : Room (k + 1) X.A) (hN : X.N.Nodup) (TB : GxR.TabB X.base X.mg c P) (hcode : X.env.code = .ref c) (S : GenS X.N X.env.scope scope own) (hi : PI X tg iter wi)
    (hs : ∀ v, genFold iter X.env v = pure v)
    (hg : ∀ (A' : Around) (s : Shared) (H : Hp) (C : Addr) (cl : List (Str × Addr)) (code : Value) (fp : List Addr), Room k A' → PG (gcx X A' s H scope (genEnv scope cl C code builtinsNs X.env) fp) tg g)
    (ht : ∀ (A' : Around) (s : Shared) (H : Hp) (C : Addr) (cl : List (Str × Addr)) (code : Value) (fp : List Addr), Room k A' → PTs (gcx X A' s H scope (genEnv scope cl C code builtinsNs X.env) fp) ifs tt)
    (he : ∀ (A' : Around) (s : Shared) (H : Hp) (C : Addr) (cl : List (Str × Addr)) (code : Value) (fp : List Addr), Room k A' → PE (gcx X A' s H scope (genEnv scope cl C code builtinsNs X.env) fp) elt te)
    (I : Inv X pins σ H s)
    (h : wi σ H fun J H1 => GxR.TabG H1 P ∧ ∀ H2, GxR.Tabbed P H1 H2 → ∃ (W : Nat → Nat → Hp → Prop) (m0 : Nat), W 0 m0 H2 ∧ Turns J g tt te (own.map (·.2)) σ W (Post W) Qe)
    (hQ : ∀ (A' : Around) (s4 : Shared) (H4 : Hp) (genv : Env) (fp : List Addr) (a : Addr) (go : Obj) (gno : Nat) (W : Nat → Nat → Hp → Prop) (nm qn : Value) (n : Nat) (s5 : Shared),
      go = { cls := .type "generator", data := .fields #[.int gno 0, nm, qn] } → Inv X pins σ H4 s4 → (∀ b ∈ fp, FpOk X pins H4 b) → s5.heap.IsGen a gno → Asleep X X.A.in1 A' s4 H4 scope genv fp a go gno W (Post W) Qe n s5 → Q' (.ref a) s5) :
    wpAny (model X.prog X.w) X.A (eval (.GeneratorExp elt [⟨tg, iter, ifs, 0⟩] scope gpos) X.env) Q' X.xe s := by
  have hfree : ∀ y ∈ scope.names, y.2 = .free → ∃ c, X.env.cells.lookup y.1 = some c := fun y hy e => by
    rcases S.free y hy e with k | k
    · exact I.ok.has _ (.inl k)
    · exact I.ok.has _ (.inr k)
  refine wpAny_GeneratorExp_make S.co (closure_ok hfree) S.cell S.dot S.kind (by have := hr.dp; omega) ?_ hs
  refine thn (hi.run pins s σ H _ I h) fun xv s1 h1 => thn h1 fun itv s2 h2 => ?_
  obtain ⟨it, fp, tn, J, H2, e, I2, T, st2, f2, hTab, q⟩ := h2
  subst e
  obtain ⟨ps, hP, ht'⟩ := hTab
  have lim2 := I2.nolimit
  refine ⟨lim2, ?_⟩
  have hPs : s2.heap.get? P = some { cls := .none, data := .fields ps } := I2.hok P _ hP
  have hPlt : P < s2.heap.objs.size := Heap.lt_size hPs
  have cd : PySem.W.CodeHd s2.heap c P := TB.code.keeps fun b u e => I2.bk b u e
  have fpP : ∀ b ∈ fp, b ≠ P := fun b hb z => by
    have := (f2 b hb).1
    rw [z, hP] at this
    cases this
  have sz : ∀ b ∈ fp, b < s2.heap.objs.size := fun b hb => by
    obtain ⟨o, e, _⟩ := T.obj _ _ st2 b hb
    exact Heap.lt_size e
  have cont : ∀ (code : Value) (h3 : Heap) (tk : Nat) (ps' : Array Value), Heap.ExtBut P s2.heap h3 → s2.heap.objs.size ≤ h3.objs.size → h3.get? P = some { cls := .none, data := .fields ps' } → (∃ more, ps' = ps ++ more) → TriplesOk ps'.toList →
      wpAny (model X.prog X.w) X.A (builtinsFor X.env.globals X.env.builtins) (fun bi s₄ =>
        ∀ h', h'.Ns s₄.heap.objs.size (fun y => if y = ".0" then some (.ref it) else none) → Heap.SameBut s₄.heap.objs.size (s₄.heap.push { cls := .type "frame", data := .dict #[] }) h' →
          Q' (.ref h'.objs.size) { s₄ with
            gens := s₄.gens.push (.fresh (.compStart (.GeneratorExp elt [⟨tg, iter, ifs, 0⟩] scope gpos) 0 (.ref it) .none (genEnv scope (cloFrom X.env.cells scope.names []) s₄.heap.objs.size code bi X.env))),
            toks := s₄.toks + 1 + 1 + 1,
            heap := h'.push { cls := .type "generator", data := .fields #[.int s₄.gens.size 0, .str "<genexpr>" (s₄.toks + 1), .str (X.env.qual ++ "<genexpr>") (s₄.toks + 1 + 1)] } }) X.xe { s2 with heap := h3, toks := tk } := by
    intro code h3 tk ps' hx hsz hP3 hmore ht3
    obtain ⟨more, rfl⟩ := hmore
    obtain ⟨bm, ob, e1, e2, e3, e4, e5, e6, e7, e8⟩ := TB.bm
    have keep3 : ∀ b u, b ≠ P → s2.heap.get? b = some u → h3.get? b = some u := fun b u hb e => hx b u hb e
    refine wpAny_builtinsFor (m := X.mg) (by rw [I2.ok.glob]; exact (I2.mod.glob.keeps I2.bk).extBut hx TB.gP) e1 e2 (keep3 _ _ e4 (I2.bk _ _ e5)) e6 e7 e8 ?_
    have I4 : Inv X pins σ (upd H2 P (.tbl (ps ++ more))) { s2 with heap := h3, toks := tk } :=
      GxR.inv_tab (h' := h3) (g' := s2.gens) (d' := s2.drawn) (t' := tk) I2 hP keep3 hP3 I2.bare
    have tab : GxR.Tabbed P H2 (upd H2 P (.tbl (ps ++ more))) := ⟨⟨ps ++ more, upd_same, ht3⟩, fun b hb => upd_ne hb⟩
    obtain ⟨W, m0, w0, turns⟩ := q _ tab
    generalize hs4 : ({ s2 with heap := h3, toks := tk } : Shared) = s4 at I4 ⊢
    have h4 : s4.heap = h3 := by rw [← hs4]
    generalize hH4 : upd H2 P (.tbl (ps ++ more)) = H4 at I4 w0 tab
    have f4 : ∀ b ∈ fp, FpOk X pins H4 b := fun b hb => ⟨by rw [tab.2 b (fpP b hb)]; exact (f2 b hb).1, (f2 b hb).2⟩
    have st4 : tn 0 s4.heap := T.keep _ _ _ st2 fun b hb o e => by rw [h4]; exact keep3 b o (fpP b hb) e
    intro h' hn' hsb
    have hsz' : h'.objs.size = s4.heap.objs.size + 1 := by rw [hsb.1, Heap.size_push]
    have keep' : ∀ b o, s4.heap.get? b = some o → h'.get? b = some o := fun b o e => hsb.extBut b o (Nat.ne_of_lt (Heap.lt_size e)) (Heap.get?_push_of_some _ e)
    generalize hgo : ({ cls := .type "generator", data := .fields #[.int s4.gens.size 0, .str "<genexpr>" (s4.toks + 1), .str (X.env.qual ++ "<genexpr>") (s4.toks + 1 + 1)] } : Obj) = go
    have keep5 : ∀ b o, s4.heap.get? b = some o → (h'.push go).get? b = some o := fun b o e => Heap.get?_push_of_some _ (keep' b o e)
    have hga : (h'.push go).get? h'.objs.size = some go := by rw [← hgo]; exact Heap.get?_push_size _ rfl
    have hac : s4.heap.objs.size < h'.objs.size := by rw [hsz']; exact Nat.lt_succ_self _
    have hA' : ((X.A.in1.in1).deeper (genEnv scope (cloFrom X.env.cells scope.names []) s4.heap.objs.size code builtinsNs X.env)).frames = some (genEnv scope (cloFrom X.env.cells scope.names []) s4.heap.objs.size code builtinsNs X.env :: X.stack) :=
      Around.frames_deeper I4.ok.frames
    have hgc : ∀ v, go.data ≠ .cell v := fun v z => by rw [← hgo] at z; cases z
    have bareP : AllBare (s4.gens.push (.fresh (.compStart (.GeneratorExp elt [⟨tg, iter, ifs, 0⟩] scope gpos) 0 (.ref it) .none (genEnv scope (cloFrom X.env.cells scope.names []) s4.heap.objs.size code builtinsNs X.env)))) := AllBare.push I4.bare rfl
    have sz4 : ∀ b ∈ fp, b < s4.heap.objs.size := fun b hb => by
      obtain ⟨o, e, _⟩ := T.obj _ _ st4 b hb
      exact Heap.lt_size e
    have G := gen_start (own := own) (fp := fp) (A' := (X.A.in1.in1).deeper (genEnv scope (cloFrom X.env.cells scope.names []) s4.heap.objs.size code builtinsNs X.env)) (code := code) (tk := s4.toks + 1 + 1 + 1) (go := go) I4 S hN (fun b hb => ⟨f4 b hb, sz4 b hb⟩) hr.hd hA' keep5 (hn'.push go) bareP hga hac hgc
    have rk := room_gen hr (genEnv scope (cloFrom X.env.cells scope.names []) s4.heap.objs.size code builtinsNs X.env)
    refine hQ (X.A.in1.in1.deeper (genEnv scope (cloFrom X.env.cells scope.names []) s4.heap.objs.size code builtinsNs X.env)) s4 H4 (genEnv scope (cloFrom X.env.cells scope.names []) s4.heap.objs.size code builtinsNs X.env) fp h'.objs.size go s4.gens.size W _ _ m0 _ hgo.symm I4 f4 ⟨go, _, _, hga, by rw [← hgo], by rw [← hgo], by rw [← hgo]⟩ ?_
    refine ⟨_, _, H4, Array.getElem?_push_size .., G, fun s'' hl => ⟨rfl, ?_⟩⟩
    have st5 : tn 0 s''.heap := T.keep _ _ _ st4 fun b _ o e => by rw [hl.1]; exact keep5 b o e
    refine seg_start T st5 ?_
    exact seg_genP (genv := (genEnv scope (cloFrom X.env.cells scope.names []) s4.heap.objs.size code builtinsNs X.env)) (A := X.A.in1.in1) (own := own) rfl S.co T rfl (hg _ s4 H4 s4.heap.objs.size (cloFrom X.env.cells scope.names []) code fp rk) (ht _ s4 H4 s4.heap.objs.size (cloFrom X.env.cells scope.names []) code fp rk) (he _ s4 H4 s4.heap.objs.size (cloFrom X.env.cells scope.names []) code fp rk)
      (fun b hb z => by have h1 := sz4 b hb; rw [← z] at h1; exact Nat.lt_asymm h1 hac) turns m0 m0 0 s'' s'' H4 (Nat.le_refl _) w0 st5 (fun b hb => (f4 b hb).1) (inv_like G hl.1 hl.2.1 hl.2.2)
  cases hf : codeAmong gpos ps.toList with
  | none =>
    refine wpAny_genexprCodeX hcode (cd.code hPs ht') (cd.tab hPs) hf fun c' h' tk hx hge hlt hco' _ htab' _ => ?_
    obtain ⟨o1, vs, f1, tf, fl, tg', inF, tx, tt', op, _, _, _, _, _, _, _, _, _, htr, _⟩ := hco'
    exact cont _ h' tk _ hx (Nat.le_trans hge (Nat.le_of_lt hlt)) htab'.2 ⟨_, rfl⟩ htr
  | some cv =>
    refine wpAny_genexprCode_hit hcode (cd.code hPs ht') hf ?_
    exact cont cv s2.heap s2.toks ps (Heap.ExtBut.refl _ _) (Nat.le_refl _) hPs ⟨#[], by simp⟩ ht'

/-- all (stop = false), any (stop = true) of a generator expression -/
def tGen (stop : Bool) (P : Addr) (wi : TI) (g : TG) (tt : TT) (te : TE) (vs : List Nat) : TE := fun σ H Q => wi σ H fun J H1 => GxR.TabG H1 P ∧ ∀ H2, GxR.Tabbed P H1 H2 → ∃ (W : Nat → Nat → Hp → Prop) (m0 : Nat), W 0 m0 H2 ∧
  Turns J g tt te vs σ W (PostB stop W fun b H' => Q (.bl b) H') (Q (.bl (!stop)))
theorem pe_gall {c P : Addr} {elt tg iter : Expr} {ifs : List Expr} {p pos gpos : Pos} {scope : Scope} {own : List (Str × Nat)} {k : Nat} {wi : TI} {g : TG} {tt : TT} {te : TE}
    (hr : Room (k + 1) X.A) (hN : X.N.Nodup) (hg' : Gl X "all") (hm : X.mg "all" = none) (TB : GxR.TabB X.base X.mg c P) (hcode : X.env.code = .ref c) (S : GenS X.N X.env.scope scope own) (hi : PI X tg iter wi)
    (hg : ∀ (A' : Around) (s : Shared) (H : Hp) (C : Addr) (cl : List (Str × Addr)) (code : Value) (fp : List Addr), Room k A' → PG (gcx X A' s H scope (genEnv scope cl C code builtinsNs X.env) fp) tg g)
    (ht : ∀ (A' : Around) (s : Shared) (H : Hp) (C : Addr) (cl : List (Str × Addr)) (code : Value) (fp : List Addr), Room k A' → PTs (gcx X A' s H scope (genEnv scope cl C code builtinsNs X.env) fp) ifs tt)
    (he : ∀ (A' : Around) (s : Shared) (H : Hp) (C : Addr) (cl : List (Str × Addr)) (code : Value) (fp : List Addr), Room k A' → PE (gcx X A' s H scope (genEnv scope cl C code builtinsNs X.env) fp) elt te)
    (hs : ∀ v, genFold iter X.env v = pure v := by intro _; rfl) (hb : bootBuiltins "all" = some (.builtin "all") := by decide +kernel)
    (hst : starEach [.GeneratorExp elt [⟨tg, iter, ifs, 0⟩] scope gpos] X.env = (false, eval (.GeneratorExp elt [⟨tg, iter, ifs, 0⟩] scope gpos) X.env) :: starEach [] X.env := by rfl) :
    PE X (.Call (.Name "all" p) [.GeneratorExp elt [⟨tg, iter, ifs, 0⟩] scope gpos] [] pos) (tGen false P wi g tt te (own.map (·.2))) := by
  refine ⟨fun pins s σ H Q I h => ?_⟩
  refine wpAny_Call_Name_kw (ld_blt I hg' hm hb ?_)
  refine PyProof.Rows.callWith_builtin1 ?_ hst (by rfl)
  rw [hst]
  show wpAny _ _ (spliced ((false, eval (.GeneratorExp elt [⟨tg, iter, ifs, 0⟩] scope gpos) X.env) :: backTo pos (starEach [] X.env))) _ _ s
  refine Calls.spliced_cons (gen_made (Post := fun W => PostB false W fun b H' => Q (.bl b) H') (Qe := Q (.bl true)) hr hN TB hcode S hi hs hg ht he I h fun A' s4 H4 genv fp a go gno W nm qn n s5 hgo I4 f4 hgen z => ?_)
  refine Calls.spliced_nil ?_
  refine call_function_tree F.kind_all F.plain_all F.entry_all (F.args_all1 _) ?_
  unfold Builtin.«all»
  refine wpAny_bind (m := oneArg "all" _) (wpAny_pure ?_)
  refine wpAny_bind (wpAny_pyIter_gen hgen ?_)
  exact wpAny_pure ⟨plainId_quiet F.plain_all_loop _, all_loop (A0 := X.A) (Q := fun b H' => Q (.bl b) H') rfl hgo hr.hd (by have := hr.dp; show X.A.depth < _; omega)
    (fun b σ' H' s' I' q => ⟨.bl b, H', back I4 f4 I', rfl, q⟩) n s5 z⟩
theorem pe_gany {c P : Addr} {elt tg iter : Expr} {ifs : List Expr} {p pos gpos : Pos} {scope : Scope} {own : List (Str × Nat)} {k : Nat} {wi : TI} {g : TG} {tt : TT} {te : TE}
    (hr : Room (k + 1) X.A) (hN : X.N.Nodup) (hg' : Gl X "any") (hm : X.mg "any" = none) (TB : GxR.TabB X.base X.mg c P) (hcode : X.env.code = .ref c) (S : GenS X.N X.env.scope scope own) (hi : PI X tg iter wi)
    (hg : ∀ (A' : Around) (s : Shared) (H : Hp) (C : Addr) (cl : List (Str × Addr)) (code : Value) (fp : List Addr), Room k A' → PG (gcx X A' s H scope (genEnv scope cl C code builtinsNs X.env) fp) tg g)
    (ht : ∀ (A' : Around) (s : Shared) (H : Hp) (C : Addr) (cl : List (Str × Addr)) (code : Value) (fp : List Addr), Room k A' → PTs (gcx X A' s H scope (genEnv scope cl C code builtinsNs X.env) fp) ifs tt)
    (he : ∀ (A' : Around) (s : Shared) (H : Hp) (C : Addr) (cl : List (Str × Addr)) (code : Value) (fp : List Addr), Room k A' → PE (gcx X A' s H scope (genEnv scope cl C code builtinsNs X.env) fp) elt te)
    (hs : ∀ v, genFold iter X.env v = pure v := by intro _; rfl)
    (hst : starEach [.GeneratorExp elt [⟨tg, iter, ifs, 0⟩] scope gpos] X.env = (false, eval (.GeneratorExp elt [⟨tg, iter, ifs, 0⟩] scope gpos) X.env) :: starEach [] X.env := by rfl) :
    PE X (.Call (.Name "any" p) [.GeneratorExp elt [⟨tg, iter, ifs, 0⟩] scope gpos] [] pos) (tGen true P wi g tt te (own.map (·.2))) := by
  refine ⟨fun pins s σ H Q I h => ?_⟩
  refine wpAny_Call_Name_kw (ld_blt I hg' hm boot_any ?_)
  refine PyProof.Rows.callWith_builtin1 ?_ hst (by rfl)
  rw [hst]
  show wpAny _ _ (spliced ((false, eval (.GeneratorExp elt [⟨tg, iter, ifs, 0⟩] scope gpos) X.env) :: backTo pos (starEach [] X.env))) _ _ s
  refine Calls.spliced_cons (gen_made (Post := fun W => PostB true W fun b H' => Q (.bl b) H') (Qe := Q (.bl false)) hr hN TB hcode S hi hs hg ht he I h fun A' s4 H4 genv fp a go gno W nm qn n s5 hgo I4 f4 hgen z => ?_)
  refine Calls.spliced_nil ?_
  refine call_function_tree F.kind_any F.plain_any F.entry_any (F.args_any1 _) ?_
  unfold Builtin.«any»
  refine wpAny_bind (m := oneArg "any" _) (wpAny_pure ?_)
  refine wpAny_bind (wpAny_pyIter_gen hgen ?_)
  exact wpAny_pure ⟨plainId_quiet F.plain_any_loop _, any_loop (A0 := X.A) (Q := fun b H' => Q (.bl b) H') rfl hgo hr.hd (by have := hr.dp; show X.A.depth < _; omega)
    (fun b σ' H' s' I' q => ⟨.bl b, H', back I4 f4 I', rfl, q⟩) n s5 z⟩
end
end GX

/-! part D1 -/
set_option Elab.async false
set_option linter.all false
set_option maxRecDepth 100000
set_option maxHeartbeats 4000000
/-! values as data over the abstract heap; own work -/
namespace PD
open PySem PySem.Spec PyProof.Rows L2

abbrev Dt := PyData
/-- a list | a tuple of the module's own -/
def KL (K : PySem.W.Frag) (a : Addr) (xs : List V) : Prop := ∃ (o : Obj) (its : Array Value) (n : Nat), K.lookup a = some o ∧ o.cls = .type "list" ∧ o.dict = none ∧ o.data = .seq its n ∧ its.size ≤ sizeLine ∧ Vals xs its.toList
def KT (K : PySem.W.Frag) (a : Addr) (xs : List V) : Prop := ∃ (o : Obj) (its : Array Value) (n : Nat), K.lookup a = some o ∧ o.cls = .type "tuple" ∧ o.data = .seq its n ∧ its.size ≤ sizeLine ∧ Vals xs its.toList
/-- a list | a tuple that nobody changes: not in U -/
def NodeV (K : PySem.W.Frag) (U : Addr → Prop) (H : Hp) (a : Addr) (xs : List V) : Prop := (Rd H a (.lst xs) ∧ ¬ U a) ∨ KL K a xs
/-- .. made by this program's calls: one that may still be changed -/
def NodeL (U : Addr → Prop) (H : Hp) (a : Addr) (xs : List V) : Prop := H a = some (.lst xs) ∧ ¬ U a
def NodeT (K : PySem.W.Frag) (U : Addr → Prop) (H : Hp) (a : Addr) (xs : List V) : Prop := (Rd H a (.tup xs) ∧ ¬ U a) ∨ KT K a xs
theorem NodeV.sq {K U H a xs} (h : NodeV K U H a xs) : SqL K H a xs := h.elim (fun z => .inl z.1) .inr
theorem NodeL.v {K : PySem.W.Frag} {U H a xs} (h : NodeL U H a xs) : NodeV K U H a xs := .inl ⟨.inl h.1, h.2⟩
theorem NodeL.sq {K : PySem.W.Frag} {U H a xs} (h : NodeL U H a xs) : SqL K H a xs := .inl (.inl h.1)
theorem NodeT.sq {K U H a xs} (h : NodeT K U H a xs) : SqT K H a xs := h.elim (fun z => .inl z.1) .inr

mutual
/-- v stands for the data d -/
def Rep (K : PySem.W.Frag) (U : Addr → Prop) (H : Hp) : Dt → V → Prop
  | .none, v => v = .non
  | .bool b, v => v = .bl b
  | .int i, v => v = .int i
  | .str s, v => v = .str s
  | .list ds, v => ∃ a xs, v = .ref a ∧ NodeL U H a xs ∧ Reps K U H ds xs
  | .tuple ds, v => ∃ a xs, v = .ref a ∧ NodeT K U H a xs ∧ Reps K U H ds xs
  | .dict _, _ => False
def Reps (K : PySem.W.Frag) (U : Addr → Prop) (H : Hp) : List Dt → List V → Prop
  | [], xs => xs = []
  | d :: ds, xs => ∃ x r, xs = x :: r ∧ Rep K U H d x ∧ Reps K U H ds r
end
/-- .. the list itself may be one that changes -/
def RepV (K : PySem.W.Frag) (U W : Addr → Prop) (H : Hp) (d : Dt) (v : V) : Prop := match d with
  | .list ds => ∃ a xs, v = .ref a ∧ NodeV K W H a xs ∧ Reps K U H ds xs
  | d => Rep K U H d v
def RepVs (K : PySem.W.Frag) (U W : Addr → Prop) (H : Hp) : List Dt → List V → Prop
  | [], xs => xs = []
  | d :: ds, xs => ∃ x r, xs = x :: r ∧ RepV K U W H d x ∧ RepVs K U W H ds r

section
variable {K : PySem.W.Frag} {U U' : Addr → Prop} {H H' : Hp}
theorem NodeV.mono {W : Addr → Prop} {a xs} (hW : ∀ b, W b → U b) (h : NodeV K U H a xs) : NodeV K W H a xs := h.elim (fun z => .inl ⟨z.1, fun y => z.2 (hW a y)⟩) .inr
theorem Rep.view {W : Addr → Prop} (hW : ∀ b, W b → U b) : ∀ {d : Dt} {v : V}, Rep K U H d v → RepV K U W H d v
  | .none, _, h => h
  | .bool _, _, h => h
  | .int _, _, h => h
  | .str _, _, h => h
  | .list _, _, ⟨a, xs, e, n, r⟩ => ⟨a, xs, e, n.v.mono hW, r⟩
  | .tuple _, _, h => h
  | .dict _, _, h => h
theorem Reps.view {W : Addr → Prop} (hW : ∀ b, W b → U b) : ∀ {ds : List Dt} {vs : List V}, Reps K U H ds vs → RepVs K U W H ds vs
  | [], _, h => h
  | d :: ds, _, ⟨x, r, e, h1, h2⟩ => ⟨x, r, e, h1.view hW, h2.view hW⟩
theorem reps_nil : Reps K U H [] [] := rfl
theorem reps_cons {d : Dt} {ds : List Dt} {x : V} {xs : List V} (h : Rep K U H d x) (t : Reps K U H ds xs) : Reps K U H (d :: ds) (x :: xs) := ⟨x, xs, rfl, h, t⟩
theorem Reps.length : ∀ {ds : List Dt} {xs : List V}, Reps K U H ds xs → xs.length = ds.length
  | [], _, h => by cases (show _ = [] from h); rfl
  | d :: ds, _, ⟨x, r, e, _, h2⟩ => by subst e; simp [h2.length]
theorem RepVs.length {W : Addr → Prop} : ∀ {ds : List Dt} {xs : List V}, RepVs K U W H ds xs → xs.length = ds.length
  | [], _, h => by cases (show _ = [] from h); rfl
  | d :: ds, _, ⟨x, r, e, _, h2⟩ => by subst e; simp [h2.length]
theorem Reps.append : ∀ {ds es : List Dt} {xs ys : List V}, Reps K U H ds xs → Reps K U H es ys → Reps K U H (ds ++ es) (xs ++ ys)
  | [], _, _, _, h, g => by cases (show _ = [] from h); exact g
  | d :: ds, _, _, _, ⟨x, r, e, h1, h2⟩, g => by subst e; exact ⟨x, _, rfl, h1, h2.append g⟩
theorem Reps.at : ∀ {ds : List Dt} {xs : List V} {i : Nat} {d : Dt}, Reps K U H ds xs → ds[i]? = some d → ∃ x, xs[i]? = some x ∧ Rep K U H d x
  | [], _, _, _, _, e => by simp at e
  | d :: ds, _, 0, _, ⟨x, r, e, h1, h2⟩, q => by
    subst e
    cases (show some d = some _ from q)
    exact ⟨x, rfl, h1⟩
  | d :: ds, _, i + 1, _, ⟨x, r, e, h1, h2⟩, q => by
    subst e
    obtain ⟨y, hy, ry⟩ := h2.at (i := i) (by simpa using q)
    exact ⟨y, by simpa using hy, ry⟩
theorem Reps.at' : ∀ {ds : List Dt} {xs : List V} {i : Nat} {x : V}, Reps K U H ds xs → xs[i]? = some x → ∃ d, ds[i]? = some d ∧ Rep K U H d x
  | [], _, _, _, h, e => by cases (show _ = [] from h); simp at e
  | d :: ds, _, 0, _, ⟨x, r, e, h1, h2⟩, q => by
    subst e
    cases (show some x = some _ from q)
    exact ⟨d, rfl, h1⟩
  | d :: ds, _, i + 1, _, ⟨x, r, e, h1, h2⟩, q => by
    subst e
    obtain ⟨y, hy, ry⟩ := h2.at' (i := i) (by simpa using q)
    exact ⟨y, by simpa using hy, ry⟩
theorem Reps.take : ∀ {ds : List Dt} {xs : List V} (n : Nat), Reps K U H ds xs → Reps K U H (ds.take n) (xs.take n)
  | _, _, 0, h => by simp [Reps]
  | [], _, n + 1, h => by cases (show _ = [] from h); simp [Reps]
  | d :: ds, _, n + 1, ⟨x, r, e, h1, h2⟩ => by subst e; exact ⟨x, _, rfl, h1, h2.take n⟩
theorem Reps.drop : ∀ {ds : List Dt} {xs : List V} (n : Nat), Reps K U H ds xs → Reps K U H (ds.drop n) (xs.drop n)
  | _, _, 0, h => h
  | [], _, n + 1, h => by cases (show _ = [] from h); simp [Reps]
  | d :: ds, _, n + 1, ⟨x, r, e, h1, h2⟩ => by subst e; exact h2.drop n
theorem Reps.reverse : ∀ {ds : List Dt} {xs : List V}, Reps K U H ds xs → Reps K U H ds.reverse xs.reverse
  | [], _, h => by cases (show _ = [] from h); simp [Reps]
  | d :: ds, _, ⟨x, r, e, h1, h2⟩ => by
    subst e
    rw [List.reverse_cons, List.reverse_cons]
    exact h2.reverse.append (reps_cons h1 reps_nil)
theorem Reps.set : ∀ {ds : List Dt} {xs : List V} {d : Dt} {x : V} (i : Nat), Reps K U H ds xs → Rep K U H d x → Reps K U H (ds.set i d) (xs.set i x)
  | [], _, _, _, _, h, _ => by cases (show _ = [] from h); simp [Reps]
  | d :: ds, _, _, _, 0, ⟨x, r, e, h1, h2⟩, g => by subst e; exact ⟨_, r, rfl, g, h2⟩
  | d :: ds, _, _, _, i + 1, ⟨x, r, e, h1, h2⟩, g => by subst e; exact ⟨x, _, rfl, h1, h2.set i g⟩

/-- all that stands outside W stays; tables may grow -/
structure Ext (W : Addr → Prop) (H H' : Hp) : Prop where
  keep : ∀ b o, H b = some o → ¬ W b → (∀ ps, o ≠ .tbl ps) → H' b = some o
  tbl : ∀ b ps, H b = some (.tbl ps) → ∃ ps', H' b = some (.tbl ps')
theorem Ext.refl {W : Addr → Prop} : Ext W H H := ⟨fun _ _ h _ _ => h, fun _ ps h => ⟨ps, h⟩⟩
theorem Ext.trans {W : Addr → Prop} {H1 : Hp} (a : Ext W H H1) (b : Ext W H1 H') : Ext W H H' := ⟨fun c o h n t => b.keep c o (a.keep c o h n t) n t, fun c ps h => let ⟨_, h1⟩ := a.tbl c ps h; b.tbl c _ h1⟩
theorem Ext.mono {W W' : Addr → Prop} (a : Ext W H H') (h : ∀ b, W b → W' b) : Ext W' H H' := ⟨fun c o e n t => a.keep c o e (fun z => n (h c z)) t, a.tbl⟩
theorem Ext.of {W : Addr → Prop} (a : Same H H') : Ext W H H' := ⟨fun c o e _ _ => a c o e, fun c ps e => ⟨ps, a c _ e⟩⟩
theorem Ext.none {W : Addr → Prop} {b : Addr} (a : Ext W H H') (h : H' b = none) (n : ¬ W b) : H b = none := by
  cases e : H b with
  | none => rfl
  | some o =>
    cases o with
    | tbl ps => obtain ⟨ps', q⟩ := a.tbl b ps e; rw [h] at q; cases q
    | _ => have q := a.keep b _ e n (fun _ z => by cases z); rw [h] at q; cases q
theorem Ext.rdL {W : Addr → Prop} {a : Addr} {xs : List V} (e : Ext W H H') (h : Rd H a (.lst xs)) (n : ¬ W a) : Rd H' a (.lst xs) := by
  rcases h with h | ⟨o, h⟩
  · exact .inl (e.keep _ _ h n fun _ z => by cases z)
  · exact .inr ⟨o, e.keep _ _ h n fun _ z => by cases z⟩
theorem Ext.rdT {W : Addr → Prop} {a : Addr} {xs : List V} (e : Ext W H H') (h : Rd H a (.tup xs)) (n : ¬ W a) : Rd H' a (.tup xs) := by
  rcases h with h | ⟨o, h⟩
  · exact .inl (e.keep _ _ h n fun _ z => by cases z)
  · exact .inr ⟨o, e.keep _ _ h n fun _ z => by cases z⟩
mutual
theorem Rep.ext {W : Addr → Prop} (e : Ext W H H') (hW : ∀ b, W b → U b) (hU : ∀ b, H b ≠ none → U' b → U b) : ∀ {d : Dt} {v : V}, Rep K U H d v → Rep K U' H' d v
  | .none, _, h => h
  | .bool _, _, h => h
  | .int _, _, h => h
  | .str _, _, h => h
  | .list _, _, ⟨a, xs, q, n, r⟩ => by
    refine ⟨a, xs, q, ?_, Reps.ext e hW hU r⟩
    obtain ⟨n, u⟩ := n
    have hn : H a ≠ none := by rw [n]; simp
    exact ⟨e.keep _ _ n (fun z => u (hW a z)) (fun _ z => by cases z), fun z => u (hU a hn z)⟩
  | .tuple _, _, ⟨a, xs, q, n, r⟩ => by
    refine ⟨a, xs, q, ?_, Reps.ext e hW hU r⟩
    rcases n with ⟨n, u⟩ | n
    · have hn : H a ≠ none := by rcases n with n | ⟨o, n⟩ <;> rw [n] <;> simp
      exact .inl ⟨e.rdT n fun z => u (hW a z), fun z => u (hU a hn z)⟩
    · exact .inr n
  | .dict _, _, h => h
theorem Reps.ext {W : Addr → Prop} (e : Ext W H H') (hW : ∀ b, W b → U b) (hU : ∀ b, H b ≠ none → U' b → U b) : ∀ {ds : List Dt} {vs : List V}, Reps K U H ds vs → Reps K U' H' ds vs
  | [], _, h => h
  | d :: ds, _, ⟨x, r, q, h1, h2⟩ => ⟨x, r, q, Rep.ext e hW hU h1, Reps.ext e hW hU h2⟩
end
/-- U unchanged -/
theorem Rep.keep {W : Addr → Prop} (e : Ext W H H') (hW : ∀ b, W b → U b) {d : Dt} {v : V} (h : Rep K U H d v) : Rep K U H' d v := h.ext e hW fun _ _ z => z
theorem Reps.keep {W : Addr → Prop} (e : Ext W H H') (hW : ∀ b, W b → U b) {ds : List Dt} {vs : List V} (h : Reps K U H ds vs) : Reps K U H' ds vs := h.ext e hW fun _ _ z => z
theorem RepV.keep {W : Addr → Prop} (e : Ext W H H') (hW : ∀ b, W b → U b) {d : Dt} {v : V} (h : RepV K U W H d v) : RepV K U W H' d v := by
  cases d with
  | list ds =>
    obtain ⟨a, xs, q, n, r⟩ := h
    refine ⟨a, xs, q, ?_, r.keep e hW⟩
    rcases n with ⟨n, u⟩ | n
    · exact .inl ⟨e.rdL n u, u⟩
    · exact .inr n
  | none => exact Rep.keep (K := K) (U := U) (d := .none) e hW h
  | bool b => exact Rep.keep (K := K) (U := U) (d := .bool b) e hW h
  | int b => exact Rep.keep (K := K) (U := U) (d := .int b) e hW h
  | str b => exact Rep.keep (K := K) (U := U) (d := .str b) e hW h
  | tuple b => exact Rep.keep (K := K) (U := U) (d := .tuple b) e hW h
  | dict b => exact h
theorem RepVs.keep {W : Addr → Prop} (e : Ext W H H') (hW : ∀ b, W b → U b) : ∀ {ds : List Dt} {vs : List V}, RepVs K U W H ds vs → RepVs K U W H' ds vs
  | [], _, h => h
  | d :: ds, _, ⟨x, r, q, h1, h2⟩ => ⟨x, r, q, h1.keep e hW, RepVs.keep e hW h2⟩

mutual
theorem Rep.plain : ∀ {d : Dt} {v : V}, Rep K U H d v → d.plain = true
  | .none, _, _ => rfl
  | .bool _, _, _ => rfl
  | .int _, _, _ => rfl
  | .str _, _, _ => rfl
  | .list _, _, ⟨_, _, _, _, r⟩ => Reps.plain r
  | .tuple _, _, ⟨_, _, _, _, r⟩ => Reps.plain r
  | .dict _, _, h => h.elim
theorem Reps.plain : ∀ {ds : List Dt} {vs : List V}, Reps K U H ds vs → PyData.plainAll ds = true
  | [], _, _ => rfl
  | d :: ds, _, ⟨x, r, q, h1, h2⟩ => by
    show (d.plain && PyData.plainAll ds) = true
    rw [Rep.plain h1, Reps.plain h2]; rfl
end
theorem RepV.plain {W : Addr → Prop} {d : Dt} {v : V} (h : RepV K U W H d v) : d.plain = true := by
  cases d with
  | list ds => obtain ⟨_, _, _, _, r⟩ := h; exact Reps.plain r
  | none => rfl
  | bool b => rfl
  | int b => rfl
  | str b => rfl
  | tuple b => exact Rep.plain (K := K) (U := U) (d := .tuple b) h
  | dict b => exact (show False from h).elim

/-! ### as the library reads it -/
mutual
theorem Rep.reads {P : Program} {w : World} {h : Heap} (hok : HOk P w H h) (kin : K.In h) : ∀ {d : Dt} {v : V} {u : Value}, Rep K U H d v → RelV v u → ∃ as, Reads h u d as
  | .none, _, _, q, r => by cases (show _ = V.non from q); cases (show _ = Value.none from r); exact ⟨_, .none⟩
  | .bool b, _, _, q, r => by cases (show _ = V.bl b from q); cases (show _ = Value.bool b from r); exact ⟨_, .bool _⟩
  | .int i, _, _, q, r => by cases (show _ = V.int i from q); obtain ⟨t, rfl⟩ := (show ∃ t, _ = Value.int i t from r); exact ⟨_, .int _ _⟩
  | .str i, _, _, q, r => by cases (show _ = V.str i from q); obtain ⟨t, rfl⟩ := (show ∃ t, _ = Value.str i t from r); exact ⟨_, .str _ _⟩
  | .list ds, _, _, ⟨a, xs, q, n, rr⟩, r => by
    subst q
    cases (show _ = Value.ref a from r)
    obtain ⟨_, its, k, rv, e⟩ := (Rd.ok (.inl n.1) hok : _)
    obtain ⟨as, ra⟩ := Reps.reads hok kin rr rv
    exact ⟨_, .list e rfl rfl (by simpa using ra)⟩
  | .tuple ds, _, _, ⟨a, xs, q, n, rr⟩, r => by
    subst q
    cases (show _ = Value.ref a from r)
    rcases n with ⟨n, _⟩ | ⟨o, its, k, hk, hc, hs, hz, rv⟩
    · obtain ⟨_, its, rv, o, e, hc, k, hs⟩ := n.ok hok
      obtain ⟨as, ra⟩ := Reps.reads hok kin rr rv
      exact ⟨_, .tuple e hc hs (by simpa using ra)⟩
    · obtain ⟨as, ra⟩ := Reps.reads hok kin rr rv
      exact ⟨_, .tuple (kin a o hk) hc hs ra⟩
  | .dict _, _, _, q, _ => q.elim
theorem Reps.reads {P : Program} {w : World} {h : Heap} (hok : HOk P w H h) (kin : K.In h) : ∀ {ds : List Dt} {vs : List V} {us : List Value}, Reps K U H ds vs → Vals vs us → ∃ as, ReadsAll h us ds as
  | [], _, _, q, r => by cases (show _ = [] from q); cases r; exact ⟨_, .nil⟩
  | d :: ds, _, _, ⟨x, t, q, h1, h2⟩, r => by
    subst q
    cases r with
    | cons r1 r2 =>
      obtain ⟨as, ra⟩ := Rep.reads hok kin h1 r1
      obtain ⟨bs, rb⟩ := Reps.reads hok kin h2 r2
      exact ⟨_, .cons ra rb⟩
end
theorem RepV.reads {P : Program} {w : World} {h : Heap} (hok : HOk P w H h) (kin : K.In h) {W : Addr → Prop} {d : Dt} {v : V} {u : Value} (q : RepV K U W H d v) (r : RelV v u) : ∃ as, Reads h u d as := by
  cases d with
  | list ds =>
    obtain ⟨a, xs, q, n, rr⟩ := q
    subst q
    cases (show _ = Value.ref a from r)
    rcases n with ⟨n, _⟩ | ⟨o, its, k, hk, hc, hd, hs, hz, rv⟩
    · obtain ⟨_, its, k, rv, e⟩ := n.ok hok
      obtain ⟨as, ra⟩ := Reps.reads hok kin rr rv
      exact ⟨_, .list e rfl rfl (by simpa using ra)⟩
    · obtain ⟨as, ra⟩ := Reps.reads hok kin rr rv
      exact ⟨_, .list (kin a o hk) hc hs ra⟩
  | none => exact Rep.reads (U := U) (d := .none) hok kin q r
  | bool b => exact Rep.reads (U := U) (d := .bool b) hok kin q r
  | int b => exact Rep.reads (U := U) (d := .int b) hok kin q r
  | str b => exact Rep.reads (U := U) (d := .str b) hok kin q r
  | tuple b => exact Rep.reads (U := U) (d := .tuple b) hok kin q r
  | dict b => exact (show False from q).elim
end
end PD

/-! part D2 -/
set_option Elab.async false
set_option linter.all false
set_option maxRecDepth 100000
set_option maxHeartbeats 4000000
/-! a body's data: what its names hold, its expressions and statements as functions; own work -/
namespace PD
open PySem PySem.Spec PyProof.Rows L2

/-- what a name holds: nothing known; data that nobody changes; a list of one's own that grows; the pot -/
inductive DV where
  | un | sh (d : Dt) | lk (d : Dt) | vw (d : Dt) | ow (ds : List Dt) | pt
abbrev En := List DV
abbrev Pt := Int × Int
abbrev Ev (α : Type) := En → Pt → Option (α × Pt)

/-- a code object's table: any codes, or codes of one name (of a lambda) -/
abbrev TbT := Addr × Option Str
def TabQ (H : Hp) (p : TbT) : Prop := match p.2 with
  | none => GxR.TabG H p.1
  | some q => LamX.TabS H p.1 q
theorem TabQ.tbl {H : Hp} {p : TbT} (t : TabQ H p) : ∃ ps, H p.1 = some (.tbl ps) := by
  obtain ⟨a, q⟩ := p
  cases q with
  | none => obtain ⟨ps, h, _⟩ := (show GxR.TabG H a from t); exact ⟨ps, h⟩
  | some q => obtain ⟨ps, h, _⟩ := (show LamX.TabS H a q from t); exact ⟨ps, h⟩
theorem TabQ.keep {H H' : Hp} {p : TbT} (t : TabQ H p) (h : ∀ o, H p.1 = some o → H' p.1 = some o) (hc : ∀ c q, H c = some (LamX.CodeO c q) → H' c = some (LamX.CodeO c q)) : TabQ H' p := by
  obtain ⟨a, q⟩ := p
  cases q with
  | none => obtain ⟨ps, e, t⟩ := (show GxR.TabG H a from t); exact (show GxR.TabG H' a from ⟨ps, h _ e, t⟩)
  | some q =>
    obtain ⟨ps, e, t, f⟩ := (show LamX.TabS H a q from t)
    exact (show LamX.TabS H' a q from ⟨ps, h _ e, t, fun pos cv z => let ⟨c, e1, e2⟩ := f pos cv z; ⟨c, e1, hc c q e2⟩⟩)
theorem TabQ.same {H H' : Hp} {p : TbT} (t : TabQ H p) (e : Same H H') : TabQ H' p := t.keep (fun o h => e _ _ h) fun c q h => e _ _ h
/-- a body's surroundings: the tables of code objects; what stood and may be changed by callers; the pot; the heap at the entry -/
structure Fx where
  K : PySem.W.Frag
  T : List TbT
  U0 : Addr → Prop
  pot : Option Addr
  H0 : Hp
def Fx.W (C : Fx) : Addr → Prop := fun b => C.pot = some b
def Live (H : Hp) (b : Addr) : Prop := ∃ o, H b = some o ∧ ∀ ps, o ≠ .tbl ps
def Tabs (T : List TbT) (H : Hp) : Prop := ∀ p ∈ T, TabQ H p

/-- .. handed in by a caller that may change the list later: it stays while this body runs -/
def RepH (C : Fx) (U : Addr → Prop) (H : Hp) (d : Dt) (v : V) : Prop := match d with
  | .list ds => ∃ a xs, v = .ref a ∧ NodeV C.K C.W C.H0 a xs ∧ Reps C.K U H ds xs
  | d => Rep C.K U H d v
theorem RepH.ext {C : Fx} {U U' W : Addr → Prop} {H H' : Hp} (e : Ext W H H') (hW : ∀ b, W b → U b) (hU : ∀ b, H b ≠ none → U' b → U b) {d : Dt} {v : V} (h : RepH C U H d v) : RepH C U' H' d v := by
  cases d with
  | list ds => obtain ⟨a, xs, q, n, r⟩ := h; exact ⟨a, xs, q, n, r.ext e hW hU⟩
  | none => exact Rep.ext (K := C.K) (d := .none) e hW hU h
  | bool b => exact Rep.ext (K := C.K) (d := .bool b) e hW hU h
  | int b => exact Rep.ext (K := C.K) (d := .int b) e hW hU h
  | str b => exact Rep.ext (K := C.K) (d := .str b) e hW hU h
  | tuple b => exact Rep.ext (K := C.K) (d := .tuple b) e hW hU h
  | dict b => exact h
theorem RepH.keep {C : Fx} {U W : Addr → Prop} {H H' : Hp} (e : Ext W H H') (hW : ∀ b, W b → U b) {d : Dt} {v : V} (h : RepH C U H d v) : RepH C U H' d v := h.ext e hW fun _ _ z => z
theorem RepH.view {C : Fx} {U : Addr → Prop} {H : Hp} (since : Ext C.W C.H0 H) {d : Dt} {v : V} (h : RepH C U H d v) : RepV C.K U C.W H d v := by
  cases d with
  | list ds =>
    obtain ⟨a, xs, q, n, r⟩ := h
    refine ⟨a, xs, q, ?_, r⟩
    rcases n with ⟨n, u⟩ | n
    · exact .inl ⟨since.rdL n u, u⟩
    · exact .inr n
  | none => exact h
  | bool b => exact h
  | int b => exact h
  | str b => exact h
  | tuple b => exact h
  | dict b => exact h
theorem RepH.of {C : Fx} {U W : Addr → Prop} (hW : ∀ b, C.W b → W b) {d : Dt} {v : V} (h : RepV C.K U W C.H0 d v) : RepH C U C.H0 d v := by
  cases d with
  | list ds => obtain ⟨a, xs, q, n, r⟩ := h; exact ⟨a, xs, q, n.mono hW, r⟩
  | none => exact h
  | bool b => exact h
  | int b => exact h
  | str b => exact h
  | tuple b => exact h
  | dict b => exact h
/-- what this body may change: lists of its own, the pot -/
def Chg (C : Fx) (U : Addr → Prop) : Addr → Prop := fun b => (U b ∧ C.H0 b = none) ∨ C.W b
/-- what a value's parts keep clear of: all of U (nobody else sees them as changing), or what this body changes -/
def Um (m : Bool) (C : Fx) (U : Addr → Prop) : Addr → Prop := match m with
  | true => U
  | false => Chg C U
/-- .. as a name's content -/
def mkS (m : Bool) (d : Dt) : DV := match m with
  | true => .sh d
  | false => .lk d
def SlotR (C : Fx) (U : Addr → Prop) (H : Hp) : Option DV → Option (Option V) → Prop
  | some (.sh d), y => ∃ v, y = some (some v) ∧ Rep C.K U H d v
  | some (.lk d), y => ∃ v, y = some (some v) ∧ Rep C.K (Chg C U) H d v
  | some (.vw d), y => ∃ v, y = some (some v) ∧ RepH C U H d v
  | some (.ow ds), y => ∃ a xs, y = some (some (.ref a)) ∧ H a = some (.lst xs) ∧ U a ∧ C.H0 a = none ∧ Reps C.K U H ds xs
  | some .pt, y => ∃ p, y = some (some (.ref p)) ∧ C.pot = some p
  | some .un, _ => True
  | none, _ => True
structure Rel (C : Fx) (U : Addr → Prop) (σ : L2.St) (ρ : En) (P : Pt) (H : Hp) : Prop where
  u0 : ∀ b, C.U0 b → U b
  d0 : ∀ b, C.U0 b → Live C.H0 b
  p0 : ∀ p, C.pot = some p → C.U0 p
  dom : ∀ b, U b → Live H b
  since : Ext C.W C.H0 H
  tabs : Tabs C.T H
  pot : ∀ p, C.pot = some p → H p = some (.lst [.int P.1, .int P.2])
  len : σ.length = ρ.length
  sl : ∀ i : Nat, SlotR C U H ρ[i]? σ[i]?
  ap : ∀ (i j : Nat) (ds es : List Dt), ρ[i]? = some (.ow ds) → ρ[j]? = some (.ow es) → σ[i]? = σ[j]? → i = j

section
variable {C : Fx} {U U' : Addr → Prop} {σ : L2.St} {ρ : En} {P P' : Pt} {H H' : Hp}
theorem Rel.cu (R : Rel C U σ ρ P H) : ∀ b, Chg C U b → U b := fun b h => h.elim (·.1) fun h => R.u0 b (R.p0 b h)
theorem Rel.um {m : Bool} (R : Rel C U σ ρ P H) : ∀ b, Um m C U b → U b := by
  cases m
  · exact R.cu
  · exact fun _ h => h
theorem Rel.wm {m : Bool} (R : Rel C U σ ρ P H) : ∀ b, C.W b → Um m C U b := by
  cases m
  · exact fun b h => .inr h
  · exact fun b h => R.u0 b (R.p0 b h)
theorem Rel.cm {m : Bool} (R : Rel C U σ ρ P H) : ∀ b, Chg C U b → Um m C U b := by
  cases m
  · exact fun b h => h
  · exact R.cu
theorem Rel.dm {m : Bool} (R : Rel C U σ ρ P H) : ∀ b, Um m C U b → Live H b := fun b h => R.dom b (R.um b h)
theorem Rel.w (R : Rel C U σ ρ P H) : ∀ b, C.W b → U b := fun b h => R.u0 b (R.p0 b h)
theorem Live.ext {W : Addr → Prop} {b : Addr} (l : Live H b) (e : Ext W H H') (n : ¬ W b) : Live H' b := let ⟨o, h, t⟩ := l; ⟨o, e.keep b o h n t, t⟩
theorem Live.ne {b : Addr} (l : Live H b) : H b ≠ none := let ⟨o, h, _⟩ := l; by rw [h]; simp
theorem Rel.new (R : Rel C U σ ρ P H) {p : Addr} (h : H p = none) : ¬ U p := fun u => (R.dom p u).ne h
/-- the heap goes on, the names stay -/
theorem Rel.step (R : Rel C U σ ρ P H) (e : Ext C.W H H') (t : Tabs C.T H') (hp : ∀ p, C.pot = some p → H' p = some (.lst [.int P'.1, .int P'.2])) : Rel C U σ ρ P' H' where
  u0 := R.u0
  d0 := R.d0
  p0 := R.p0
  dom := fun b u => by
    by_cases hb : C.W b
    · exact ⟨_, hp b hb, fun _ z => by cases z⟩
    · exact (R.dom b u).ext e hb
  since := R.since.trans e
  tabs := t
  pot := hp
  len := R.len
  sl := fun i => by
    have h := R.sl i
    revert h
    cases hρ : ρ[i]? with
    | none => exact fun _ => trivial
    | some dv =>
      cases dv with
      | un => exact fun _ => trivial
      | sh d => exact fun ⟨v, q, r⟩ => ⟨v, q, r.keep e R.w⟩
      | lk d => exact fun ⟨v, q, r⟩ => ⟨v, q, r.keep e fun b h => .inr h⟩
      | vw d => exact fun ⟨v, q, r⟩ => ⟨v, q, r.keep e R.w⟩
      | ow ds =>
        rintro ⟨a, xs, q, h, u, n, r⟩
        refine ⟨a, xs, q, e.keep a _ h (fun z => ?_) (fun _ z => by cases z), u, n, r.keep e R.w⟩
        exact (R.d0 a (R.p0 a z)).ne n
      | pt => exact fun h => h
  ap := R.ap
theorem Rel.same (R : Rel C U σ ρ P H) (e : Same H H') : Rel C U σ ρ P H' :=
  R.step (.of e) (fun p hp => (R.tabs p hp).same e) fun p hp => e _ _ (R.pot p hp)
theorem same_upd {p : Addr} {o : HO} (h : H p = none) : Same H (upd H p o) := fun b u e => by rw [upd_ne (ne_of_none e h)]; exact e
/-- a name is stored -/
theorem Rel.setM {m : Bool} (R : Rel C U σ ρ P H) {d : Dt} {v : V} (i : Nat) (r : Rep C.K (Um m C U) H d v) : Rel C U (σ.set i (some v)) (ρ.set i (mkS m d)) P H where
  u0 := R.u0
  d0 := R.d0
  p0 := R.p0
  dom := R.dom
  since := R.since
  tabs := R.tabs
  pot := R.pot
  len := by simp [R.len]
  sl := fun j => by
    by_cases hj : i = j
    · subst hj
      by_cases hl : i < ρ.length
      · rw [List.getElem?_set_self hl, List.getElem?_set_self (by rw [R.len]; exact hl)]
        cases m
        · exact ⟨v, rfl, r⟩
        · exact ⟨v, rfl, r⟩
      · rw [List.getElem?_eq_none (by simpa using hl)]
        trivial
    · rw [List.getElem?_set_ne hj, List.getElem?_set_ne hj]
      exact R.sl j
  ap := fun j k ds es h1 h2 h3 => by
    have nj : i ≠ j := fun e => by
      subst e
      by_cases hl : i < ρ.length
      · rw [List.getElem?_set_self hl] at h1; cases m <;> cases h1
      · rw [List.getElem?_eq_none (by simpa using hl)] at h1; cases h1
    have nk : i ≠ k := fun e => by
      subst e
      by_cases hl : i < ρ.length
      · rw [List.getElem?_set_self hl] at h2; cases m <;> cases h2
      · rw [List.getElem?_eq_none (by simpa using hl)] at h2; cases h2
    rw [List.getElem?_set_ne nj] at h1 h3
    rw [List.getElem?_set_ne nk] at h2 h3
    exact R.ap j k ds es h1 h2 h3
theorem Rel.set (R : Rel C U σ ρ P H) {d : Dt} {v : V} (i : Nat) (r : Rep C.K U H d v) : Rel C U (σ.set i (some v)) (ρ.set i (.sh d)) P H := R.setM (m := true) i r
/-- names forgotten -/
def wipeD (ρ : En) : List Nat → En
  | [] => ρ
  | v :: vs => (wipeD ρ vs).set v .un
theorem Rel.forget (R : Rel C U σ ρ P H) (i : Nat) : Rel C U (σ.set i none) (ρ.set i .un) P H where
  u0 := R.u0
  d0 := R.d0
  p0 := R.p0
  dom := R.dom
  since := R.since
  tabs := R.tabs
  pot := R.pot
  len := by simp [R.len]
  sl := fun j => by
    by_cases hj : i = j
    · subst hj
      by_cases hl : i < ρ.length
      · rw [List.getElem?_set_self hl]
        trivial
      · rw [List.getElem?_eq_none (by simpa using hl)]
        trivial
    · rw [List.getElem?_set_ne hj, List.getElem?_set_ne hj]
      exact R.sl j
  ap := fun j k ds es h1 h2 h3 => by
    have nj : i ≠ j := fun e => by
      subst e
      by_cases hl : i < ρ.length
      · rw [List.getElem?_set_self hl] at h1; cases h1
      · rw [List.getElem?_eq_none (by simpa using hl)] at h1; cases h1
    have nk : i ≠ k := fun e => by
      subst e
      by_cases hl : i < ρ.length
      · rw [List.getElem?_set_self hl] at h2; cases h2
      · rw [List.getElem?_eq_none (by simpa using hl)] at h2; cases h2
    rw [List.getElem?_set_ne nj] at h1 h3
    rw [List.getElem?_set_ne nk] at h2 h3
    exact R.ap j k ds es h1 h2 h3
theorem Rel.wipe (R : Rel C U σ ρ P H) : ∀ vs : List Nat, Rel C U (wipe σ vs) (wipeD ρ vs) P H
  | [] => R
  | v :: vs => (R.wipe vs).forget v
end

/-! ### readings -/
def tDm (m : Bool) (C : Fx) (f : Ev Dt) : TE := fun σ H Q => ∃ U ρ P d P', Rel C U σ ρ P H ∧ f ρ P = some (d, P') ∧ ∀ v H', Ext C.W H H' → Rel C U σ ρ P' H' → Rep C.K (Um m C U) H' d v → Q v H'
def tVm (m : Bool) (C : Fx) (f : Ev Dt) : TE := fun σ H Q => ∃ U ρ P d P', Rel C U σ ρ P H ∧ f ρ P = some (d, P') ∧ ∀ v H', Ext C.W H H' → Rel C U σ ρ P' H' → RepV C.K (Um m C U) C.W H' d v → Q v H'
def tT (C : Fx) (f : Ev Bool) : TT := fun σ H Q => ∃ U ρ P b P', Rel C U σ ρ P H ∧ f ρ P = some (b, P') ∧ ∀ H', Ext C.W H H' → Rel C U σ ρ P' H' → Q b H'
def tDsm (m : Bool) (C : Fx) (f : Ev (List Dt)) : TA := fun σ H Q => ∃ U ρ P ds P', Rel C U σ ρ P H ∧ f ρ P = some (ds, P') ∧ ∀ vs H', Ext C.W H H' → Rel C U σ ρ P' H' → Reps C.K (Um m C U) H' ds vs → Q vs H'
def tVsm (m : Bool) (C : Fx) (f : Ev (List Dt)) : TA := fun σ H Q => ∃ U ρ P ds P', Rel C U σ ρ P H ∧ f ρ P = some (ds, P') ∧ ∀ vs H', Ext C.W H H' → Rel C U σ ρ P' H' → RepVs C.K (Um m C U) C.W H' ds vs → Q vs H'
abbrev tD (C : Fx) (f : Ev Dt) : TE := tDm true C f
abbrev tV (C : Fx) (f : Ev Dt) : TE := tVm true C f
abbrev tDs (C : Fx) (f : Ev (List Dt)) : TA := tDsm true C f
abbrev tVs (C : Fx) (f : Ev (List Dt)) : TA := tVsm true C f

section
variable {X : Cx} {C : Fx} {e : Expr} {es : List Expr} {m : Bool}
theorem pe_weak {t t' : TE} (h : PE X e t) (w : ∀ σ H Q, t' σ H Q → t σ H Q) : PE X e t' := ⟨fun pins s σ H Q I q => h.run pins s σ H Q I (w σ H Q q)⟩
theorem pt_weak {t t' : TT} (h : PT X e t) (w : ∀ σ H Q, t' σ H Q → t σ H Q) : PT X e t' := ⟨fun pins s σ H Q I q => h.run pins s σ H Q I (w σ H Q q)⟩
theorem pa_weak {t t' : TA} (h : PA X es t) (w : ∀ σ H Q, t' σ H Q → t σ H Q) : PA X es t' := ⟨fun pos pins s σ H Q I q => h.run pos pins s σ H Q I (w σ H Q q)⟩
/-- shared data as a view -/
theorem pv_of {f : Ev Dt} (h : PE X e (tDm m C f)) : PE X e (tVm m C f) := pe_weak h fun σ H Q ⟨U, ρ, P, d, P', R, q, k⟩ =>
  ⟨U, ρ, P, d, P', R, q, fun v H' e R' r => k v H' e R' (r.view R'.wm)⟩
theorem Rep.shrink {K : PySem.W.Frag} {U U' : Addr → Prop} {H : Hp} {d : Dt} {v : V} (h : ∀ b, U' b → U b) (r : Rep K U H d v) : Rep K U' H d v := r.ext (W := fun _ => False) .refl (fun _ z => z.elim) fun b _ z => h b z
theorem Reps.shrink {K : PySem.W.Frag} {U U' : Addr → Prop} {H : Hp} {d : List Dt} {v : List V} (h : ∀ b, U' b → U b) (r : Reps K U H d v) : Reps K U' H d v := r.ext (W := fun _ => False) .refl (fun _ z => z.elim) fun b _ z => h b z
theorem RepV.shrink {K : PySem.W.Frag} {U U' W : Addr → Prop} {H : Hp} {d : Dt} {v : V} (h : ∀ b, U' b → U b) (r : RepV K U W H d v) : RepV K U' W H d v := by
  cases d with
  | list ds => obtain ⟨a, xs, q, n, rr⟩ := r; exact ⟨a, xs, q, n, rr.shrink h⟩
  | none => exact r
  | bool b => exact r
  | int b => exact r
  | str b => exact r
  | tuple b => exact Rep.shrink (K := K) (d := .tuple b) h r
  | dict b => exact r
/-- what keeps clear of all is fit for looking -/
theorem pl_of {f : Ev Dt} (h : PE X e (tD C f)) : PE X e (tDm false C f) := pe_weak h fun σ H Q ⟨U, ρ, P, d, P', R, q, k⟩ =>
  ⟨U, ρ, P, d, P', R, q, fun v H' e R' r => k v H' e R' (Rep.shrink R'.cu r)⟩
theorem pvl_of {f : Ev Dt} (h : PE X e (tV C f)) : PE X e (tVm false C f) := pe_weak h fun σ H Q ⟨U, ρ, P, d, P', R, q, k⟩ =>
  ⟨U, ρ, P, d, P', R, q, fun v H' e R' r => k v H' e R' (RepV.shrink R'.cu r)⟩

/-! ### names, constants -/
def eV (m : Bool) (i : Nat) : Ev Dt := fun ρ P => match ρ[i]?, m with
  | some (.sh d), _ => some (d, P)
  | some (.lk d), false => some (d, P)
  | _, _ => none
def vV (m : Bool) (i : Nat) : Ev Dt := fun ρ P => match ρ[i]?, m with
  | some (.sh d), _ => some (d, P)
  | some (.lk d), false => some (d, P)
  | some (.vw d), _ => some (d, P)
  | some (.ow ds), _ => some (.list ds, P)
  | _, _ => none
theorem pd_var {i : Nat} (h : PE X e (tVar i)) : PE X e (tDm m C (eV m i)) := pe_weak h fun σ H Q ⟨U, ρ, P, d, P', R, q, k⟩ => by
  have s := R.sl i
  unfold eV at q
  revert s q
  cases hρ : ρ[i]? with
  | none => intro q; cases q
  | some dv =>
    cases dv with
    | sh d' =>
      intro q s
      cases q
      obtain ⟨v, hv, r⟩ := s
      exact ⟨v, hv, k v H .refl R (Rep.shrink R.um r)⟩
    | lk d' =>
      intro q s
      cases m with
      | true => cases q
      | false =>
        cases q
        obtain ⟨v, hv, r⟩ := s
        exact ⟨v, hv, k v H .refl R r⟩
    | un => intro q; cases q
    | vw _ => intro q; cases q
    | ow _ => intro q; cases q
    | pt => intro q; cases q
theorem pv_var {i : Nat} (h : PE X e (tVar i)) : PE X e (tVm m C (vV m i)) := pe_weak h fun σ H Q ⟨U, ρ, P, d, P', R, q, k⟩ => by
  have s := R.sl i
  unfold vV at q
  revert s q
  cases hρ : ρ[i]? with
  | none => intro q; cases q
  | some dv =>
    cases dv with
    | sh d' =>
      intro q s
      cases q
      obtain ⟨v, hv, r⟩ := s
      exact ⟨v, hv, k v H .refl R ((Rep.shrink R.um r).view R.wm)⟩
    | lk d' =>
      intro q s
      cases m with
      | true => cases q
      | false =>
        cases q
        obtain ⟨v, hv, r⟩ := s
        exact ⟨v, hv, k v H .refl R (r.view fun b h => .inr h)⟩
    | un => intro q; cases q
    | vw d' =>
      intro q s
      cases q
      obtain ⟨v, hv, r⟩ := s
      exact ⟨v, hv, k v H .refl R (RepV.shrink R.um (r.view R.since))⟩
    | ow ds =>
      intro q s
      cases q
      obtain ⟨a, xs, hv, h1, u, n, r⟩ := s
      refine ⟨_, hv, k _ H .refl R ⟨a, xs, rfl, .inl ⟨.inl h1, fun z => ?_⟩, r.shrink R.um⟩⟩
      exact (R.d0 a (R.p0 a z)).ne n
    | pt => intro q; cases q
def eC (d : Dt) : Ev Dt := fun _ P => some (d, P)
theorem pd_const {d : Dt} {v : V} (h : PE X e (tC v)) (hr : ∀ K U H, Rep K U H d v) : PE X e (tDm m C (eC d)) := pe_weak h fun σ H Q ⟨U, ρ, P, d', P', R, q, k⟩ => by
  cases q
  exact k v H .refl R (hr _ _ _)

/-! ### argument lists -/
def eNil : Ev (List Dt) := fun _ P => some ([], P)
def eCons (f : Ev Dt) (g : Ev (List Dt)) : Ev (List Dt) := fun ρ P => match f ρ P with
  | some (d, P1) => (match g ρ P1 with
    | some (ds, P2) => some (d :: ds, P2)
    | none => none)
  | none => none
theorem eCons_some {f : Ev Dt} {g : Ev (List Dt)} {ρ : En} {P P2 : Pt} {ds : List Dt} (h : eCons f g ρ P = some (ds, P2)) : ∃ d r P1, f ρ P = some (d, P1) ∧ g ρ P1 = some (r, P2) ∧ ds = d :: r := by
  unfold eCons at h
  cases e : f ρ P with
  | none => rw [e] at h; cases h
  | some x =>
    obtain ⟨d, P1⟩ := x
    rw [e] at h
    dsimp only at h
    cases e2 : g ρ P1 with
    | none => rw [e2] at h; cases h
    | some y =>
      obtain ⟨r, P3⟩ := y
      rw [e2] at h
      cases h
      exact ⟨d, r, P1, rfl, e2, rfl⟩
theorem pds_nil : PA X [] (tDsm m C eNil) := pa_weak pa_nil fun σ H Q ⟨U, ρ, P, d, P', R, q, k⟩ => by
  cases q
  exact k [] H .refl R reps_nil
theorem pvs_nil : PA X [] (tVsm m C eNil) := pa_weak pa_nil fun σ H Q ⟨U, ρ, P, d, P', R, q, k⟩ => by
  cases q
  exact k [] H .refl R rfl
theorem pds_cons {f : Ev Dt} {g : Ev (List Dt)} (h1 : PE X e (tDm m C f)) (h2 : PA X es (tDsm m C g)) (hs : starEach (e :: es) X.env = (false, eval e X.env) :: starEach es X.env := by rfl) : PA X (e :: es) (tDsm m C (eCons f g)) :=
  pa_weak (pa_cons h1 h2 hs) fun σ H Q ⟨U, ρ, P, ds, P', R, q, k⟩ => by
    obtain ⟨d, r, P1, q1, q2, rfl⟩ := eCons_some q
    exact ⟨U, ρ, P, d, P1, R, q1, fun v H1 e1 R1 r1 => ⟨U, ρ, P1, r, P', R1, q2, fun vs H2 e2 R2 r2 => k _ H2 (e1.trans e2) R2 (reps_cons (r1.keep e2 R1.wm) r2)⟩⟩
theorem pvs_cons {f : Ev Dt} {g : Ev (List Dt)} (h1 : PE X e (tVm m C f)) (h2 : PA X es (tVsm m C g)) (hs : starEach (e :: es) X.env = (false, eval e X.env) :: starEach es X.env := by rfl) : PA X (e :: es) (tVsm m C (eCons f g)) :=
  pa_weak (pa_cons h1 h2 hs) fun σ H Q ⟨U, ρ, P, ds, P', R, q, k⟩ => by
    obtain ⟨d, r, P1, q1, q2, rfl⟩ := eCons_some q
    exact ⟨U, ρ, P, d, P1, R, q1, fun v H1 e1 R1 r1 => ⟨U, ρ, P1, r, P', R1, q2, fun vs H2 e2 R2 r2 => k _ H2 (e1.trans e2) R2 ⟨v, vs, rfl, r1.keep e2 R1.wm, r2⟩⟩⟩

/-! ### displays -/
def eTup (g : Ev (List Dt)) : Ev Dt := fun ρ P => match g ρ P with
  | some (ds, P1) => if ds.length ≤ sizeLine then some (.tuple ds, P1) else none
  | none => none
def eLst (g : Ev (List Dt)) : Ev Dt := fun ρ P => match g ρ P with
  | some (ds, P1) => if ds.length ≤ sizeLine then some (.list ds, P1) else none
  | none => none
theorem disp_some {mk : List Dt → Dt} {g : Ev (List Dt)} {ρ : En} {P P2 : Pt} {d : Dt} (h : (match g ρ P with
  | some (ds, P1) => if ds.length ≤ sizeLine then some (mk ds, P1) else none
  | none => none) = some (d, P2)) : ∃ ds, g ρ P = some (ds, P2) ∧ ds.length ≤ sizeLine ∧ d = mk ds := by
  cases e : g ρ P with
  | none => rw [e] at h; cases h
  | some x =>
    obtain ⟨ds, P1⟩ := x
    rw [e] at h
    dsimp only at h
    split at h
    · cases h
      exact ⟨ds, rfl, by assumption, rfl⟩
    · cases h
theorem pd_tup {g : Ev (List Dt)} {k : Nat} {pos : Pos} (h : PA X es (tDsm m C g)) : PE X (.Tuple es k pos) (tDm m C (eTup g)) := pe_weak (pe_tup h) fun σ H Q ⟨U, ρ, P, d, P', R, q, k⟩ => by
  obtain ⟨ds, q', hl, rfl⟩ := disp_some (mk := .tuple) q
  refine ⟨U, ρ, P, ds, P', R, q', fun vs H1 e1 R1 r1 => ⟨by rw [r1.length]; exact hl, fun p hp => ?_⟩⟩
  have sm := same_upd (o := .tup vs) hp
  exact k _ _ (e1.trans (.of sm)) (R1.same sm) ⟨p, vs, rfl, .inl ⟨.inl upd_same, fun z => R1.new hp (R1.um _ z)⟩, r1.keep (.of (W := C.W) sm) R1.wm⟩
theorem pd_lst {g : Ev (List Dt)} {pos : Pos} (h : PA X es (tDsm m C g)) : PE X (.List es pos) (tDm m C (eLst g)) := pe_weak (pe_lst h) fun σ H Q ⟨U, ρ, P, d, P', R, q, k⟩ => by
  obtain ⟨ds, q', hl, rfl⟩ := disp_some (mk := .list) q
  refine ⟨U, ρ, P, ds, P', R, q', fun vs H1 e1 R1 r1 => ⟨by rw [r1.length]; exact hl, fun p hp => ?_⟩⟩
  have sm := same_upd (o := .lst vs) hp
  exact k _ _ (e1.trans (.of sm)) (R1.same sm) ⟨p, vs, rfl, ⟨upd_same, fun z => R1.new hp (R1.um _ z)⟩, r1.keep (.of (W := C.W) sm) R1.wm⟩
end

/-! ### defs -/
/-- a def without a pot: the result as a function of the arguments -/
def spD (K : PySem.W.Frag) (T : List TbT) (n : Nat) (sem : List Dt → Option Dt) : Sp := fun vs H Q _ => ∃ (U : Addr → Prop) (ds : List Dt) (d : Dt), (∀ b, U b → Live H b) ∧ Tabs T H ∧ Reps K U H ds vs ∧ ds.length = n ∧ sem ds = some d ∧
  ∀ v H', Ext (fun _ => False) H H' → Tabs T H' → Rep K U H' d v → Q v H'
/-- a def whose first argument is the pot -/
def spP (K : PySem.W.Frag) (T : List TbT) (n : Nat) (sem : Pt → List Dt → Option (Dt × Pt)) : Sp := fun vs H Q _ => ∃ (U : Addr → Prop) (p : Addr) (ws : List V) (P P' : Pt) (ds : List Dt) (d : Dt), vs = .ref p :: ws ∧ (∀ b, U b → Live H b) ∧ Tabs T H ∧ U p ∧
  H p = some (.lst [.int P.1, .int P.2]) ∧ Reps K U H ds ws ∧ ds.length = n ∧ sem P ds = some (d, P') ∧
  ∀ v H', Ext (fun b => b = p) H H' → Tabs T H' → H' p = some (.lst [.int P'.1, .int P'.2]) → Rep K U H' d v → Q v H'
/-- .. that only looks at the lists it is handed -/
def spDv (K : PySem.W.Frag) (T : List TbT) (n : Nat) (sem : List Dt → Option Dt) : Sp := fun vs H Q _ => ∃ (U : Addr → Prop) (ds : List Dt) (d : Dt), (∀ b, U b → Live H b) ∧ Tabs T H ∧ RepVs K U (fun _ => False) H ds vs ∧ ds.length = n ∧ sem ds = some d ∧
  ∀ v H', Ext (fun _ => False) H H' → Tabs T H' → Rep K U H' d v → Q v H'
def spPv (K : PySem.W.Frag) (T : List TbT) (n : Nat) (sem : Pt → List Dt → Option (Dt × Pt)) : Sp := fun vs H Q _ => ∃ (U : Addr → Prop) (p : Addr) (ws : List V) (P P' : Pt) (ds : List Dt) (d : Dt), vs = .ref p :: ws ∧ (∀ b, U b → Live H b) ∧ Tabs T H ∧ U p ∧
  H p = some (.lst [.int P.1, .int P.2]) ∧ RepVs K U (fun b => b = p) H ds ws ∧ ds.length = n ∧ sem P ds = some (d, P') ∧
  ∀ v H', Ext (fun b => b = p) H H' → Tabs T H' → H' p = some (.lst [.int P'.1, .int P'.2]) → Rep K U H' d v → Q v H'
theorem spDv_len {K T n sem} : ∀ vs H Q E, spDv K T n sem vs H Q E → vs.length = n := fun vs H Q E ⟨U, ds, d, _, _, r, h, _⟩ => by rw [r.length, h]
theorem spPv_len {K T n sem} : ∀ vs H Q E, spPv K T n sem vs H Q E → vs.length = n + 1 := fun vs H Q E ⟨U, p, ws, P, P', ds, d, e, _, _, _, _, r, h, _⟩ => by rw [e, List.length_cons, r.length, h]
theorem spD_len {K T n sem} : ∀ vs H Q E, spD K T n sem vs H Q E → vs.length = n := fun vs H Q E ⟨U, ds, d, _, _, r, h, _⟩ => by rw [r.length, h]
theorem spP_len {K T n sem} : ∀ vs H Q E, spP K T n sem vs H Q E → vs.length = n + 1 := fun vs H Q E ⟨U, p, ws, P, P', ds, d, e, _, _, _, _, r, h, _⟩ => by rw [e, List.length_cons, r.length, h]
section
variable {X : Cx} {C : Fx} {e : Expr} {es : List Expr} {m : Bool}
def eCall (n : Nat) (sem : List Dt → Option Dt) (g : Ev (List Dt)) : Ev Dt := fun ρ P => match g ρ P with
  | some (ds, P1) => if ds.length = n then (match sem ds with
    | some d => some (d, P1)
    | none => none) else none
  | none => none
def eCallP (n : Nat) (i : Nat) (sem : Pt → List Dt → Option (Dt × Pt)) (g : Ev (List Dt)) : Ev Dt := fun ρ P => match ρ[i]? with
  | some .pt => (match g ρ P with
    | some (ds, P1) => if ds.length = n then sem P1 ds else none
    | none => none)
  | _ => none
theorem eCall_some {n : Nat} {sem : List Dt → Option Dt} {g : Ev (List Dt)} {ρ : En} {P P2 : Pt} {d : Dt} (h : eCall n sem g ρ P = some (d, P2)) : ∃ ds, g ρ P = some (ds, P2) ∧ ds.length = n ∧ sem ds = some d := by
  unfold eCall at h
  cases e : g ρ P with
  | none => rw [e] at h; cases h
  | some x =>
    obtain ⟨ds, P1⟩ := x
    rw [e] at h
    dsimp only at h
    split at h
    · cases e2 : sem ds with
      | none => rw [e2] at h; cases h
      | some y => rw [e2] at h; cases h; exact ⟨ds, rfl, by assumption, e2⟩
    · cases h
theorem eCallP_some {n i : Nat} {sem : Pt → List Dt → Option (Dt × Pt)} {g : Ev (List Dt)} {ρ : En} {P P2 : Pt} {d : Dt} (h : eCallP n i sem g ρ P = some (d, P2)) : ρ[i]? = some .pt ∧ ∃ ds P1, g ρ P = some (ds, P1) ∧ ds.length = n ∧ sem P1 ds = some (d, P2) := by
  unfold eCallP at h
  cases e0 : ρ[i]? with
  | none => rw [e0] at h; cases h
  | some dv =>
    rw [e0] at h
    cases dv with
    | pt =>
      dsimp only at h
      cases e : g ρ P with
      | none => rw [e] at h; cases h
      | some x =>
        obtain ⟨ds, P1⟩ := x
        rw [e] at h
        dsimp only at h
        split at h
        · exact ⟨rfl, ds, P1, rfl, by assumption, h⟩
        · cases h
    | un => cases h
    | sh _ => cases h
    | vw _ => cases h
    | lk _ => cases h
    | ow _ => cases h
theorem ext_false {W : Addr → Prop} {H H' : Hp} (e : Ext (fun _ => False) H H') : Ext W H H' := e.mono fun _ z => z.elim
/-- a call of a def without a pot -/
theorem pd_call0 {n : Nat} {sem : List Dt → Option Dt} {g : Ev (List Dt)} {E : XK} (h : PE X e (tCall (spD C.K C.T n sem) [] E (tDsm m C g))) : PE X e (tDm m C (eCall n sem g)) := pe_weak h fun σ H Q ⟨U, ρ, P, d, P', R, q, k⟩ => by
  obtain ⟨ds, q1, hl, q2⟩ := eCall_some q
  refine ⟨U, ρ, P, ds, P', R, q1, fun vs H1 e1 R1 r1 => ?_⟩
  show spD C.K C.T n sem (vs ++ []) H1 Q E
  rw [List.append_nil]
  exact ⟨Um m C U, ds, d, R1.dm, R1.tabs, r1, hl, q2, fun v H2 e2 t2 r2 => k v H2 (e1.trans (ext_false e2)) (R1.step (ext_false e2) t2 fun p hp => e2.keep _ _ (R1.pot p hp) (fun z => z) fun _ z => by cases z) r2⟩
theorem RepVs.mono {K : PySem.W.Frag} {U W W' : Addr → Prop} {H : Hp} (hW : ∀ b, W' b → W b) : ∀ {ds : List Dt} {vs : List V}, RepVs K U W H ds vs → RepVs K U W' H ds vs
  | [], _, h => h
  | d :: ds, _, ⟨x, r, e, h1, h2⟩ => by
    refine ⟨x, r, e, ?_, RepVs.mono hW h2⟩
    cases d with
    | list es => obtain ⟨a, xs, q, n, rr⟩ := h1; exact ⟨a, xs, q, n.mono hW, rr⟩
    | none => exact h1
    | bool b => exact h1
    | int b => exact h1
    | str b => exact h1
    | tuple b => exact h1
    | dict b => exact h1
theorem pd_callV {n : Nat} {sem : List Dt → Option Dt} {g : Ev (List Dt)} {E : XK} (h : PE X e (tCall (spDv C.K C.T n sem) [] E (tVsm m C g))) : PE X e (tDm m C (eCall n sem g)) := pe_weak h fun σ H Q ⟨U, ρ, P, d, P', R, q, k⟩ => by
  obtain ⟨ds, q1, hl, q2⟩ := eCall_some q
  refine ⟨U, ρ, P, ds, P', R, q1, fun vs H1 e1 R1 r1 => ?_⟩
  show spDv C.K C.T n sem (vs ++ []) H1 Q E
  rw [List.append_nil]
  exact ⟨Um m C U, ds, d, R1.dm, R1.tabs, r1.mono fun _ z => z.elim, hl, q2, fun v H2 e2 t2 r2 => k v H2 (e1.trans (ext_false e2)) (R1.step (ext_false e2) t2 fun p hp => e2.keep _ _ (R1.pot p hp) (fun z => z) fun _ z => by cases z) r2⟩
theorem pd_callPV {n i : Nat} {sem : Pt → List Dt → Option (Dt × Pt)} {g : Ev (List Dt)} {E : XK} (h : PE X e (tCall (spPv C.K C.T n sem) [] E (tCons (tVar i) (tVsm m C g)))) : PE X e (tDm m C (eCallP n i sem g)) := pe_weak h fun σ H Q ⟨U, ρ, P, d, P', R, q, k⟩ => by
  obtain ⟨hi, ds, P1, q1, hl, q2⟩ := eCallP_some q
  have s := R.sl i
  rw [hi] at s
  obtain ⟨p, hv, hp⟩ := s
  refine ⟨.ref p, hv, U, ρ, P, ds, P1, R, q1, fun vs H1 e1 R1 r1 => ?_⟩
  show spPv C.K C.T n sem ((.ref p :: vs) ++ []) H1 Q E
  rw [List.append_nil]
  refine ⟨Um m C U, p, vs, P1, P', ds, d, rfl, R1.dm, R1.tabs, R1.wm p hp, R1.pot p hp, r1.mono fun b z => by subst z; exact hp, hl, q2, fun v H2 e2 t2 p2 r2 => ?_⟩
  have e2' : Ext C.W H1 H2 := e2.mono fun b z => by subst z; exact hp
  exact k v H2 (e1.trans e2') (R1.step e2' t2 fun p' hp' => by rw [hp] at hp'; cases hp'; exact p2) r2
/-- .. with the pot in slot i -/
theorem pd_callP {n i : Nat} {sem : Pt → List Dt → Option (Dt × Pt)} {g : Ev (List Dt)} {E : XK} (h : PE X e (tCall (spP C.K C.T n sem) [] E (tCons (tVar i) (tDsm m C g)))) : PE X e (tDm m C (eCallP n i sem g)) := pe_weak h fun σ H Q ⟨U, ρ, P, d, P', R, q, k⟩ => by
  obtain ⟨hi, ds, P1, q1, hl, q2⟩ := eCallP_some q
  have s := R.sl i
  rw [hi] at s
  obtain ⟨p, hv, hp⟩ := s
  refine ⟨.ref p, hv, U, ρ, P, ds, P1, R, q1, fun vs H1 e1 R1 r1 => ?_⟩
  show spP C.K C.T n sem ((.ref p :: vs) ++ []) H1 Q E
  rw [List.append_nil]
  refine ⟨Um m C U, p, vs, P1, P', ds, d, rfl, R1.dm, R1.tabs, R1.wm p hp, R1.pot p hp, r1, hl, q2, fun v H2 e2 t2 p2 r2 => ?_⟩
  have e2' : Ext C.W H1 H2 := e2.mono fun b z => by subst z; exact hp
  exact k v H2 (e1.trans e2') (R1.step e2' t2 fun p' hp' => by rw [hp] at hp'; cases hp'; exact p2) r2
end
end PD

/-! part D3 -/
set_option Elab.async false
set_option linter.all false
set_option maxRecDepth 100000
set_option maxHeartbeats 4000000
/-! what is walked, targets, comprehensions, generator expressions; own work -/
namespace PD
open PySem PySem.Spec PyProof.Rows L2

section
variable {C : Fx} {U U' : Addr → Prop} {σ : L2.St} {ρ : En} {P P' : Pt} {H H' : Hp}
/-- a list of one's own has come to D -/
def And1 (U : Addr → Prop) (D : Addr) : Addr → Prop := fun b => U b ∨ b = D
theorem Rep.grow {K : PySem.W.Frag} {D : Addr} {d : Dt} {v : V} (hD : H D = none) (r : Rep K U H d v) {o : HO} : Rep K (And1 U D) (upd H D o) d v :=
  r.ext (W := fun _ => False) (.of (same_upd hD)) (fun _ z => z.elim) fun b hb z => z.elim id fun e => absurd (e ▸ hD) hb
theorem Reps.grow {K : PySem.W.Frag} {D : Addr} {d : List Dt} {v : List V} (hD : H D = none) (r : Reps K U H d v) {o : HO} : Reps K (And1 U D) (upd H D o) d v :=
  r.ext (W := fun _ => False) (.of (same_upd hD)) (fun _ z => z.elim) fun b hb z => z.elim id fun e => absurd (e ▸ hD) hb
theorem chg_grow {D : Addr} (h0 : C.H0 D = none) : ∀ b, Chg C (And1 U D) b → Chg C U b ∨ b = D := fun b h => h.elim (fun z => z.1.elim (fun u => .inl (.inl ⟨u, z.2⟩)) .inr) fun z => .inl (.inr z)
theorem Rep.growC {D : Addr} {d : Dt} {v : V} (hD : H D = none) (r : Rep C.K (Chg C U) H d v) {o : HO} : Rep C.K (Chg C (And1 U D)) (upd H D o) d v :=
  r.ext (W := fun _ => False) (.of (same_upd hD)) (fun _ z => z.elim) fun b hb z => by
    rcases z with ⟨z, n⟩ | z
    · rcases z with z | z
      · exact .inl ⟨z, n⟩
      · rw [z] at hb; exact absurd hD hb
    · exact .inr z
theorem Rel.grow {D : Addr} {ys : List V} (R : Rel C U σ ρ P H) (hD : H D = none) : Rel C (And1 U D) σ ρ P (upd H D (.lst ys)) where
  u0 := fun b h => .inl (R.u0 b h)
  d0 := R.d0
  p0 := R.p0
  dom := fun b u => by
    rcases u with u | u
    · exact (R.dom b u).ext (W := fun _ => False) (.of (same_upd hD)) fun z => z
    · subst u
      exact ⟨_, upd_same, fun _ z => by cases z⟩
  since := R.since.trans (.of (same_upd hD))
  tabs := fun p hp => (R.tabs p hp).same (same_upd hD)
  pot := fun p hp => same_upd hD _ _ (R.pot p hp)
  len := R.len
  sl := fun i => by
    have h := R.sl i
    revert h
    cases hρ : ρ[i]? with
    | none => exact fun _ => trivial
    | some dv =>
      cases dv with
      | un => exact fun _ => trivial
      | sh d => exact fun ⟨v, q, r⟩ => ⟨v, q, r.grow hD⟩
      | lk d => exact fun ⟨v, q, r⟩ => ⟨v, q, r.growC hD⟩
      | vw d => exact fun ⟨v, q, r⟩ => ⟨v, q, r.ext (W := fun _ => False) (.of (same_upd hD)) (fun _ z => z.elim) fun b hb z => z.elim id fun e => absurd (e ▸ hD) hb⟩
      | ow ds => exact fun ⟨a, xs, q, h, u, n, r⟩ => ⟨a, xs, q, same_upd hD _ _ h, .inl u, n, r.grow hD⟩
      | pt => exact fun h => h
  ap := R.ap
/-- the list at D changes; no name holds it -/
theorem Rel.poke {D : Addr} {xs ys : List V} (R : Rel C U σ ρ P H) (hD : H D = some (.lst xs)) (u : U D) (n0 : C.H0 D = none) (no : ∀ (i : Nat) ds, ρ[i]? = some (.ow ds) → σ[i]? ≠ some (some (.ref D))) : Rel C U σ ρ P (upd H D (.lst ys)) where
  u0 := R.u0
  d0 := R.d0
  p0 := R.p0
  dom := fun b u => by
    by_cases hb : b = D
    · subst hb; exact ⟨_, upd_same, fun _ z => by cases z⟩
    · obtain ⟨o, h, t⟩ := R.dom b u
      exact ⟨o, by rw [upd_ne hb]; exact h, t⟩
  since := ⟨fun b o h n t => by
    rw [upd_ne (ne_of_none h n0)]
    exact R.since.keep b o h n t, fun b ps h => by
    rw [upd_ne (ne_of_none h n0)]
    exact R.since.tbl b ps h⟩
  tabs := fun p hp => (R.tabs p hp).keep (fun o h => by
    obtain ⟨ps, e⟩ := (R.tabs p hp).tbl
    rw [upd_ne (ne_of e hD fun z => by cases z)]; exact h) fun c q h => by rw [upd_ne (ne_of h hD fun z => by unfold LamX.CodeO at z; cases z)]; exact h
  pot := fun p hp => by
    have n : p ≠ D := fun e => by
      subst e
      exact (R.d0 p (R.p0 p hp)).ne n0
    rw [upd_ne n]
    exact R.pot p hp
  len := R.len
  sl := fun i => by
    have e : Ext (fun b => b = D) H (upd H D (.lst ys)) := ⟨fun b o h n _ => by rw [upd_ne n]; exact h, fun b ps h => ⟨ps, by rw [upd_ne (ne_of h hD fun z => by cases z)]; exact h⟩⟩
    have hW : ∀ b, b = D → U b := fun b z => by subst z; exact u
    have h := R.sl i
    have no := no i
    revert h no
    cases hρ : ρ[i]? with
    | none => exact fun _ _ => trivial
    | some dv =>
      cases dv with
      | un => exact fun _ _ => trivial
      | sh d => exact fun ⟨v, q, r⟩ _ => ⟨v, q, r.keep e hW⟩
      | lk d => exact fun ⟨v, q, r⟩ _ => ⟨v, q, r.keep e fun b z => by subst z; exact .inl ⟨u, n0⟩⟩
      | vw d => exact fun ⟨v, q, r⟩ _ => ⟨v, q, r.keep e hW⟩
      | ow ds =>
        rintro ⟨a, zs, q, h, u', n, r⟩ no
        have na : a ≠ D := fun z => no ds rfl (by rw [q, z])
        exact ⟨a, zs, q, by rw [upd_ne na]; exact h, u', n, r.keep e hW⟩
      | pt => exact fun h _ => h
  ap := R.ap
end

/-! ### what is walked -/
/-- what may change while it is walked: all that this body changes (a statement's walk), or the pot alone -/
def Wx (b : Bool) (C : Fx) (U : Addr → Prop) : Addr → Prop := match b with
  | true => Chg C U
  | false => C.W
theorem Rel.wx {b m : Bool} {C : Fx} {U : Addr → Prop} {σ : L2.St} {ρ : En} {P : Pt} {H : Hp} (R : Rel C U σ ρ P H) : ∀ a, Wx b C U a → Um m C U a := by
  cases b
  · exact R.wm
  · exact R.cm
/-- J yields just ds, from H1 on, while W alone changes -/
structure Yl (C : Fx) (m : Bool) (W U : Addr → Prop) (J : It) (ds : List Dt) (H1 : Hp) : Prop where
  stop : ∀ H', Ext W H1 H' → ∀ i, ds.length ≤ i → J.stop i H'
  go : ∀ H', Ext W H1 H' → ∀ i, i < ds.length → J.go i H'
  yld : ∀ H', Ext W H1 H' → ∀ (U' : Addr → Prop), (∀ b, Um m C U' b → Live H' b) → (∀ b, U' b → U b ∨ H1 b = none) → ∀ (i : Nat) x H'' d, J.yld i H' x H'' → ds[i]? = some d → Same H' H'' ∧ Rep C.K (Um m C U') H'' d x
def tVx (b m : Bool) (C : Fx) (f : Ev Dt) : TE := fun σ H Q => ∃ U ρ P d P', Rel C U σ ρ P H ∧ f ρ P = some (d, P') ∧ ∀ v H', Ext C.W H H' → Rel C U σ ρ P' H' → RepV C.K (Um m C U) (Wx b C U) H' d v → Q v H'
def tVsx (b m : Bool) (C : Fx) (f : Ev (List Dt)) : TA := fun σ H Q => ∃ U ρ P ds P', Rel C U σ ρ P H ∧ f ρ P = some (ds, P') ∧ ∀ vs H', Ext C.W H H' → Rel C U σ ρ P' H' → RepVs C.K (Um m C U) (Wx b C U) H' ds vs → Q vs H'
/-- b: what may change meanwhile; m: what the items keep clear of -/
def tI (b m : Bool) (C : Fx) (f : Ev (List Dt)) : TI := fun σ H R => ∃ U ρ P ds P', Rel C U σ ρ P H ∧ f ρ P = some (ds, P') ∧ ∀ J H', Ext C.W H H' → Rel C U σ ρ P' H' → Yl C m (Wx b C U) U J ds H' → R J H'
section
variable {X : Cx} {C : Fx} {tg e : Expr} {b m : Bool}
theorem px_f {f : Ev Dt} (h : PE X e (tVm m C f)) : PE X e (tVx false m C f) := h
theorem px_t {f : Ev Dt} (h : PE X e (tDm m C f)) : PE X e (tVx true m C f) := pe_weak h fun σ H Q ⟨U, ρ, P, d, P', R, q, k⟩ => ⟨U, ρ, P, d, P', R, q, fun v H' e R' r => k v H' e R' (r.view R'.cm)⟩
theorem pxs_f {es : List Expr} {f : Ev (List Dt)} (h : PA X es (tVsm m C f)) : PA X es (tVsx false m C f) := h
theorem pxs_t {es : List Expr} {f : Ev (List Dt)} (h : PA X es (tDsm m C f)) : PA X es (tVsx true m C f) := pa_weak h fun σ H Q ⟨U, ρ, P, d, P', R, q, k⟩ => ⟨U, ρ, P, d, P', R, q, fun v H' e R' r => k v H' e R' (r.view R'.cm)⟩
theorem pi_weak {wi wi' : TI} (h : PI X tg e wi) (w : ∀ σ H R, wi' σ H R → wi σ H R) : PI X tg e wi' := ⟨fun pins s σ H R I q => h.run pins s σ H R I (w σ H R q)⟩
def asL (f : Ev Dt) : Ev (List Dt) := fun ρ P => match f ρ P with
  | some (.list ds, P1) => some (ds, P1)
  | _ => none
def asT (f : Ev Dt) : Ev (List Dt) := fun ρ P => match f ρ P with
  | some (.tuple ds, P1) => some (ds, P1)
  | _ => none
theorem asL_some {f : Ev Dt} {ρ P ds P1} (h : asL f ρ P = some (ds, P1)) : f ρ P = some (.list ds, P1) := by
  unfold asL at h
  split at h
  · cases h; assumption
  · cases h
theorem asT_some {f : Ev Dt} {ρ P ds P1} (h : asT f ρ P = some (ds, P1)) : f ρ P = some (.tuple ds, P1) := by
  unfold asT at h
  split at h
  · cases h; assumption
  · cases h
theorem um_sub {U U' : Addr → Prop} {H1 : Hp} (h2 : ∀ b, U' b → U b ∨ H1 b = none) : ∀ b, H1 b ≠ none → Um m C U' b → Um m C U b := fun b hb z => by
  cases m with
  | true => exact (h2 b z).elim id fun q => absurd q hb
  | false =>
    rcases z with ⟨z, n⟩ | z
    · exact (h2 b z).elim (fun u => .inl ⟨u, n⟩) fun q => absurd q hb
    · exact .inr z
theorem rep_at {W U U' : Addr → Prop} {H1 H' : Hp} {ds : List Dt} {xs : List V} {i : Nat} {d : Dt} {x : V} (e : Ext W H1 H') (hWU : ∀ b, W b → Um m C U b) (h2 : ∀ b, U' b → U b ∨ H1 b = none) (r : Reps C.K (Um m C U) H1 ds xs) (hx : xs[i]? = some x) (hd : ds[i]? = some d) : Rep C.K (Um m C U') H' d x := by
  obtain ⟨y, hy, ry⟩ := r.at hd
  rw [hx] at hy
  cases hy
  exact ry.ext e hWU (um_sub h2)
theorem nodeL_at {W : Addr → Prop} {K : PySem.W.Frag} {H1 H' : Hp} {a : Addr} {xs : List V} (e : Ext W H1 H') (n : NodeV K W H1 a xs) : SqL K H' a xs := by
  rcases n with ⟨n, u⟩ | n
  · exact .inl (e.rdL n u)
  · exact .inr n
theorem nodeT_at {U W : Addr → Prop} {K : PySem.W.Frag} {H1 H' : Hp} {a : Addr} {xs : List V} (hW : ∀ b, W b → U b) (e : Ext W H1 H') (n : NodeT K U H1 a xs) : SqT K H' a xs := by
  rcases n with ⟨n, u⟩ | n
  · exact .inl (e.rdT n fun z => u (hW a z))
  · exact .inr n
/-- over a list; a list seen twice is one list, as the machine's heap tells: here it stands in the abstract heap, or in the module -/
theorem pid_list {f : Ev Dt} (h : PE X e (tVx b m C f)) (hK : X.K = C.K) : PI X tg e (tI b m C (asL f)) := by
  refine pi_weak (pi_list h) fun σ H R ⟨U, ρ, P, ds, P', R0, q, k⟩ => ?_
  refine ⟨U, ρ, P, _, P', R0, asL_some q, fun v H1 e1 R1 ⟨a, xs, ev, n, r⟩ => ?_⟩
  subst ev
  have sq := fun H' (e2 : Ext (Wx b C U) H1 H') => nodeL_at e2 n
  refine ⟨a, rfl, ⟨xs, by rw [hK]; exact sq H1 .refl⟩, k _ H1 e1 R1 ⟨fun H' e2 i hi => ?_, fun H' e2 i hi => ?_, fun H' e2 U' hl h2 i x H'' d hy hd => ?_⟩⟩
  · exact ⟨xs, by rw [hK]; exact sq H' e2, by rw [r.length]; exact hi⟩
  · refine ⟨xs, xs[i]'(by rw [r.length]; exact hi), by rw [hK]; exact sq H' e2, by simp⟩
  · obtain ⟨e3, hy⟩ := hy
    subst e3
    refine ⟨.refl _, rep_at e2 R1.wx h2 r (hy xs (by rw [hK]; exact sq _ e2)) hd⟩
theorem pid_tup {f : Ev Dt} (h : PE X e (tVx b m C f)) (hK : X.K = C.K) : PI X tg e (tI b m C (asT f)) := by
  refine pi_weak (pi_tup h) fun σ H R ⟨U, ρ, P, ds, P', R0, q, k⟩ => ?_
  refine ⟨U, ρ, P, _, P', R0, asT_some q, fun v H1 e1 R1 ⟨a, xs, ev, n, r⟩ => ?_⟩
  subst ev
  have sq := fun H' (e2 : Ext (Wx b C U) H1 H') => nodeT_at R1.wx e2 n
  refine ⟨a, rfl, ⟨xs, by rw [hK]; exact sq H1 .refl⟩, k _ H1 e1 R1 ⟨fun H' e2 i hi => ?_, fun H' e2 i hi => ?_, fun H' e2 U' hl h2 i x H'' d hy hd => ?_⟩⟩
  · exact ⟨xs, by rw [hK]; exact sq H' e2, by rw [r.length]; exact hi⟩
  · refine ⟨xs, xs[i]'(by rw [r.length]; exact hi), by rw [hK]; exact sq H' e2, by simp⟩
  · obtain ⟨e3, hy⟩ := hy
    subst e3
    refine ⟨.refl _, rep_at e2 R1.wx h2 r (hy xs (by rw [hK]; exact sq _ e2)) hd⟩
/-- over a text -/
def asS (f : Ev Dt) : Ev (List Dt) := fun ρ P => match f ρ P with
  | some (.str x, P1) => some (x.cps.toList.map fun c => .str ⟨#[c]⟩, P1)
  | _ => none
theorem pid_str {f : Ev Dt} (h : PE X e (tVx b m C f)) : PI X tg e (tI b m C (asS f)) := by
  refine pi_weak (pi_str h) fun σ H R ⟨U, ρ, P, ds, P', R0, q, k⟩ => ?_
  unfold asS at q
  split at q
  · rename_i x P1 q1
    cases q
    refine ⟨U, ρ, P, _, P', R0, q1, fun v H1 e1 R1 r => ?_⟩
    cases (show v = .str x from r)
    refine ⟨x, rfl, k _ H1 e1 R1 ⟨fun H' e2 i hi => ?_, fun H' e2 i hi => ?_, fun H' e2 U' hl h2 i y H'' d hy hd => ?_⟩⟩
    · show x.cps.size ≤ i
      simpa using hi
    · show i < x.cps.size
      simpa using hi
    · obtain ⟨e3, c, hc, ey⟩ := hy
      subst e3 ey
      refine ⟨.refl _, ?_⟩
      rw [List.getElem?_map, Array.getElem?_toList, hc] at hd
      cases hd
      rfl
  · cases q
/-- range(n), range(a, b) -/
def rngD (lo : Int) (n : Nat) : List Dt := (List.range n).map fun i => .int (lo + (i : Nat))
def asR1 (g : Ev (List Dt)) : Ev (List Dt) := fun ρ P => match g ρ P with
  | some ([.int j], P1) => if -(2 ^ 62) ≤ j ∧ j < 2 ^ 62 then some (rngD 0 j.toNat, P1) else none
  | _ => none
def asR2 (g : Ev (List Dt)) : Ev (List Dt) := fun ρ P => match g ρ P with
  | some ([.int i, .int j], P1) => if (-(2 ^ 62) ≤ i ∧ i < 2 ^ 62 ∧ -(2 ^ 62) ≤ j ∧ j < 2 ^ 62) then some (rngD i (j - i).toNat, P1) else none
  | _ => none
theorem yl_range {W U : Addr → Prop} {lo : Int} {n : Nat} {H1 : Hp} : Yl C m W U (Itr lo n) (rngD lo n) H1 := by
  refine ⟨fun H' e2 i hi => ?_, fun H' e2 i hi => ?_, fun H' e2 U' hl h2 i y H'' d hy hd => ?_⟩
  · show n ≤ i
    simpa [rngD] using hi
  · show i < n
    simpa [rngD] using hi
  · obtain ⟨e3, ey⟩ := hy
    subst e3 ey
    refine ⟨.refl _, ?_⟩
    unfold rngD at hd
    rw [List.getElem?_map] at hd
    cases q : (List.range n)[i]? with
    | none => rw [q] at hd; cases hd
    | some j =>
      rw [q] at hd
      cases hd
      have : j = i := by
        obtain ⟨h1, h2⟩ := List.getElem?_eq_some_iff.mp q
        simpa using h2.symm
      subst this
      rfl
theorem pid_range1 {a : Expr} {g : Ev (List Dt)} {p pos : Pos} (hg : Gl X "range") (hm : X.mg "range" = none) (ha : PA X [a] (tDs C g)) (hs : starEach [a] X.env = [(false, eval a X.env)] := by rfl) : PI X tg (.Call (.Name "range" p) [a] [] pos) (tI b m C (asR1 g)) := by
  refine pi_weak (pi_range1 hg hm ha hs) fun σ H R ⟨U, ρ, P, ds, P', R0, q, k⟩ => ?_
  unfold asR1 at q
  split at q
  · rename_i j P1 q1
    split at q
    · rename_i hj
      cases q
      refine ⟨U, ρ, P, _, P', R0, q1, fun vs H1 e1 R1 r => ?_⟩
      obtain ⟨x, r', e, h1, h2⟩ := r
      cases (show x = .int j from h1)
      cases (show r' = [] from h2)
      exact ⟨j, e, hj.1, hj.2, k _ H1 e1 R1 yl_range⟩
    · cases q
  · cases q
theorem pid_range2 {a b : Expr} {bb : Bool} {g : Ev (List Dt)} {p pos : Pos} (hg : Gl X "range") (hm : X.mg "range" = none) (ha : PA X [a, b] (tDs C g)) (hs : starEach [a, b] X.env = [(false, eval a X.env), (false, eval b X.env)] := by rfl) (hs2 : starEach [b] X.env = [(false, eval b X.env)] := by rfl) : PI X tg (.Call (.Name "range" p) [a, b] [] pos) (tI bb m C (asR2 g)) := by
  refine pi_weak (pi_range2 hg hm ha hs hs2) fun σ H R ⟨U, ρ, P, ds, P', R0, q, k⟩ => ?_
  unfold asR2 at q
  split at q
  · rename_i i j P1 q1
    split at q
    · rename_i hj
      cases q
      refine ⟨U, ρ, P, _, P', R0, q1, fun vs H1 e1 R1 r => ?_⟩
      obtain ⟨x, r', e, h1, y, r'', e', h2, h3⟩ := r
      cases (show x = .int i from h1)
      cases (show y = .int j from h2)
      cases (show r'' = [] from h3)
      subst e'
      exact ⟨i, j, e, hj, k _ H1 e1 R1 yl_range⟩
    · cases q
  · cases q
/-- enumerate(list) -/
def enumD : Nat → List Dt → List Dt
  | _, [] => []
  | n, d :: ds => .tuple [.int (n : Nat), d] :: enumD (n + 1) ds
theorem enumD_at : ∀ (ds : List Dt) (n i : Nat), (enumD n ds)[i]? = ds[i]?.map fun d => .tuple [.int ((n + i : Nat) : Int), d]
  | [], _, _ => by simp [enumD]
  | d :: ds, n, 0 => by simp [enumD]
  | d :: ds, n, i + 1 => by
    simp only [enumD, List.getElem?_cons_succ]
    rw [enumD_at ds (n + 1) i]
    have : n + 1 + i = n + (i + 1) := by omega
    rw [this]
theorem enumD_len (ds : List Dt) (n : Nat) : (enumD n ds).length = ds.length := by
  induction ds generalizing n with
  | nil => rfl
  | cons d ds ih => simp [enumD, ih]
def asE (g : Ev (List Dt)) : Ev (List Dt) := fun ρ P => match g ρ P with
  | some ([.list ds], P1) => some (enumD 0 ds, P1)
  | _ => none
theorem pid_enum {a : Expr} {g : Ev (List Dt)} {p pos tpos : Pos} {elts : List Expr} {kk : Nat} (hK : X.K = C.K) (hg : Gl X "enumerate") (hm : X.mg "enumerate" = none) (ha : PA X [a] (tVsx b m C g)) (hs : starEach [a] X.env = [(false, eval a X.env)] := by rfl) :
    PI X (.Tuple elts kk tpos) (.Call (.Name "enumerate" p) [a] [] pos) (tI b m C (asE g)) := by
  refine pi_weak (pi_enum hg hm ha hs) fun σ H R ⟨U, ρ, P, ds, P', R0, q, k⟩ => ?_
  unfold asE at q
  split at q
  · rename_i xs0 P1 q1
    cases q
    refine ⟨U, ρ, P, _, P', R0, q1, fun vs H1 e1 R1 r => ?_⟩
    obtain ⟨x, r', e, ⟨a', xs, ea, n, rr⟩, h2⟩ := r
    subst ea
    cases (show r' = [] from h2)
    subst e
    have sq := fun H' (e2 : Ext (Wx b C U) H1 H') => nodeL_at e2 n
    refine ⟨a', xs, rfl, by rw [hK]; exact sq H1 .refl, k _ H1 e1 R1 ⟨fun H' e2 i hi => ?_, fun H' e2 i hi => ?_, fun H' e2 U' hl h2 i y H'' d hy hd => ?_⟩⟩
    · rw [enumD_len] at hi
      exact ⟨xs, by rw [hK]; exact sq H' e2, by rw [rr.length]; exact hi⟩
    · rw [enumD_len] at hi
      exact ⟨xs, xs[i]'(by rw [rr.length]; exact hi), by rw [hK]; exact sq H' e2, by simp⟩
    · obtain ⟨T, x, ey, hT, e3, hx⟩ := hy
      subst ey e3
      have sm := same_upd (o := .tup [V.int (i : Nat), x]) hT
      refine ⟨sm, ?_⟩
      rw [enumD_at] at hd
      cases q3 : xs0[i]? with
      | none => rw [q3] at hd; cases hd
      | some d0 =>
        rw [q3] at hd
        cases hd
        have rx := rep_at (U' := U') e2 R1.wx h2 rr (hx xs (by rw [hK]; exact sq _ e2)) q3
        refine ⟨T, _, rfl, .inl ⟨.inl upd_same, fun z => (hl T z).ne hT⟩, ?_⟩
        refine reps_cons ?_ (reps_cons (rx.keep (.of (W := fun _ => False) sm) fun _ z => z.elim) reps_nil)
        show _ = V.int _
        rw [Nat.zero_add]
  · cases q
/-- zip of two lists -/
def zipD : List Dt → List Dt → List Dt
  | a :: as, b :: bs => .tuple [a, b] :: zipD as bs
  | _, _ => []
theorem zipD_at : ∀ (as bs : List Dt) (i : Nat), (zipD as bs)[i]? = match as[i]?, bs[i]? with
    | some a, some b => some (.tuple [a, b])
    | _, _ => none
  | [], _, _ => by simp [zipD]
  | a :: as, [], i => by cases h : (a :: as)[i]? <;> simp [zipD]
  | a :: as, b :: bs, 0 => by simp [zipD]
  | a :: as, b :: bs, i + 1 => by simp only [zipD, List.getElem?_cons_succ]; exact zipD_at as bs i
theorem zipD_len : ∀ (as bs : List Dt), (zipD as bs).length = min as.length bs.length
  | [], _ => by simp [zipD]
  | a :: as, [] => by simp [zipD]
  | a :: as, b :: bs => by simp only [zipD, List.length_cons, zipD_len as bs]; omega
def asZ (g : Ev (List Dt)) : Ev (List Dt) := fun ρ P => match g ρ P with
  | some ([.list as, .list bs], P1) => some (zipD as bs, P1)
  | _ => none
theorem pid_zip {a b : Expr} {bb : Bool} {g : Ev (List Dt)} {p pos tpos : Pos} {elts : List Expr} {kk : Nat} (hK : X.K = C.K) (hg : Gl X "zip") (hm : X.mg "zip" = none) (ha : PA X [a, b] (tVsx bb m C g))
    (hs : starEach [a, b] X.env = (false, eval a X.env) :: starEach [b] X.env := by rfl) (hpl : (backTo pos (starEach [b] X.env)).any (·.1) = false := by rfl) :
    PI X (.Tuple elts kk tpos) (.Call (.Name "zip" p) [a, b] [] pos) (tI bb m C (asZ g)) := by
  refine pi_weak (pi_zip hg hm ha hs hpl) fun σ H R ⟨U, ρ, P, ds, P', R0, q, k⟩ => ?_
  unfold asZ at q
  split at q
  · rename_i as0 bs0 P1 q1
    cases q
    refine ⟨U, ρ, P, _, P', R0, q1, fun vs H1 e1 R1 r => ?_⟩
    obtain ⟨x, r', e, ⟨a', xs, ea, n, rr⟩, y, r'', e', ⟨b', ys, eb, n', rr'⟩, h2⟩ := r
    subst ea eb
    cases (show r'' = [] from h2)
    subst e' e
    have sq := fun H' (e2 : Ext (Wx bb C U) H1 H') => nodeL_at e2 n
    have sq' := fun H' (e2 : Ext (Wx bb C U) H1 H') => nodeL_at e2 n'
    refine ⟨a', b', xs, ys, rfl, by rw [hK]; exact sq H1 .refl, by rw [hK]; exact sq' H1 .refl, k _ H1 e1 R1 ⟨fun H' e2 i hi => ?_, fun H' e2 i hi => ?_, fun H' e2 U' hl h2 i y H'' d hy hd => ?_⟩⟩
    · rw [zipD_len] at hi
      have l1 := rr.length
      have l2 := rr'.length
      exact ⟨xs, ys, by rw [hK]; exact sq H' e2, by rw [hK]; exact sq' H' e2, by omega⟩
    · rw [zipD_len] at hi
      have l1 := rr.length
      have l2 := rr'.length
      exact ⟨xs, ys, xs[i]'(by omega), ys[i]'(by omega), by rw [hK]; exact sq H' e2, by rw [hK]; exact sq' H' e2, by simp, by simp⟩
    · obtain ⟨T, x, y, ey, hT, e3, hx, hy'⟩ := hy
      subst ey e3
      have sm := same_upd (o := .tup [x, y]) hT
      refine ⟨sm, ?_⟩
      rw [zipD_at] at hd
      cases q3 : as0[i]? with
      | none => rw [q3] at hd; cases hd
      | some d0 =>
        cases q4 : bs0[i]? with
        | none => rw [q3, q4] at hd; cases hd
        | some d1 =>
          rw [q3, q4] at hd
          cases hd
          have rx := rep_at (U' := U') e2 R1.wx h2 rr (hx xs (by rw [hK]; exact sq _ e2)) q3
          have ry := rep_at (U' := U') e2 R1.wx h2 rr' (hy' ys (by rw [hK]; exact sq' _ e2)) q4
          exact ⟨T, _, rfl, .inl ⟨.inl upd_same, fun z => (hl T z).ne hT⟩, reps_cons (rx.keep (.of (W := fun _ => False) sm) fun _ z => z.elim) (reps_cons (ry.keep (.of (W := fun _ => False) sm) fun _ z => z.elim) reps_nil)⟩
  · cases q
end
end PD

/-! part D4 -/
set_option Elab.async false
set_option linter.all false
set_option maxRecDepth 100000
set_option maxHeartbeats 4000000
/-! targets, comprehensions, generator expressions; own work -/
namespace PD
open PySem PySem.Spec PyProof.Rows L2

/-! ### slots forgotten -/
theorem wipe_get (σ : L2.St) : ∀ (vs : List Nat) (j : Nat), (wipe σ vs)[j]? = if j ∈ vs ∧ j < σ.length then some none else σ[j]?
  | [], j => by simp [wipe]
  | v :: vs, j => by
    show ((wipe σ vs).set v none)[j]? = _
    by_cases h : v = j
    · subst h
      by_cases hl : v < σ.length
      · rw [List.getElem?_set_self (by rw [wipe_length]; exact hl), if_pos ⟨List.mem_cons_self, hl⟩]
      · rw [List.getElem?_eq_none (by rw [List.length_set, wipe_length]; omega), if_neg (fun z => hl z.2), List.getElem?_eq_none (by omega)]
    · rw [List.getElem?_set_ne h, wipe_get σ vs j]
      have : (j ∈ v :: vs) = (j ∈ vs) := by simp [List.mem_cons, Ne.symm h]
      simp only [this]
theorem wipe_set {σ : L2.St} {i : Nat} {x : Option V} {vs : List Nat} (h : i ∈ vs) : wipe (σ.set i x) vs = wipe σ vs := by
  apply List.ext_getElem?
  intro j
  rw [wipe_get, wipe_get, List.length_set]
  by_cases hj : j ∈ vs ∧ j < σ.length
  · rw [if_pos hj, if_pos hj]
  · rw [if_neg hj, if_neg hj]
    by_cases e : i = j
    · subst e
      have hl : ¬ i < σ.length := fun z => hj ⟨h, z⟩
      rw [List.getElem?_eq_none (by rw [List.length_set]; omega), List.getElem?_eq_none (by omega)]
    · rw [List.getElem?_set_ne e]
theorem wipe_wipe (σ : L2.St) (vs : List Nat) : wipe (wipe σ vs) vs = wipe σ vs := by
  apply List.ext_getElem?
  intro j
  rw [wipe_get, wipe_length]
  by_cases hj : j ∈ vs ∧ j < σ.length
  · rw [if_pos hj, wipe_get, if_pos hj]
  · rw [if_neg hj]
theorem wipeD_len (ρ : En) : ∀ vs : List Nat, (wipeD ρ vs).length = ρ.length
  | [] => rfl
  | v :: vs => by show ((wipeD ρ vs).set v .un).length = _; rw [List.length_set, wipeD_len ρ vs]

/-! ### targets -/
abbrev Tgt := Dt → En → Option En
def tG (m : Bool) (C : Fx) (own : List Nat) (tg : Tgt) : TG := fun v σ H Q => ∃ U ρ P d ρ', Rel C U σ ρ P H ∧ Rep C.K (Um m C U) H d v ∧ tg d ρ = some ρ' ∧ ∀ σ', Rel C U σ' ρ' P H → wipe σ' own = wipe σ own → Q σ' H
def gN (m : Bool) (i : Nat) : Tgt := fun d ρ => some (ρ.set i (mkS m d))
def setD (m : Bool) : En → List Nat → List Dt → En
  | ρ, i :: is, d :: ds => setD m (ρ.set i (mkS m d)) is ds
  | ρ, _, _ => ρ
def gT (m : Bool) (is : List Nat) : Tgt := fun d ρ => match d with
  | .tuple ds => if ds.length = is.length then some (setD m ρ is ds) else none
  | _ => none
def gNames : List Nat → TGs
  | [] => gNil
  | i :: is => gCons (gName i) (gNames is)
section
variable {X : Cx} {C : Fx} {tg : Expr} {es : List Expr} {m m2 : Bool}
theorem pg_weak {t t' : TG} (h : PG X tg t) (w : ∀ v σ H Q, t' v σ H Q → t v σ H Q) : PG X tg t' := ⟨fun pins s σ H v u Q I r q => h.run pins s σ H v u Q I r (w v σ H Q q)⟩
theorem pgd_name {own : List Nat} {i : Nat} (h : PG X tg (gName i)) (hi : i ∈ own) : PG X tg (tG m C own (gN m i)) := pg_weak h fun v σ H Q ⟨U, ρ, P, d, ρ', R, r, q, k⟩ => by
  cases q
  exact k _ (R.setM i r) (wipe_set hi)
theorem names_go {own : List Nat} {U : Addr → Prop} {H : Hp} {P : Pt} {Q : L2.St → Hp → Prop} : ∀ (is : List Nat) (ds : List Dt) (xs : List V) (σ : L2.St) (ρ : En), (∀ i ∈ is, i ∈ own) → ds.length = is.length → Reps C.K (Um m C U) H ds xs → Rel C U σ ρ P H →
    (∀ σ', Rel C U σ' (setD m ρ is ds) P H → wipe σ' own = wipe σ own → Q σ' H) → gNames is xs σ H Q
  | [], ds, xs, σ, ρ, _, hl, r, R, k => by
    have : ds = [] := List.length_eq_zero_iff.mp hl
    subst this
    exact ⟨r, k σ R rfl⟩
  | i :: is, [], xs, σ, ρ, _, hl, r, R, k => by simp at hl
  | i :: is, d :: ds, _, σ, ρ, hi, hl, ⟨x, t, e, h1, h2⟩, R, k => by
    subst e
    refine ⟨x, t, rfl, ?_⟩
    refine names_go is ds t (σ.set i (some x)) (ρ.set i (mkS m d)) (fun j hj => hi j (List.mem_cons_of_mem _ hj)) (by simpa using hl) h2 (R.setM i h1) fun σ' R' hw => ?_
    exact k σ' R' (hw.trans (wipe_set (hi i List.mem_cons_self)))
theorem pgd_tup {own is : List Nat} {k n : Nat} {pos : Pos} (hK : X.K = C.K) (hn : is.length = n) (h : PG X (.Tuple es k pos) (gTup X.K n (gNames is))) (hi : ∀ i ∈ is, i ∈ own) : PG X (.Tuple es k pos) (tG m C own (gT m is)) := pg_weak h fun v σ H Q ⟨U, ρ, P, d, ρ', R, r, q, kk⟩ => by
  cases d with
  | tuple ds =>
    have q' : (if ds.length = is.length then some (setD m ρ is ds) else none) = some ρ' := q
    split at q'
    · rename_i hl
      cases q'
      obtain ⟨a, xs, e, n', rr⟩ := r
      exact ⟨a, xs, e, by rw [hK]; exact n'.sq, by rw [rr.length, hl, hn], names_go is ds xs σ ρ hi hl rr R kk⟩
    · cases q'
  | _ => cases q

/-! ### comprehensions -/
/-- no test -/
def eYes : Ev Bool := fun _ P => some (true, P)
theorem pts_no : PTs X [] (tT C eYes) := ⟨fun pins s σ H Q I ⟨U, ρ, P, b, P', R, q, k⟩ => by
  cases q
  exact (pts_nil (X := X)).run pins s σ H Q I (k H .refl R)⟩
theorem ptsd_one {c : Expr} {f : Ev Bool} (h : PT X c (tT C f)) : PTs X [c] (tT C f) := pts_one h
def compL (ρw : En) (tgt : Tgt) (test : Ev Bool) (elt : Ev Dt) : List Dt → Pt → Option (List Dt × Pt)
  | [], P => some ([], P)
  | d :: ds, P => match tgt d ρw with
    | none => none
    | some ρ1 => match test ρ1 P with
      | none => none
      | some (false, P1) => compL ρw tgt test elt ds P1
      | some (true, P1) => match elt ρ1 P1 with
        | none => none
        | some (y, P2) => match compL ρw tgt test elt ds P2 with
          | none => none
          | some (out, P3) => some (y :: out, P3)
def eComp (own : List Nat) (it : Ev (List Dt)) (tgt : Tgt) (test : Ev Bool) (elt : Ev Dt) : Ev Dt := fun ρ P => match it ρ P with
  | none => none
  | some (ds, P1) => match compL (wipeD ρ own) tgt test elt ds P1 with
    | none => none
    | some (out, P2) => if out.length ≤ sizeLine then some (.list out, P2) else none
theorem eComp_some {own it tgt test elt ρ P d P2} (h : eComp own it tgt test elt ρ P = some (d, P2)) : ∃ ds P1 out, it ρ P = some (ds, P1) ∧ compL (wipeD ρ own) tgt test elt ds P1 = some (out, P2) ∧ out.length ≤ sizeLine ∧ d = .list out := by
  unfold eComp at h
  cases e : it ρ P with
  | none => rw [e] at h; cases h
  | some x =>
    obtain ⟨ds, P1⟩ := x
    rw [e] at h
    dsimp only at h
    cases e2 : compL (wipeD ρ own) tgt test elt ds P1 with
    | none => rw [e2] at h; cases h
    | some y =>
      obtain ⟨out, P3⟩ := y
      rw [e2] at h
      dsimp only at h
      split at h
      · cases h; exact ⟨ds, P1, out, rfl, e2, by assumption, rfl⟩
      · cases h
theorem ow_wipe {ρ : En} {ds : List Dt} {i : Nat} : ∀ {own : List Nat}, (wipeD ρ own)[i]? = some (.ow ds) → i ∉ own ∧ ρ[i]? = some (.ow ds)
  | [], h => ⟨by simp, h⟩
  | v :: vs, h => by
    have h' : ((wipeD ρ vs).set v .un)[i]? = some (.ow ds) := h
    by_cases e : v = i
    · subst e
      by_cases hl : v < (wipeD ρ vs).length
      · rw [List.getElem?_set_self hl] at h'; cases h'
      · rw [List.getElem?_eq_none (by simpa using hl)] at h'; cases h'
    · rw [List.getElem?_set_ne e] at h'
      obtain ⟨h1, h2⟩ := ow_wipe h'
      exact ⟨by simp [h1, Ne.symm e], h2⟩
/-- no name of one's own list stands at a new address -/
theorem no_ow {U : Addr → Prop} {σ : L2.St} {ρ : En} {P : Pt} {H : Hp} {D : Addr} {own : List Nat} (R : Rel C U σ ρ P H) (hD : H D = none) : ∀ (i : Nat) ds, (wipeD ρ own)[i]? = some (.ow ds) → (wipe σ own)[i]? ≠ some (some (.ref D)) := fun i ds h z => by
  obtain ⟨h1, h2⟩ := ow_wipe h
  rw [wipe_get, if_neg (fun y => h1 y.1)] at z
  have s := R.sl i
  rw [h2] at s
  obtain ⟨a, xs, q, hh, _⟩ := s
  rw [z] at q
  cases q
  rw [hD] at hh
  cases hh
theorem newD {U : Addr → Prop} {σ : L2.St} {ρ : En} {P : Pt} {H : Hp} {D : Addr} (R : Rel C U σ ρ P H) (hD : H D = none) : ¬ C.W D ∧ C.H0 D = none := by
  have n : ¬ C.W D := fun z => by
    have q := R.pot D z
    rw [hD] at q
    cases q
  exact ⟨n, R.since.none hD n⟩
theorem lc_imp {own : List Nat} {it : Ev (List Dt)} {tgt : Tgt} {test : Ev Bool} {elt : Ev Dt} {σ : L2.St} {H : Hp} {Q : VK} (h : tDm m2 C (eComp own it tgt test elt) σ H Q) : tLc (tI false m C it) (tG m C own tgt) (tT C test) (tDm m2 C elt) own σ H Q := by
  obtain ⟨U, ρ, P, d, P2, R, q, k⟩ := h
  obtain ⟨ds, P1, out, q1, q2, hsz, rfl⟩ := eComp_some q
  refine ⟨U, ρ, P, ds, P1, R, q1, fun J H1 e1 R1 Y D hD => ?_⟩
  obtain ⟨nWD, n0D⟩ := newD R1 hD
  refine ⟨fun i m H => m = ds.length - i ∧ i ≤ ds.length ∧ ∃ acc out' accv Pi, compL (wipeD ρ own) tgt test elt (ds.drop i) Pi = some (out', P2) ∧ out = acc ++ out' ∧ H D = some (.lst accv) ∧ Reps C.K (Um m2 C (And1 U D)) H acc accv ∧ Rel C (And1 U D) (wipe σ own) (wipeD ρ own) Pi H ∧ Ext C.W H1 H,
    ⟨ds.length, by simp, Nat.zero_le _, [], out, [], P1, by simpa using q2, rfl, upd_same, reps_nil, (R1.grow hD).wipe own, .of (same_upd hD)⟩, ?_⟩
  rintro i m H2 ⟨rfl, hi, acc, out', accv, Pi, qc, eo, hDa, racc, R2, E⟩
  by_cases hlt : i < ds.length
  · refine .inr ⟨Y.go H2 E i hlt, fun H' => (∃ acc out' accv Pi, compL (wipeD ρ own) tgt test elt (ds.drop (i + 1)) Pi = some (out', P2) ∧ out = acc ++ out' ∧ H' D = some (.lst accv) ∧ Reps C.K (Um m2 C (And1 U D)) H' acc accv ∧ Rel C (And1 U D) (wipe σ own) (wipeD ρ own) Pi H' ∧ Ext C.W H1 H'),
      fun H' nx => ⟨ds.length - (i + 1), by omega, rfl, hlt, nx⟩, fun x H' y => ?_⟩
    obtain ⟨d, hd⟩ : ∃ d, ds[i]? = some d := ⟨ds[i], by simp [hlt]⟩
    obtain ⟨sm, rx⟩ := Y.yld H2 E (And1 U D) R2.dm (fun b z => z.elim .inl fun e => .inr (by rw [e]; exact hD)) i x H' d y hd
    have hdr : ds.drop i = d :: ds.drop (i + 1) := by
      rw [List.drop_eq_getElem_cons hlt]
      have : ds[i] = d := by
        have := (List.getElem?_eq_some_iff.mp hd).2
        exact this
      rw [this]
    rw [hdr] at qc
    simp only [compL] at qc
    have R3 := R2.same sm
    cases qt : tgt d (wipeD ρ own) with
    | none => rw [qt] at qc; cases qc
    | some ρ1 =>
      rw [qt] at qc
      dsimp only at qc
      refine ⟨And1 U D, wipeD ρ own, Pi, d, ρ1, R3, rx, qt, fun σ' R4 hw => ⟨hw.trans (wipe_wipe σ own), ?_⟩⟩
      have hw' : wipe σ' own = wipe σ own := hw.trans (wipe_wipe σ own)
      have poke : ∀ {Pj : Pt} {H' H4 : Hp} {ys : List V}, Rel C (And1 U D) (wipe σ own) (wipeD ρ own) Pj H4 → H4 D = some (.lst accv) → Rel C (And1 U D) (wipe σ own) (wipeD ρ own) Pj (upd H4 D (.lst ys)) := fun {Pj H' H4 ys} R h => R.poke h (.inr rfl) n0D fun j es hj => no_ow (own := own) R1 hD j es hj
      have hD' : ∀ {H4 : Hp}, Ext C.W H' H4 → H4 D = some (.lst accv) := fun {H4} e => e.keep D _ (sm _ _ hDa) nWD fun _ z => by cases z
      have keepR : ∀ {Pj : Pt} {H4 : Hp}, Ext C.W H' H4 → Tabs C.T H4 → (∀ p, C.pot = some p → H4 p = some (.lst [.int Pj.1, .int Pj.2])) → Rel C (And1 U D) (wipe σ own) (wipeD ρ own) Pj H4 := fun e t p => R3.step e t p
      cases qs : test ρ1 Pi with
      | none => rw [qs] at qc; cases qc
      | some z =>
        obtain ⟨b, P3⟩ := z
        rw [qs] at qc
        refine ⟨And1 U D, ρ1, Pi, b, P3, R4, qs, fun H3 e3 R5 => ?_⟩
        cases b with
        | false =>
          dsimp only at qc
          simp only [Bool.false_eq_true, if_false]
          exact ⟨acc, out', accv, P3, qc, eo, hD' e3, (racc.keep (.of (W := C.W) sm) R3.wm).keep e3 R3.wm, keepR e3 R5.tabs R5.pot, E.trans ((Ext.of sm).trans e3)⟩
        | true =>
          dsimp only at qc
          simp only [if_true]
          cases qe : elt ρ1 P3 with
          | none => rw [qe] at qc; cases qc
          | some z =>
            obtain ⟨y, P4⟩ := z
            rw [qe] at qc
            dsimp only at qc
            cases qn : compL (wipeD ρ own) tgt test elt (ds.drop (i + 1)) P4 with
            | none => rw [qn] at qc; cases qc
            | some z =>
              obtain ⟨out2, P5⟩ := z
              rw [qn] at qc
              cases qc
              refine ⟨And1 U D, ρ1, P3, y, P4, R5, qe, fun v H4 e4 R6 r4 => ?_⟩
              have e34 := e3.trans e4
              have h4 := hD' e34
              have lacc : acc.length < sizeLine := by
                rw [eo, List.length_append, List.length_cons] at hsz
                omega
              have racc4 : Reps C.K (Um m2 C (And1 U D)) H4 acc accv := (racc.keep (.of (W := C.W) sm) R3.wm).keep e34 R3.wm
              refine ⟨accv, h4, by rw [racc4.length]; exact lacc, acc ++ [y], out2, accv ++ [v], P4, qn, by rw [eo]; simp, upd_same, ?_, poke (H' := H4) (keepR e34 R6.tabs R6.pot) h4, ?_⟩
              · have eD : Ext (fun b => b = D) H4 (upd H4 D (.lst (accv ++ [v]))) := ⟨fun b o h n _ => by rw [upd_ne n]; exact h, fun b ps h => ⟨ps, by rw [upd_ne (ne_of h h4 fun z => by cases z)]; exact h⟩⟩
                exact (racc4.append (reps_cons r4 reps_nil)).keep eD fun b z => by
                  subst z
                  cases m2 with
                  | true => exact .inr rfl
                  | false => exact .inl ⟨.inr rfl, n0D⟩
              · have E4 := E.trans ((Ext.of (W := C.W) sm).trans e34)
                exact ⟨fun b o h n t => by rw [upd_ne (ne_of_none h hD)]; exact E4.keep b o h n t, fun b ps h => by rw [upd_ne (ne_of_none h hD)]; exact E4.tbl b ps h⟩
  · have ei : i = ds.length := by omega
    subst ei
    refine .inl ⟨Y.stop H2 E _ (Nat.le_refl _), ?_⟩
    rw [List.drop_of_length_le (Nat.le_refl _)] at qc
    cases qc
    rw [List.append_nil] at eo
    subst eo
    have R3 := R1.step E R2.tabs R2.pot
    exact k _ H2 (e1.trans E) R3 ⟨D, accv, rfl, ⟨hDa, fun z => R1.new hD (R1.um _ z)⟩, racc.shrink fun b z => by
      cases m2 with
      | true => exact .inl z
      | false => exact z.elim (fun y => .inl ⟨.inl y.1, y.2⟩) .inr⟩

theorem pd_lc {own : List Nat} {it : Ev (List Dt)} {tgt : Tgt} {test : Ev Bool} {elt : Ev Dt} {e : Expr} (hK : X.K = C.K) (h : PE X e (tLc (tI false m C it) (tG m C own tgt) (tT C test) (tDm m2 C elt) own)) : PE X e (tDm m2 C (eComp own it tgt test elt)) := pe_weak h fun σ H Q q => lc_imp q
/-! ### all, any of generator expressions -/
def genL (stop : Bool) (ρw : En) (tgt : Tgt) (test : Ev Bool) (elt : Ev Dt) : List Dt → Pt → Option (Bool × Pt)
  | [], P => some (!stop, P)
  | d :: ds, P => match tgt d ρw with
    | none => none
    | some ρ1 => match test ρ1 P with
      | none => none
      | some (false, P1) => genL stop ρw tgt test elt ds P1
      | some (true, P1) => match elt ρ1 P1 with
        | some (.bool k, P2) => if k = stop then some (stop, P2) else genL stop ρw tgt test elt ds P2
        | _ => none
def eGen (stop : Bool) (own : List Nat) (it : Ev (List Dt)) (tgt : Tgt) (test : Ev Bool) (elt : Ev Dt) : Ev Dt := fun ρ P => match it ρ P with
  | none => none
  | some (ds, P1) => match genL stop (wipeD ρ own) tgt test elt ds P1 with
    | none => none
    | some (b, P2) => some (.bool b, P2)
theorem pd_gen {stop : Bool} {own : List Nat} {it : Ev (List Dt)} {tgt : Tgt} {test : Ev Bool} {elt : Ev Dt} {e : Expr} {Pt' : Addr} (hT : (Pt', none) ∈ C.T) (hu : ∀ p ∈ C.T, p.1 = Pt' → p.2 = none) (h : PE X e (GX.tGen stop Pt' (tI false m C it) (tG m C own tgt) (tT C test) (tDm m2 C elt) own)) : PE X e (tDm true C (eGen stop own it tgt test elt)) := by
  refine pe_weak h fun σ H Q ⟨U, ρ, P, d, P2, R, q, k⟩ => ?_
  unfold eGen at q
  cases q1 : it ρ P with
  | none => rw [q1] at q; cases q
  | some x =>
    obtain ⟨ds, P1⟩ := x
    rw [q1] at q
    dsimp only at q
    cases q2 : genL stop (wipeD ρ own) tgt test elt ds P1 with
    | none => rw [q2] at q; cases q
    | some y =>
      obtain ⟨bb, P3⟩ := y
      rw [q2] at q
      cases q
      refine ⟨U, ρ, P, ds, P1, R, q1, fun J H0 e0 R0 Y => ⟨R0.tabs _ hT, fun H1 tb => ?_⟩⟩
      -- the table has grown
      have e01 : Ext C.W H0 H1 := ⟨fun b o hb _ n => by
          by_cases hp : b = Pt'
          · obtain ⟨ps, hps, _⟩ := (show GxR.TabG H0 Pt' from R0.tabs _ hT)
            rw [hp, hps] at hb
            cases hb
            exact absurd rfl (n ps)
          · rw [tb.2 b hp]; exact hb, fun b ps hb => by
          by_cases hp : b = Pt'
          · obtain ⟨ps', h', _⟩ := tb.1
            exact ⟨ps', by rw [hp]; exact h'⟩
          · exact ⟨ps, by rw [tb.2 b hp]; exact hb⟩⟩
      have tabs1 : Tabs C.T H1 := fun p hp => by
        obtain ⟨ps0, h0, _⟩ := (show GxR.TabG H0 Pt' from R0.tabs _ hT)
        by_cases hpp : p.1 = Pt'
        · obtain ⟨a, q⟩ := p
          have e2 := hu _ hp hpp
          cases (show q = none from e2)
          cases (show a = Pt' from hpp)
          exact (show GxR.TabG H1 Pt' from tb.1)
        · exact (R0.tabs p hp).keep (fun o h => by rw [tb.2 p.1 hpp]; exact h) fun c q h => by
            rw [tb.2 c fun z => by rw [z, h0] at h; unfold LamX.CodeO at h; cases h]; exact h
      have R1 : Rel C U σ ρ P1 H1 := R0.step e01 tabs1 fun p hp => e01.tbl |> fun _ => by
        have hq := R0.pot p hp
        have : p ≠ Pt' := fun z => by
          obtain ⟨ps, h1, _⟩ := (show GxR.TabG H0 Pt' from R0.tabs _ hT)
          rw [z, h1] at hq
          cases hq
        rw [tb.2 p this]
        exact hq
      refine ⟨fun i m H => m = ds.length - i ∧ i ≤ ds.length ∧ ∃ Pi, genL stop (wipeD ρ own) tgt test elt (ds.drop i) Pi = some (bb, P2) ∧ Rel C U (wipe σ own) (wipeD ρ own) Pi H ∧ Ext C.W H1 H,
        ds.length, ⟨by simp, Nat.zero_le _, P1, by simpa using q2, R1.wipe own, .refl⟩, ?_⟩
      rintro i m H2 ⟨rfl, hi, Pi, qc, R2, E⟩
      have E0 := e01.trans E
      by_cases hlt : i < ds.length
      · refine .inr ⟨Y.go H2 E0 i hlt, fun x H' y => ?_⟩
        obtain ⟨d, hd⟩ : ∃ d, ds[i]? = some d := ⟨ds[i], by simp [hlt]⟩
        obtain ⟨sm, rx⟩ := Y.yld H2 E0 U R2.dm (fun b z => .inl z) i x H' d y hd
        have hdr : ds.drop i = d :: ds.drop (i + 1) := by
          rw [List.drop_eq_getElem_cons hlt]
          have : ds[i] = d := (List.getElem?_eq_some_iff.mp hd).2
          rw [this]
        rw [hdr] at qc
        simp only [genL] at qc
        have R3 := R2.same sm
        cases qt : tgt d (wipeD ρ own) with
        | none => rw [qt] at qc; cases qc
        | some ρ1 =>
          rw [qt] at qc
          dsimp only at qc
          refine ⟨U, wipeD ρ own, Pi, d, ρ1, R3, rx, qt, fun σ' R4 hw => ⟨hw.trans (wipe_wipe σ own), ?_⟩⟩
          cases qs : test ρ1 Pi with
          | none => rw [qs] at qc; cases qc
          | some z =>
            obtain ⟨b, P3⟩ := z
            rw [qs] at qc
            refine ⟨U, ρ1, Pi, b, P3, R4, qs, fun H3 e3 R5 => ?_⟩
            cases b with
            | false =>
              dsimp only at qc
              simp only [Bool.false_eq_true, if_false]
              exact ⟨ds.length - (i + 1), by omega, rfl, hlt, P3, qc, R3.step e3 R5.tabs R5.pot, E.trans ((Ext.of sm).trans e3)⟩
            | true =>
              dsimp only at qc
              simp only [if_true]
              cases qe : elt ρ1 P3 with
              | none => rw [qe] at qc; cases qc
              | some z =>
                obtain ⟨y', P4⟩ := z
                rw [qe] at qc
                refine ⟨U, ρ1, P3, y', P4, R5, qe, fun v H4 e4 R6 r4 => ⟨by omega, ?_⟩⟩
                cases y' with
                | bool kk =>
                  cases (show v = .bl kk from r4)
                  dsimp only at qc
                  refine ⟨kk, rfl, ?_⟩
                  have E4 := E.trans ((Ext.of (W := C.W) sm).trans (e3.trans e4))
                  split at qc
                  · rename_i hk
                    cases qc
                    rw [if_pos hk]
                    exact k _ H4 (e0.trans (e01.trans E4)) (R1.step E4 R6.tabs R6.pot) rfl
                  · rename_i hk
                    rw [if_neg hk]
                    exact ⟨ds.length - (i + 1), by omega, rfl, hlt, P4, qc, R3.step (e3.trans e4) R6.tabs R6.pot, E4⟩
                | _ => cases qc
      · have ei : i = ds.length := by omega
        subst ei
        refine .inl ⟨Y.stop H2 E0 _ (Nat.le_refl _), ?_⟩
        rw [List.drop_of_length_le (Nat.le_refl _)] at qc
        cases qc
        exact k _ H2 (e0.trans E0) (R1.step E R2.tabs R2.pot) rfl
end
end PD

/-! part D5 -/
set_option Elab.async false
set_option linter.all false
set_option maxRecDepth 100000
set_option maxHeartbeats 4000000
/-! statements as functions; a def's body; own work -/
namespace PD
open PySem PySem.Spec PyProof.Rows L2

inductive Fl where
  | nx | rt (d : Dt) | bk | ct
abbrev Sv := En → Pt → Option (Fl × En × Pt)

/-- what a statement may leave: its own lists and the pot changed, new lists of its own -/
structure Left (C : Fx) (U : Addr → Prop) (H : Hp) (U' : Addr → Prop) (H' : Hp) : Prop where
  ext : Ext (Chg C U) H H'
  new : ∀ b, U' b → U b ∨ H b = none
  pw : ∀ b, C.W b → U b
theorem Left.refl {C : Fx} {U : Addr → Prop} {H : Hp} (hw : ∀ b, C.W b → U b) : Left C U H U H := ⟨.refl, fun _ h => .inl h, hw⟩
theorem Left.trans {C : Fx} {U U1 U2 : Addr → Prop} {H H1 H2 : Hp} (a : Left C U H U1 H1) (b : Left C U1 H1 U2 H2) : Left C U H U2 H2 := by
  have key : ∀ c o, H c = some o → ¬ Chg C U c → ¬ Chg C U1 c := fun c o e n u => by
    rcases u with ⟨u, z⟩ | u
    · exact (a.new c u).elim (fun q => n (.inl ⟨q, z⟩)) fun z => by rw [z] at e; cases e
    · exact n (.inr u)
  refine ⟨⟨fun c o e n t => b.ext.keep c o (a.ext.keep c o e n t) (key c o e n) t, fun c ps e => let ⟨_, h⟩ := a.ext.tbl c ps e; b.ext.tbl c _ h⟩, fun c u => ?_, a.pw⟩
  rcases b.new c u with u1 | n1
  · exact a.new c u1
  · by_cases hu : U c
    · exact .inl hu
    · exact .inr (a.ext.none n1 fun z => hu (z.elim (·.1) (a.pw c)))
theorem Left.of {C : Fx} {U : Addr → Prop} {H H' : Hp} (e : Ext C.W H H') (h : ∀ b, C.W b → U b) : Left C U H U H' := ⟨e.mono fun b z => .inr z, fun _ u => .inl u, h⟩

def Out (C : Fx) (U : Addr → Prop) (H : Hp) (D : Ends) (ρ' : En) (P' : Pt) : Fl → Prop
  | .nx => ∀ U' σ' H', Left C U H U' H' → Rel C U' σ' ρ' P' H' → D.nx σ' H'
  | .rt d => ∀ U' σ' v H', Left C U H U' H' → Rel C U' σ' ρ' P' H' → Rep C.K U' H' d v → D.rt v H'
  | .bk => ∀ U' σ' H', Left C U H U' H' → Rel C U' σ' ρ' P' H' → D.bk σ' H'
  | .ct => ∀ U' σ' H', Left C U H U' H' → Rel C U' σ' ρ' P' H' → D.ct σ' H'
def tS (C : Fx) (g : Sv) : TS := fun D σ H => ∃ U ρ P fl ρ' P', Rel C U σ ρ P H ∧ g ρ P = some (fl, ρ', P') ∧ Out C U H D ρ' P' fl
theorem Out.left {C : Fx} {U U1 : Addr → Prop} {H H1 : Hp} {D : Ends} {ρ' : En} {P' : Pt} (l : Left C U H U1 H1) : ∀ {fl : Fl}, Out C U H D ρ' P' fl → Out C U1 H1 D ρ' P' fl
  | .nx, h => fun U' σ' H' l' R => h U' σ' H' (l.trans l') R
  | .rt d, h => fun U' σ' v H' l' R r => h U' σ' v H' (l.trans l') R r
  | .bk, h => fun U' σ' H' l' R => h U' σ' H' (l.trans l') R
  | .ct, h => fun U' σ' H' l' R => h U' σ' H' (l.trans l') R

section
variable {X : Cx} {C : Fx} {st : Stmt} {sts : List Stmt} {m : Bool}
theorem ps_weak {t t' : TS} (h : PS X st t) (w : ∀ D σ H, t' D σ H → t D σ H) : PS X st t' := ⟨fun pins s σ H D I q => h.run pins s σ H D I (w D σ H q)⟩
theorem pss_weak {t t' : TS} (h : PSs X sts t) (w : ∀ D σ H, t' D σ H → t D σ H) : PSs X sts t' := ⟨fun pins s σ H D I q => h.run pins s σ H D I (w D σ H q)⟩
def sNil : Sv := fun ρ P => some (.nx, ρ, P)
def sSeq (f g : Sv) : Sv := fun ρ P => match f ρ P with
  | some (.nx, ρ1, P1) => g ρ1 P1
  | r => r
theorem pssd_nil : PSs X [] (tS C sNil) := pss_weak pss_nil fun D σ H ⟨U, ρ, P, fl, ρ', P', R, q, k⟩ => by
  cases q
  exact k U σ H (.refl R.w) R
theorem pssd_cons {f g : Sv} (h1 : PS X st (tS C f)) (h2 : PSs X sts (tS C g)) : PSs X (st :: sts) (tS C (sSeq f g)) := pss_weak (pss_cons h1 h2) fun D σ H ⟨U, ρ, P, fl, ρ', P', R, q, k⟩ => by
  unfold sSeq at q
  cases e : f ρ P with
  | none => rw [e] at q; cases q
  | some x =>
    obtain ⟨fl1, ρ1, P1⟩ := x
    rw [e] at q
    cases fl1 with
    | nx => exact ⟨U, ρ, P, .nx, ρ1, P1, R, e, fun U1 σ1 H1 l1 R1 => ⟨U1, ρ1, P1, fl, ρ', P', R1, q, k.left l1⟩⟩
    | rt d => cases q; exact ⟨U, ρ, P, .rt d, _, _, R, e, k⟩
    | bk => cases q; exact ⟨U, ρ, P, .bk, _, _, R, e, k⟩
    | ct => cases q; exact ⟨U, ρ, P, .ct, _, _, R, e, k⟩
theorem pssd_one {f : Sv} (h1 : PS X st (tS C f)) : PSs X [st] (tS C f) := pss_one h1
/-- target = e -/
def sSet (f : Ev Dt) (tgt : Tgt) : Sv := fun ρ P => match f ρ P with
  | some (d, P1) => (match tgt d ρ with
    | some ρ1 => some (.nx, ρ1, P1)
    | none => none)
  | none => none
theorem psd_set {f : Ev Dt} {tgt : Tgt} {own : List Nat} (h : PS X st (tAsg (tDm m C f) (tG m C own tgt))) : PS X st (tS C (sSet f tgt)) := ps_weak h fun D σ H ⟨U, ρ, P, fl, ρ', P', R, q, k⟩ => by
  unfold sSet at q
  cases e : f ρ P with
  | none => rw [e] at q; cases q
  | some x =>
    obtain ⟨d, P1⟩ := x
    rw [e] at q
    dsimp only at q
    cases e2 : tgt d ρ with
    | none => rw [e2] at q; cases q
    | some ρ1 =>
      rw [e2] at q
      cases q
      exact ⟨U, ρ, P, d, _, R, e, fun v H1 e1 R1 r1 => ⟨U, ρ, _, d, _, R1, r1, e2, fun σ' R' _ => k U σ' H1 (.of e1 R.w) R'⟩⟩
/-- name = e -/
def sSetN (m : Bool) (i : Nat) (f : Ev Dt) : Sv := sSet f (gN m i)
theorem psd_setN {i : Nat} {f : Ev Dt} (h : PS X st (tAsg (tDm m C f) (gName i))) : PS X st (tS C (sSetN m i f)) := ps_weak h fun D σ H ⟨U, ρ, P, fl, ρ', P', R, q, k⟩ => by
  unfold sSetN sSet at q
  cases e : f ρ P with
  | none => rw [e] at q; cases q
  | some x =>
    obtain ⟨d, P1⟩ := x
    rw [e] at q
    cases q
    exact ⟨U, ρ, P, d, _, R, e, fun v H1 e1 R1 r1 => k U _ H1 (.of e1 R.w) (R1.setM i r1)⟩
def sExp (f : Ev Dt) : Sv := fun ρ P => match f ρ P with
  | some (_, P1) => some (.nx, ρ, P1)
  | none => none
theorem psd_expr {f : Ev Dt} (h : PS X st (tDrop (tDm m C f))) : PS X st (tS C (sExp f)) := ps_weak h fun D σ H ⟨U, ρ, P, fl, ρ', P', R, q, k⟩ => by
  unfold sExp at q
  cases e : f ρ P with
  | none => rw [e] at q; cases q
  | some x =>
    obtain ⟨d, P1⟩ := x
    rw [e] at q
    cases q
    exact ⟨U, ρ, P, d, _, R, e, fun v H1 e1 R1 r1 => k U _ H1 (.of e1 R.w) R1⟩
def sRet (f : Ev Dt) : Sv := fun ρ P => match f ρ P with
  | some (d, P1) => some (.rt d, ρ, P1)
  | none => none
theorem psd_ret {f : Ev Dt} (h : PS X st (tRet (tD C f))) : PS X st (tS C (sRet f)) := ps_weak h fun D σ H ⟨U, ρ, P, fl, ρ', P', R, q, k⟩ => by
  unfold sRet at q
  cases e : f ρ P with
  | none => rw [e] at q; cases q
  | some x =>
    obtain ⟨d, P1⟩ := x
    rw [e] at q
    cases q
    exact ⟨U, ρ, P, d, _, R, e, fun v H1 e1 R1 r1 => k U _ v H1 (.of e1 R.w) R1 r1⟩
def sRetN : Sv := fun ρ P => some (.rt .none, ρ, P)
theorem psd_retN (h : PS X st tRetN) : PS X st (tS C sRetN) := ps_weak h fun D σ H ⟨U, ρ, P, fl, ρ', P', R, q, k⟩ => by
  cases q
  exact k U σ .non H (.refl R.w) R rfl
theorem psd_pass (h : PS X st tNext) : PS X st (tS C sNil) := ps_weak h fun D σ H ⟨U, ρ, P, fl, ρ', P', R, q, k⟩ => by
  cases q
  exact k U σ H (.refl R.w) R
def sBk : Sv := fun ρ P => some (.bk, ρ, P)
def sCt : Sv := fun ρ P => some (.ct, ρ, P)
theorem psd_break (h : PS X st tBreak) : PS X st (tS C sBk) := ps_weak h fun D σ H ⟨U, ρ, P, fl, ρ', P', R, q, k⟩ => by
  cases q
  exact k U σ H (.refl R.w) R
theorem psd_cont (h : PS X st tCont) : PS X st (tS C sCt) := ps_weak h fun D σ H ⟨U, ρ, P, fl, ρ', P', R, q, k⟩ => by
  cases q
  exact k U σ H (.refl R.w) R
def sIf (c : Ev Bool) (f g : Sv) : Sv := fun ρ P => match c ρ P with
  | some (true, P1) => f ρ P1
  | some (false, P1) => g ρ P1
  | none => none
theorem psd_if {c : Ev Bool} {f g : Sv} (h : PS X st (tIfS (tT C c) (tS C f) (tS C g))) : PS X st (tS C (sIf c f g)) := ps_weak h fun D σ H ⟨U, ρ, P, fl, ρ', P', R, q, k⟩ => by
  unfold sIf at q
  cases e : c ρ P with
  | none => rw [e] at q; cases q
  | some x =>
    obtain ⟨b, P1⟩ := x
    rw [e] at q
    refine ⟨U, ρ, P, b, P1, R, e, fun H1 e1 R1 => ?_⟩
    cases b with
    | true =>
      rw [if_pos rfl]
      exact ⟨U, ρ, P1, fl, ρ', P', R1, q, k.left (.of e1 R.w)⟩
    | false =>
      rw [if_neg Bool.false_ne_true]
      exact ⟨U, ρ, P1, fl, ρ', P', R1, q, k.left (.of e1 R.w)⟩

/-! ### for -/
def forL (tgt : Tgt) (body : Sv) : List Dt → En → Pt → Option (Fl × En × Pt)
  | [], ρ, P => some (.nx, ρ, P)
  | d :: ds, ρ, P => match tgt d ρ with
    | none => none
    | some ρ1 => match body ρ1 P with
      | none => none
      | some (.nx, ρ2, P2) => forL tgt body ds ρ2 P2
      | some (.ct, ρ2, P2) => forL tgt body ds ρ2 P2
      | some (.bk, ρ2, P2) => some (.nx, ρ2, P2)
      | some (.rt d, ρ2, P2) => some (.rt d, ρ2, P2)
def sFor (it : Ev (List Dt)) (tgt : Tgt) (body : Sv) : Sv := fun ρ P => match it ρ P with
  | some (ds, P1) => forL tgt body ds ρ P1
  | none => none
theorem psd_for {it : Ev (List Dt)} {tgt : Tgt} {body : Sv} {own : List Nat} (h : PS X st (tFor (tI true m C it) (tG m C own tgt) (tS C body))) : PS X st (tS C (sFor it tgt body)) := ps_weak h fun D σ H ⟨U, ρ, P, fl, ρ', P', R, q, k⟩ => by
  unfold sFor at q
  cases e : it ρ P with
  | none => rw [e] at q; cases q
  | some x =>
    obtain ⟨ds, P1⟩ := x
    rw [e] at q
    dsimp only at q
    refine ⟨U, ρ, P, ds, P1, R, e, fun J H1 e1 R1 Y => ?_⟩
    have k := k.left (.of e1 R.w)
    refine ⟨fun i m σ H => m = ds.length - i ∧ i ≤ ds.length ∧ ∃ U2 ρ2 P2, forL tgt body (ds.drop i) ρ2 P2 = some (fl, ρ', P') ∧ Rel C U2 σ ρ2 P2 H ∧ Left C U H1 U2 H,
      ⟨ds.length, by simp, Nat.zero_le _, U, ρ, P1, by simpa using q, R1, .refl R1.w⟩, ?_⟩
    rintro i m σ2 H2 ⟨rfl, hi, U2, ρ2, P2, qc, R2, L⟩
    by_cases hlt : i < ds.length
    · refine .inr ⟨Y.go H2 L.ext i hlt, fun σ' H' => ∃ U2 ρ2 P2, forL tgt body (ds.drop (i + 1)) ρ2 P2 = some (fl, ρ', P') ∧ Rel C U2 σ' ρ2 P2 H' ∧ Left C U H1 U2 H', fun σ' H' nx => ⟨ds.length - (i + 1), by omega, rfl, hlt, nx⟩, fun x H' y => ?_⟩
      obtain ⟨d, hd⟩ : ∃ d, ds[i]? = some d := ⟨ds[i], by simp [hlt]⟩
      obtain ⟨sm, rx⟩ := Y.yld H2 L.ext U2 R2.dm L.new i x H' d y hd
      have hdr : ds.drop i = d :: ds.drop (i + 1) := by
        rw [List.drop_eq_getElem_cons hlt]
        have : ds[i] = d := (List.getElem?_eq_some_iff.mp hd).2
        rw [this]
      rw [hdr] at qc
      simp only [forL] at qc
      have R3 := R2.same sm
      have L3 : Left C U H1 U2 H' := L.trans ⟨.of sm, fun _ u => .inl u, R2.w⟩
      cases qt : tgt d ρ2 with
      | none => rw [qt] at qc; cases qc
      | some ρ3 =>
        rw [qt] at qc
        dsimp only at qc
        refine ⟨U2, ρ2, P2, d, ρ3, R3, rx, qt, fun σ' R4 _ => ?_⟩
        cases qb : body ρ3 P2 with
        | none => rw [qb] at qc; cases qc
        | some z =>
          obtain ⟨fl3, ρ4, P4⟩ := z
          rw [qb] at qc
          refine ⟨U2, ρ3, P2, fl3, ρ4, P4, R4, qb, ?_⟩
          cases fl3 with
          | nx => exact fun U5 σ5 H5 l5 R5 => ⟨U5, ρ4, P4, qc, R5, L3.trans l5⟩
          | ct => exact fun U5 σ5 H5 l5 R5 => ⟨U5, ρ4, P4, qc, R5, L3.trans l5⟩
          | bk =>
            cases qc
            exact fun U5 σ5 H5 l5 R5 => k U5 σ5 H5 (L3.trans l5) R5
          | rt d =>
            cases qc
            exact fun U5 σ5 v H5 l5 R5 r5 => k U5 σ5 v H5 (L3.trans l5) R5 r5
    · have ei : i = ds.length := by omega
      subst ei
      refine .inl ⟨Y.stop H2 L.ext _ (Nat.le_refl _), ?_⟩
      rw [List.drop_of_length_le (Nat.le_refl _)] at qc
      cases qc
      exact k U2 σ2 H2 L R2

/-! ### while -/
/-- n turns at most -/
def whileL (c : Ev Bool) (body : Sv) : Nat → En → Pt → Option (Fl × En × Pt)
  | 0, _, _ => none
  | n + 1, ρ, P => match c ρ P with
    | none => none
    | some (false, P1) => some (.nx, ρ, P1)
    | some (true, P1) => match body ρ P1 with
      | none => none
      | some (.nx, ρ2, P2) => whileL c body n ρ2 P2
      | some (.ct, ρ2, P2) => whileL c body n ρ2 P2
      | some (.bk, ρ2, P2) => some (.nx, ρ2, P2)
      | some (.rt d, ρ2, P2) => some (.rt d, ρ2, P2)
open Classical in
noncomputable def sWhile (c : Ev Bool) (body : Sv) : Sv := fun ρ P => if h : ∃ n, (whileL c body n ρ P).isSome then whileL c body h.choose ρ P else none
theorem whileL_mono {c : Ev Bool} {body : Sv} : ∀ {n : Nat} {ρ : En} {P : Pt} {r}, whileL c body n ρ P = some r → whileL c body (n + 1) ρ P = some r
  | 0, _, _, _, h => by cases h
  | n + 1, ρ, P, r, h => by
    rw [whileL] at h ⊢
    cases e : c ρ P with
    | none => rw [e] at h; cases h
    | some x =>
      obtain ⟨b, P1⟩ := x
      rw [e] at h
      cases b with
      | false => exact h
      | true =>
        dsimp only at h ⊢
        cases e2 : body ρ P1 with
        | none => rw [e2] at h; cases h
        | some z =>
          obtain ⟨fl, ρ2, P2⟩ := z
          rw [e2] at h
          cases fl with
          | nx => exact whileL_mono (n := n) h
          | ct => exact whileL_mono (n := n) h
          | bk => exact h
          | rt d => exact h
theorem whileL_le {c : Ev Bool} {body : Sv} {n m : Nat} {ρ : En} {P : Pt} {r} (h : whileL c body n ρ P = some r) (l : n ≤ m) : whileL c body m ρ P = some r := by
  induction l with
  | refl => exact h
  | step _ ih => exact whileL_mono ih
theorem sWhile_of {c : Ev Bool} {body : Sv} {n : Nat} {ρ : En} {P : Pt} {r} (h : whileL c body n ρ P = some r) : sWhile c body ρ P = some r := by
  unfold sWhile
  have hx : ∃ n, (whileL c body n ρ P).isSome := ⟨n, by rw [h]; rfl⟩
  rw [dif_pos hx]
  obtain ⟨y, hy⟩ := Option.isSome_iff_exists.mp hx.choose_spec
  have h1 := whileL_le hy (Nat.le_max_left _ n)
  have h2 := whileL_le h (Nat.le_max_right hx.choose n)
  rw [h1] at h2
  rw [hy, h2]
theorem sWhile_some {c : Ev Bool} {body : Sv} {ρ : En} {P : Pt} {r} (h : sWhile c body ρ P = some r) : ∃ n, whileL c body n ρ P = some r := by
  unfold sWhile at h
  split at h
  · exact ⟨_, h⟩
  · cases h
theorem psd_while {c : Ev Bool} {body : Sv} (h : PS X st (tWhile (tT C c) (tS C body))) : PS X st (tS C (sWhile c body)) := ps_weak h fun D σ H ⟨U, ρ, P, fl, ρ', P', R, q, k⟩ => by
  obtain ⟨n, q⟩ := sWhile_some q
  refine ⟨fun m σ H1 => ∃ U2 ρ2 P2, whileL c body m ρ2 P2 = some (fl, ρ', P') ∧ Rel C U2 σ ρ2 P2 H1 ∧ Left C U H U2 H1, ⟨n, U, ρ, P, q, R, .refl R.w⟩, ?_⟩
  rintro m σ2 H2 ⟨U2, ρ2, P2, qc, R2, L⟩
  cases m with
  | zero => cases qc
  | succ m =>
    rw [whileL] at qc
    cases e : c ρ2 P2 with
    | none => rw [e] at qc; cases qc
    | some x =>
      obtain ⟨b, P3⟩ := x
      rw [e] at qc
      refine ⟨U2, ρ2, P2, b, P3, R2, e, fun H3 e3 R3 => ?_⟩
      have L3 := L.trans (.of e3 R2.w)
      cases b with
      | false =>
        cases qc
        exact iteF (k U2 σ2 H3 L3 R3)
      | true =>
        dsimp only at qc
        refine iteT ?_
        cases e2 : body ρ2 P3 with
        | none => rw [e2] at qc; cases qc
        | some z =>
          obtain ⟨fl3, ρ4, P4⟩ := z
          rw [e2] at qc
          refine ⟨fun σ' H' => ∃ U5 ρ5 P5, whileL c body m ρ5 P5 = some (fl, ρ', P') ∧ Rel C U5 σ' ρ5 P5 H' ∧ Left C U H U5 H', fun σ' H' nx => ⟨m, Nat.lt_succ_self _, nx⟩, U2, ρ2, P3, fl3, ρ4, P4, R3, e2, ?_⟩
          cases fl3 with
          | nx => exact fun U5 σ5 H5 l5 R5 => ⟨U5, ρ4, P4, qc, R5, L3.trans l5⟩
          | ct => exact fun U5 σ5 H5 l5 R5 => ⟨U5, ρ4, P4, qc, R5, L3.trans l5⟩
          | bk =>
            cases qc
            exact fun U5 σ5 H5 l5 R5 => k U5 σ5 H5 (L3.trans l5) R5
          | rt d =>
            cases qc
            exact fun U5 σ5 v H5 l5 R5 r5 => k U5 σ5 v H5 (L3.trans l5) R5 r5

/-! ### a list of one's own -/
theorem Rel.setOw {U : Addr → Prop} {σ : L2.St} {ρ : En} {P : Pt} {H : Hp} {D : Addr} {xs : List V} {ds : List Dt} (R : Rel C U σ ρ P H) (i : Nat) (hD : H D = some (.lst xs)) (u : U D) (n0 : C.H0 D = none) (r : Reps C.K U H ds xs)
    (no : ∀ (j : Nat) es, j ≠ i → ρ[j]? = some (.ow es) → σ[j]? ≠ some (some (.ref D))) : Rel C U (σ.set i (some (.ref D))) (ρ.set i (.ow ds)) P H where
  u0 := R.u0
  d0 := R.d0
  p0 := R.p0
  dom := R.dom
  since := R.since
  tabs := R.tabs
  pot := R.pot
  len := by simp [R.len]
  sl := fun j => by
    by_cases hj : i = j
    · subst hj
      by_cases hl : i < ρ.length
      · rw [List.getElem?_set_self hl, List.getElem?_set_self (by rw [R.len]; exact hl)]
        exact ⟨D, xs, rfl, hD, u, n0, r⟩
      · rw [List.getElem?_eq_none (by simpa using hl)]
        trivial
    · rw [List.getElem?_set_ne hj, List.getElem?_set_ne hj]
      exact R.sl j
  ap := fun j k es fs h1 h2 h3 => by
    have at_i : ∀ j es, (ρ.set i (.ow ds))[j]? = some (.ow es) → j = i → (σ.set i (some (.ref D)))[j]? = some (some (.ref D)) := fun j es h e => by
      subst e
      have hl : j < ρ.length := by
        by_cases hl : j < ρ.length
        · exact hl
        · rw [List.getElem?_eq_none (by simpa using hl)] at h; cases h
      rw [List.getElem?_set_self (by rw [R.len]; exact hl)]
    have off : ∀ j es, (ρ.set i (.ow ds))[j]? = some (.ow es) → j ≠ i → (σ.set i (some (.ref D)))[j]? ≠ some (some (.ref D)) ∧ ρ[j]? = some (.ow es) ∧ (σ.set i (some (.ref D)))[j]? = σ[j]? := fun j es h n => by
      rw [List.getElem?_set_ne (Ne.symm n)] at h
      rw [List.getElem?_set_ne (Ne.symm n)]
      exact ⟨no j es n h, h, rfl⟩
    by_cases e1 : j = i
    · by_cases e2 : k = i
      · rw [e1, e2]
      · exact absurd (h3.symm.trans (at_i j es h1 e1)) (off k fs h2 e2).1
    · by_cases e2 : k = i
      · exact absurd (h3.trans (at_i k fs h2 e2)) (off j es h1 e1).1
      · obtain ⟨_, a1, a2⟩ := off j es h1 e1
        obtain ⟨_, b1, b2⟩ := off k fs h2 e2
        exact R.ap j k es fs a1 b1 (by rw [← a2, ← b2]; exact h3)
theorem no_ow' {U : Addr → Prop} {σ : L2.St} {ρ : En} {P : Pt} {H : Hp} {D : Addr} (R : Rel C U σ ρ P H) (hD : H D = none) : ∀ (i : Nat) ds, ρ[i]? = some (.ow ds) → σ[i]? ≠ some (some (.ref D)) := fun i ds h z => by
  have s := R.sl i
  rw [h] at s
  obtain ⟨a, xs, q, hh, _⟩ := s
  rw [z] at q
  cases q
  rw [hD] at hh
  cases hh
/-- name = [..], a list of one's own -/
def sNew (i : Nat) (g : Ev (List Dt)) : Sv := fun ρ P => match g ρ P with
  | some (ds, P1) => if ds.length ≤ sizeLine then some (.nx, ρ.set i (.ow ds), P1) else none
  | none => none
theorem psd_new {i : Nat} {g : Ev (List Dt)} (h : PS X st (tAsg (tLst (tDs C g)) (gName i))) : PS X st (tS C (sNew i g)) := ps_weak h fun D σ H ⟨U, ρ, P, fl, ρ', P', R, q, k⟩ => by
  unfold sNew at q
  cases e : g ρ P with
  | none => rw [e] at q; cases q
  | some x =>
    obtain ⟨ds, P1⟩ := x
    rw [e] at q
    dsimp only at q
    split at q
    · rename_i hl
      cases q
      refine ⟨U, ρ, P, ds, _, R, e, fun vs H1 e1 R1 r1 => ⟨by rw [r1.length]; exact hl, fun p hp => ?_⟩⟩
      obtain ⟨nW, n0⟩ := newD R1 hp
      have R2 : Rel C (And1 U p) σ ρ P' (upd H1 p (.lst vs)) := R1.grow hp
      refine k (And1 U p) _ _ ((Left.of e1 R.w).trans ⟨.of (same_upd hp), fun b z => z.elim .inl fun q => .inr (by rw [q]; exact hp), R1.w⟩) ?_
      exact R2.setOw i upd_same (.inr rfl) n0 (r1.grow hp) fun j es _ hj => no_ow' R1 hp j es hj
    · cases q
/-- name.append(e) -/
def sApp (i : Nat) (f : Ev Dt) : Sv := fun ρ P => match f ρ P with
  | some (d, P1) => (match ρ[i]? with
    | some (.ow ds) => if ds.length < sizeLine then some (.nx, ρ.set i (.ow (ds ++ [d])), P1) else none
    | _ => none)
  | none => none
/-- the reading of name.append(e) -/
def tApp (K : PySem.W.Frag) (i : Nat) (te : TE) : TS := fun D σ H => ∃ l, σ[i]? = some (some (.ref l)) ∧ (∃ xs, SqL K H l xs) ∧ te σ H fun y H1 => ∃ xs, H1 l = some (.lst xs) ∧ xs.length < sizeLine ∧ D.nx σ (upd H1 l (.lst (xs ++ [y])))
theorem psd_app {i : Nat} {f : Ev Dt} (hK : X.K = C.K) (h : PS X st (tApp X.K i (tD C f))) : PS X st (tS C (sApp i f)) := ps_weak h fun D σ H ⟨U, ρ, P, fl, ρ', P', R, q, k⟩ => by
  unfold sApp at q
  cases e : f ρ P with
  | none => rw [e] at q; cases q
  | some x =>
    obtain ⟨d, P1⟩ := x
    rw [e] at q
    dsimp only at q
    split at q
    · rename_i ds hi
      split at q
      · rename_i hl
        cases q
        have s := R.sl i
        rw [hi] at s
        obtain ⟨a, xs, hσ, ha, u, n0, r⟩ := s
        refine ⟨a, hσ, ⟨xs, .inl (.inl ha)⟩, U, ρ, P, d, _, R, e, fun v H1 e1 R1 r1 => ?_⟩
        have s1 := R1.sl i
        rw [hi] at s1
        obtain ⟨a1, xs1, hσ1, ha1, u1, n01, rr⟩ := s1
        rw [hσ] at hσ1
        cases hσ1
        refine ⟨xs1, ha1, by rw [rr.length]; exact hl, ?_⟩
        have eD : Ext (fun b => b = a) H1 (upd H1 a (.lst (xs1 ++ [v]))) := ⟨fun b o h n _ => by rw [upd_ne n]; exact h, fun b ps h => ⟨ps, by rw [upd_ne (ne_of h ha1 fun z => by cases z)]; exact h⟩⟩
        have hU : ∀ b, b = a → U b := fun b z => by rw [z]; exact u1
        have hC : ∀ b, b = a → Chg C U b := fun b z => by rw [z]; exact .inl ⟨u1, n01⟩
        refine k U σ _ ((Left.of e1 R.w).trans ⟨eD.mono hC, fun b z => .inl z, R1.w⟩) ?_
        have rr2 : Reps C.K U (upd H1 a (.lst (xs1 ++ [v]))) (ds ++ [d]) (xs1 ++ [v]) := (rr.append (reps_cons r1 reps_nil)).keep eD hU
        -- the slot i for itself, the others by poke
        have R2 : Rel C U (σ.set i none) (ρ.set i .un) P' H1 := R1.forget i
        have R3 : Rel C U (σ.set i none) (ρ.set i .un) P' (upd H1 a (.lst (xs1 ++ [v]))) := R2.poke ha1 u1 n01 fun j es hj => by
          by_cases hji : i = j
          · subst hji
            by_cases hl : i < ρ.length
            · rw [List.getElem?_set_self hl] at hj; cases hj
            · rw [List.getElem?_eq_none (by simpa using hl)] at hj; cases hj
          · rw [List.getElem?_set_ne hji] at hj ⊢
            intro z
            exact hji (R1.ap i j ds es hi hj (by rw [hσ, z]))
        have R4 := R3.setOw i upd_same u1 n01 rr2 fun j es hji hj => by
          rw [List.getElem?_set_ne (Ne.symm hji)] at hj ⊢
          intro z
          exact hji (R1.ap j i es ds hj hi (by rw [hσ, z]))
        rw [List.set_set, List.set_set] at R4
        have es : σ.set i (some (.ref a)) = σ := by
          apply List.ext_getElem?
          intro j
          by_cases hji : i = j
          · subst hji
            have hl : i < σ.length := (List.getElem?_eq_some_iff.mp hσ).1
            rw [List.getElem?_set_self hl, hσ]
          · rw [List.getElem?_set_ne hji]
        rw [es] at R4
        exact R4
      · cases q
    · cases q
/-- a list of one's own is handed out: it grows no more -/
def sFrz (i : Nat) (g : Sv) : Sv := fun ρ P => match ρ[i]? with
  | some (.ow ds) => g (ρ.set i (.sh (.list ds))) P
  | _ => none
theorem Rel.frz {U : Addr → Prop} {σ : L2.St} {ρ : En} {P : Pt} {H : Hp} {i : Nat} {ds : List Dt} (R : Rel C U σ ρ P H) (hi : ρ[i]? = some (.ow ds)) : ∃ U', (∀ b, U' b → U b) ∧ Rel C U' σ (ρ.set i (.sh (.list ds))) P H := by
  have s := R.sl i
  rw [hi] at s
  obtain ⟨a, xs, hσ, ha, u, n0, r⟩ := s
  have sub : ∀ b, (U b ∧ b ≠ a) → U b := fun b z => z.1
  refine ⟨fun b => U b ∧ b ≠ a, sub, ?_⟩
  have hl : i < ρ.length := (List.getElem?_eq_some_iff.mp hi).1
  refine ⟨fun b h => ⟨R.u0 b h, fun e => (R.d0 b h).ne (by rw [e]; exact n0)⟩, R.d0, R.p0, fun b z => R.dom b z.1, R.since, R.tabs, R.pot, by simp [R.len], fun j => ?_, fun j k es fs h1 h2 h3 => ?_⟩
  · by_cases hj : i = j
    · subst hj
      rw [List.getElem?_set_self hl]
      exact ⟨_, hσ, a, xs, rfl, ⟨ha, fun z => z.2 rfl⟩, r.shrink sub⟩
    · rw [List.getElem?_set_ne hj]
      have h := R.sl j
      revert h
      cases hρ : ρ[j]? with
      | none => exact fun _ => trivial
      | some dv =>
        cases dv with
        | un => exact fun _ => trivial
        | sh d => exact fun ⟨v, q, r⟩ => ⟨v, q, r.shrink sub⟩
        | lk d => exact fun ⟨v, q, r⟩ => ⟨v, q, r.shrink fun b z => z.elim (fun y => .inl ⟨sub b y.1, y.2⟩) .inr⟩
        | vw d => exact fun ⟨v, q, r⟩ => ⟨v, q, r.ext (W := fun _ => False) .refl (fun _ z => z.elim) fun b _ z => sub b z⟩
        | ow es => exact fun ⟨b, ys, q, h, u', n, r⟩ => ⟨b, ys, q, h, ⟨u', fun z => hj (R.ap i j ds es hi hρ (by rw [hσ, q, z]))⟩, n, r.shrink sub⟩
        | pt => exact fun h => h
  · have nj : i ≠ j := fun e => by subst e; rw [List.getElem?_set_self hl] at h1; cases h1
    have nk : i ≠ k := fun e => by subst e; rw [List.getElem?_set_self hl] at h2; cases h2
    rw [List.getElem?_set_ne nj] at h1
    rw [List.getElem?_set_ne nk] at h2
    exact R.ap j k es fs h1 h2 h3
theorem Left.shrink {U U' : Addr → Prop} {H : Hp} (hw : ∀ b, C.W b → U b) (h : ∀ b, U' b → U b) : Left C U H U' H := ⟨.refl, fun b z => .inl (h b z), hw⟩
theorem frz_go {i : Nat} {g : Sv} {D : Ends} {σ : L2.St} {H : Hp} (h : tS C (sFrz i g) D σ H) : tS C g D σ H := by
  obtain ⟨U, ρ, P, fl, ρ', P', R, q, k⟩ := h
  unfold sFrz at q
  split at q
  · rename_i ds hi
    obtain ⟨U', sub, R'⟩ := R.frz hi
    exact ⟨U', _, P, fl, ρ', P', R', q, k.left (.shrink R.w sub)⟩
  · cases q
theorem psd_frz {i : Nat} {g : Sv} (h : PS X st (tS C g)) : PS X st (tS C (sFrz i g)) := ps_weak h fun D σ H h => frz_go h
end

/-! ### a def's body -/
/-- the names at the entry -/
def enOf (n : Nat) (ds : List Dt) : En := ds.map .sh ++ List.replicate (n - ds.length) .un
def enOfP (n : Nat) (ds : List Dt) : En := .pt :: (ds.map .sh ++ List.replicate (n - (ds.length + 1)) .un)
/-- what a body gives -/
def resD : Option (Fl × En × Pt) → Option Dt
  | some (.rt d, _, _) => some d
  | some (.nx, _, _) => some .none
  | _ => none
def resP : Option (Fl × En × Pt) → Option (Dt × Pt)
  | some (.rt d, _, P) => some (d, P)
  | some (.nx, _, P) => some (.none, P)
  | _ => none
def semD (n : Nat) (g : Sv) (ds : List Dt) : Option Dt := resD (g (enOf n ds) (0, 0))
def semP (n : Nat) (g : Sv) (P : Pt) (ds : List Dt) : Option (Dt × Pt) := resP (g (enOfP n ds) P)
theorem slots_sh {C : Fx} {U : Addr → Prop} {H : Hp} {ds : List Dt} {vs : List V} (r : Reps C.K U H ds vs) (n m : Nat) (i : Nat) : SlotR C U H (ds.map DV.sh ++ List.replicate n .un)[i]? (vs.map some ++ List.replicate m none)[i]? := by
  have hl := r.length
  by_cases hi : i < ds.length
  · rw [List.getElem?_append_left (by simpa using hi), List.getElem?_append_left (by simpa [hl] using hi), List.getElem?_map, List.getElem?_map]
    obtain ⟨d, hd⟩ : ∃ d, ds[i]? = some d := ⟨ds[i], by simp [hi]⟩
    obtain ⟨v, hv, rv⟩ := r.at hd
    rw [hd, hv]
    exact ⟨v, rfl, rv⟩
  · rw [List.getElem?_append_right (by simpa using hi), List.getElem?_replicate]
    split <;> trivial
theorem rel_start {K : PySem.W.Frag} {T : List TbT} {U : Addr → Prop} {H : Hp} {ds : List Dt} {vs : List V} {N : List Str} (hl : ∀ b, U b → Live H b) (ht : Tabs T H) (r : Reps K U H ds vs) (hn : ds.length ≤ N.length) :
    Rel ⟨K, T, U, none, H⟩ U (L2.start N vs) (enOf N.length ds) (0, 0) H := by
  have hlen := r.length
  refine ⟨fun _ h => h, hl, fun p h => (by cases h), hl, .refl, ht, fun p h => (by cases h), by simp [L2.start, enOf, hlen], fun i => ?_, fun i j es fs h1 h2 h3 => ?_⟩
  · exact slots_sh (C := ⟨K, T, U, none, H⟩) r _ _ i
  · unfold enOf at h1
    by_cases hi : i < ds.length
    · rw [List.getElem?_append_left (by simpa using hi), List.getElem?_map] at h1
      cases q : ds[i]? <;> rw [q] at h1 <;> cases h1
    · rw [List.getElem?_append_right (by simpa using hi), List.getElem?_replicate] at h1
      split at h1 <;> cases h1
theorem rel_startP {K : PySem.W.Frag} {T : List TbT} {U : Addr → Prop} {H : Hp} {ds : List Dt} {vs : List V} {N : List Str} {p : Addr} {P : Pt} (hl : ∀ b, U b → Live H b) (ht : Tabs T H) (hp : U p) (hh : H p = some (.lst [.int P.1, .int P.2])) (r : Reps K U H ds vs) (hn : ds.length + 1 ≤ N.length) :
    Rel ⟨K, T, U, some p, H⟩ U (L2.start N (.ref p :: vs)) (enOfP N.length ds) P H := by
  have hlen := r.length
  refine ⟨fun _ h => h, hl, fun q h => (by cases h; exact hp), hl, .refl, ht, fun q h => (by cases h; exact hh), by simp [L2.start, enOfP, hlen], fun i => ?_, fun i j es fs h1 h2 h3 => ?_⟩
  · cases i with
    | zero => exact ⟨p, rfl, rfl⟩
    | succ i =>
      show SlotR _ U H (ds.map DV.sh ++ List.replicate _ .un)[i]? (vs.map some ++ List.replicate _ none)[i]?
      exact slots_sh (C := ⟨K, T, U, some p, H⟩) r _ _ i
  · unfold enOfP at h1
    cases i with
    | zero => cases h1
    | succ i =>
      have h1 : (ds.map DV.sh ++ List.replicate (N.length - (ds.length + 1)) .un)[i]? = some (.ow es) := h1
      by_cases hi : i < ds.length
      · rw [List.getElem?_append_left (by simpa using hi), List.getElem?_map] at h1
        cases q : ds[i]? <;> rw [q] at h1 <;> cases h1
      · rw [List.getElem?_append_right (by simpa using hi), List.getElem?_replicate] at h1
        split at h1 <;> cases h1
section
variable {P : Program} {w : World} {K : PySem.W.Frag} {mg : Str → Option Value} {base : Heap} {f : Addr} {fd : FuncData}
theorem read_body {T : List TbT} {N : List Str} {n : Nat} {g : Sv} {vs : List V} {H : Hp} {Q : VK} {E : XK} (hn : n ≤ N.length) (h : spD K T n (semD N.length g) vs H Q E) : ∃ U0, tS ⟨K, T, U0, none, H⟩ g { nx := fun _ H' => Q .non H', rt := Q } (L2.start N vs) H := by
  obtain ⟨U, ds, d, hl, ht, r, hd, q, k⟩ := h
  have R := rel_start (N := N) hl ht r (by omega)
  unfold semD at q
  cases e : g (enOf N.length ds) (0, 0) with
  | none => rw [e] at q; cases q
  | some x =>
    obtain ⟨fl, ρ', P'⟩ := x
    rw [e] at q
    have toE : ∀ {U' : Addr → Prop} {σ' : L2.St} {H' : Hp}, Rel ⟨K, T, U, none, H⟩ U' σ' ρ' P' H' → Ext (fun _ => False) H H' := fun R' => R'.since.mono fun b z => by cases z
    cases fl with
    | rt d' =>
      cases q
      exact ⟨U, U, _, _, _, _, _, R, e, fun U' σ' v H' l R' r' => k v H' (toE R') R'.tabs (r'.shrink R'.u0)⟩
    | nx =>
      cases q
      exact ⟨U, U, _, _, _, _, _, R, e, fun U' σ' H' l R' => k .non H' (toE R') R'.tabs rfl⟩
    | bk => cases q
    | ct => cases q
theorem read_bodyP {T : List TbT} {N : List Str} {n : Nat} {g : Sv} {vs : List V} {H : Hp} {Q : VK} {E : XK} (hn : n + 1 ≤ N.length) (h : spP K T n (semP N.length g) vs H Q E) : ∃ U0 p, tS ⟨K, T, U0, some p, H⟩ g { nx := fun _ H' => Q .non H', rt := Q } (L2.start N vs) H := by
  obtain ⟨U, p, ws, P, P', ds, d, rfl, hl, ht, hp, hh, r, hd, q, k⟩ := h
  have R := rel_startP (N := N) hl ht hp hh r (by omega)
  unfold semP at q
  cases e : g (enOfP N.length ds) P with
  | none => rw [e] at q; cases q
  | some x =>
    obtain ⟨fl, ρ', P'⟩ := x
    rw [e] at q
    have toE : ∀ {U' : Addr → Prop} {σ' : L2.St} {H' : Hp}, Rel ⟨K, T, U, some p, H⟩ U' σ' ρ' P' H' → Ext (fun b => b = p) H H' := fun R' => R'.since.mono fun b z => by cases z; rfl
    cases fl with
    | rt d' =>
      cases q
      exact ⟨U, p, U, _, _, _, _, _, R, e, fun U' σ' v H' l R' r' => k v H' (toE R') R'.tabs (R'.pot p rfl) (r'.shrink R'.u0)⟩
    | nx =>
      cases q
      exact ⟨U, p, U, _, _, _, _, _, R, e, fun U' σ' H' l R' => k .non H' (toE R') R'.tabs (R'.pot p rfl) rfl⟩
    | bk => cases q
    | ct => cases q
end
end PD

/-! part D6 -/
set_option Elab.async false
set_option linter.all false
set_option maxRecDepth 100000
set_option maxHeartbeats 4000000
/-! operators and comparisons on data; own work -/
namespace PD
open PySem PySem.Spec PyProof.Rows L2

/-! ### what a value of such a kind is -/
section
variable {K : PySem.W.Frag} {U W : Addr → Prop} {H : Hp}
theorem RepV.lst {ds : List Dt} {v : V} (h : RepV K U W H (.list ds) v) : ∃ a xs, v = .ref a ∧ SqL K H a xs ∧ Reps K U H ds xs := let ⟨a, xs, e, n, r⟩ := h; ⟨a, xs, e, n.sq, r⟩
theorem RepV.tup {ds : List Dt} {v : V} (h : RepV K U W H (.tuple ds) v) : ∃ a xs, v = .ref a ∧ SqT K H a xs ∧ Reps K U H ds xs ∧ Rep K U H (.tuple ds) v := let ⟨a, xs, e, n, r⟩ := (show Rep K U H (.tuple ds) v from h); ⟨a, xs, e, n.sq, r, a, xs, e, n, r⟩
theorem RepV.int {i : Int} {v : V} (h : RepV K U W H (.int i) v) : v = .int i := h
theorem RepV.str {i : Str} {v : V} (h : RepV K U W H (.str i) v) : v = .str i := h
theorem RepV.bool {i : Bool} {v : V} (h : RepV K U W H (.bool i) v) : v = .bl i := h
theorem RepV.none {v : V} (h : RepV K U W H .none v) : v = .non := h
theorem new_not {p : Addr} (hU : ∀ b, U b → Live H b) (hp : H p = none) : ¬ U p := fun u => (hU p u).ne hp
theorem rep_newL {p : Addr} {ds : List Dt} {xs : List V} (hU : ∀ b, U b → Live H b) (hp : H p = none) (r : Reps K U H ds xs) : Rep K U (upd H p (.lst xs)) (.list ds) (.ref p) :=
  ⟨p, xs, rfl, ⟨upd_same, new_not hU hp⟩, r.keep (.of (W := fun _ => False) (same_upd hp)) fun _ z => z.elim⟩
theorem rep_newT {p : Addr} {ds : List Dt} {xs : List V} (hU : ∀ b, U b → Live H b) (hp : H p = none) (r : Reps K U H ds xs) : Rep K U (upd H p (.tup xs)) (.tuple ds) (.ref p) :=
  ⟨p, xs, rfl, .inl ⟨.inl upd_same, new_not hU hp⟩, r.keep (.of (W := fun _ => False) (same_upd hp)) fun _ z => z.elim⟩
end

theorem ite_some {α : Type} {c : Prop} [Decidable c] {a d : α} (h : (if c then some a else none) = some d) : c ∧ a = d := by
  split at h
  · cases h; exact ⟨by assumption, rfl⟩
  · cases h
/-! ### two data in, one out -/
def rDD (K : PySem.W.Frag) (g : Dt → Dt → Option Dt) : R2 := fun x y H Q => ∃ (U W : Addr → Prop) (a b d : Dt), (∀ b, U b → Live H b) ∧ RepV K U W H a x ∧ RepV K U W H b y ∧ g a b = some d ∧ ∀ v H', Same H H' → Rep K U H' d v → Q v H'
def eOp (g : Dt → Dt → Option Dt) (f1 f2 : Ev Dt) : Ev Dt := fun ρ P => match f1 ρ P with
  | some (a, P1) => (match f2 ρ P1 with
    | some (b, P2) => (match g a b with
      | some d => some (d, P2)
      | none => none)
    | none => none)
  | none => none
theorem eOp_some {g f1 f2 ρ P d P2} (h : eOp g f1 f2 ρ P = some (d, P2)) : ∃ a b P1, f1 ρ P = some (a, P1) ∧ f2 ρ P1 = some (b, P2) ∧ g a b = some d := by
  unfold eOp at h
  cases e : f1 ρ P with
  | none => rw [e] at h; cases h
  | some x =>
    obtain ⟨a, P1⟩ := x
    rw [e] at h
    dsimp only at h
    cases e2 : f2 ρ P1 with
    | none => rw [e2] at h; cases h
    | some y =>
      obtain ⟨b, P3⟩ := y
      rw [e2] at h
      dsimp only at h
      cases e3 : g a b with
      | none => rw [e3] at h; cases h
      | some z => rw [e3] at h; cases h; exact ⟨a, b, P1, rfl, e2, e3⟩
theorem eOp_of {g f1 f2 ρ P a P1 b P2 d} (h1 : f1 ρ P = some (a, P1)) (h2 : f2 ρ P1 = some (b, P2)) (h3 : g a b = some d) : eOp g f1 f2 ρ P = some (d, P2) := by
  simp only [eOp, h1, h2, h3]

section
variable {X : Cx} {C : Fx} {a b : Expr} {f1 f2 : Ev Dt} {g : Dt → Dt → Option Dt} {pos : Pos} {m : Bool}
theorem dd_go {f : Dt → Dt → Option Dt} {ta : TE} {σ : L2.St} {H : Hp} {Q : VK} (h : tDm m C (eOp f f1 f2) σ H Q) : tOp (rDD C.K f) (tVm m C f1) (tVm m C f2) σ H Q := by
  obtain ⟨U, ρ, P, d, P', R, q, k⟩ := h
  obtain ⟨a, b, P1, q1, q2, q3⟩ := eOp_some q
  exact ⟨U, ρ, P, a, P1, R, q1, fun x H1 e1 R1 r1 => ⟨U, ρ, P1, b, P', R1, q2, fun y H2 e2 R2 r2 => ⟨Um m C U, C.W, a, b, d, R2.dm, r1.keep e2 R2.wm, r2, q3, fun v H3 sm r => k v H3 (e1.trans (e2.trans (.of sm))) (R2.same sm) r⟩⟩⟩
theorem pd_op {op : Operator} (ho : OpR X (binaryOp op) (rDD C.K g)) (ha : PE X a (tVm m C f1)) (hb : PE X b (tVm m C f2)) : PE X (.BinOp a op b pos) (tDm m C (eOp g f1 f2)) :=
  pe_weak (pe_op ho ha hb) fun σ H Q h => dd_go (m := m) (ta := tVm m C f1) h
theorem pd_cmp {op : CmpOp} (ho : OpR X (compareOp op) (rDD C.K g)) (ha : PE X a (tVm m C f1)) (hb : PE X b (tVm m C f2)) (hm : behindInMarks op b = false) : PE X (.Compare a [op] [b] pos) (tDm m C (eOp g f1 f2)) :=
  pe_weak (pe_cmpR ho ha hb hm) fun σ H Q h => dd_go (m := m) (ta := tVm m C f1) h
/-- a value that is a bool, as a test -/
def asB (f : Ev Dt) : Ev Bool := fun ρ P => match f ρ P with
  | some (.bool k, P1) => some (k, P1)
  | _ => none
theorem asB_some {f : Ev Dt} {ρ P k P1} (h : asB f ρ P = some (k, P1)) : f ρ P = some (.bool k, P1) := by
  unfold asB at h
  split at h
  · cases h; assumption
  · cases h
theorem asB_of {f : Ev Dt} {ρ P k P1} (h : f ρ P = some (.bool k, P1)) : asB f ρ P = some (k, P1) := by
  unfold asB; rw [h]
theorem ptd_cmp {op : CmpOp} (ho : OpR X (compareOp op) (rDD C.K g)) (ha : PE X a (tVm m C f1)) (hb : PE X b (tVm m C f2)) (hm : behindInMarks op b = false) : PT X (.Compare a [op] [b] pos) (tT C (asB (eOp g f1 f2))) :=
  pt_weak (pt_cmpR ho ha hb hm) fun σ H Q ⟨U, ρ, P, d, P', R, q, k⟩ =>
    dd_go (m := m) (ta := tVm m C f1) (Q := fun x H' => ∃ k, x = .bl k ∧ Q k H') ⟨U, ρ, P, _, P', R, asB_some q, fun v H' e R' r => ⟨d, r, k H' e R'⟩⟩

/-- no list, no tuple -/
def flatD : Dt → Bool
  | .list _ => false
  | .tuple _ => false
  | .dict _ => false
  | _ => true
theorem rep_flat {K : PySem.W.Frag} {U U' : Addr → Prop} {H : Hp} {d : Dt} {v : V} (h : flatD d = true) (r : Rep K U H d v) : Rep K U' H d v := by
  cases d with
  | list _ => cases h
  | tuple _ => cases h
  | dict _ => cases h
  | none => exact r
  | bool b => exact r
  | int b => exact r
  | str b => exact r
theorem reps_flat {K : PySem.W.Frag} {U U' : Addr → Prop} {H : Hp} : ∀ {ds : List Dt} {xs : List V}, ds.all flatD = true → Reps K U H ds xs → Reps K U' H ds xs
  | [], _, _, r => r
  | d :: ds, _, h, ⟨x, t, e, r1, r2⟩ => by
    simp only [List.all_cons, Bool.and_eq_true] at h
    exact ⟨x, t, e, rep_flat h.1 r1, reps_flat h.2 r2⟩
/-- a value without parts keeps clear of all -/
theorem pd_flat {f : Ev Dt} {e : Expr} (h : PE X e (tDm false C f)) (hf : ∀ ρ P d P', f ρ P = some (d, P') → flatD d = true) : PE X e (tDm true C f) := pe_weak h fun σ H Q ⟨U, ρ, P, d, P', R, q, k⟩ =>
  ⟨U, ρ, P, d, P', R, q, fun v H' e R' r => k v H' e R' (rep_flat (hf _ _ _ _ q) r)⟩
def flatV : Dt → Bool
  | .list ds => ds.all flatD
  | d => flatD d
/-- .. a list of such ones -/
def eFl (f : Ev Dt) : Ev Dt := fun ρ P => match f ρ P with
  | some (d, P1) => if flatV d = true then some (d, P1) else none
  | none => none
theorem pv_flat {f : Ev Dt} {e : Expr} (h : PE X e (tVm false C f)) : PE X e (tVm true C (eFl f)) := pe_weak h fun σ H Q ⟨U, ρ, P, d, P', R, q, k⟩ => by
  unfold eFl at q
  cases e1 : f ρ P with
  | none => rw [e1] at q; cases q
  | some x =>
    obtain ⟨d', P1⟩ := x
    rw [e1] at q
    obtain ⟨hf, e2⟩ := ite_some q
    cases e2
    refine ⟨U, ρ, P, d, P', R, e1, fun v H' e R' r => k v H' e R' ?_⟩
    cases d with
    | list ds => obtain ⟨a, xs, e3, n, rr⟩ := r; exact ⟨a, xs, e3, n, reps_flat hf rr⟩
    | tuple _ => cases hf
    | dict _ => cases hf
    | none => exact r
    | bool b => exact r
    | int b => exact r
    | str b => exact r
theorem flat_op {g : Dt → Dt → Option Dt} {f1 f2 : Ev Dt} (h : ∀ a b d, g a b = some d → flatD d = true) : ∀ ρ P d P', eOp g f1 f2 ρ P = some (d, P') → flatD d = true := fun ρ P d P' q => by
  obtain ⟨a, b, P1, q1, q2, q3⟩ := eOp_some q
  exact h a b d q3
end

/-! ### == -/
def dline : Nat := 100
def gEq (a b : Dt) : Option Dt := if min a.depth b.depth ≤ dline then some (.bool (PyData.eqv a b)) else none
def gNe (a b : Dt) : Option Dt := if min a.depth b.depth ≤ dline then some (.bool (!PyData.eqv a b)) else none
section
variable {X : Cx} {k : Nat}
theorem fin_dd {K : PySem.W.Frag} {U : Addr → Prop} {pins : List (Addr × Obj)} {σ : L2.St} {H : Hp} {s : Shared} {Q : VK} {kk : Bool} (I : Inv X pins σ H s) (q : ∀ v H', Same H H' → Rep K U H' (.bool kk) v → Q v H') : EP X pins σ Q (.bool kk) s := ⟨.bl kk, H, I, rfl, q _ _ (.refl _) rfl⟩
theorem units_ok (hr : Room k X.A) {n : Nat} (h : n ≤ dline) : X.A.units + 1 + n < cLine := by
  have := hr.un
  unfold dline at h
  omega
theorem dd_eq (hr : Room k X.A) : OpR X (compareOp .Eq) (rDD X.K gEq) := by
  intro pins s σ H x y v u Q I rx ry ⟨U, W, a, b, d, hU, ra, rb, hg, q⟩
  unfold gEq at hg
  split at hg
  · rename_i hd
    cases hg
    obtain ⟨as, rda⟩ := ra.reads I.hok I.kIn rx
    obtain ⟨bs, rdb⟩ := rb.reads I.hok I.kIn ry
    exact PySem.SeqAt.eq_plain rda rdb ra.plain rb.plain (by have := units_ok hr hd; omega) (fin_dd I q)
  · cases hg
theorem dd_ne (hr : Room k X.A) : OpR X (compareOp .NotEq) (rDD X.K gNe) := by
  intro pins s σ H x y v u Q I rx ry ⟨U, W, a, b, d, hU, ra, rb, hg, q⟩
  unfold gNe at hg
  split at hg
  · rename_i hd
    cases hg
    obtain ⟨as, rda⟩ := ra.reads I.hok I.kIn rx
    obtain ⟨bs, rdb⟩ := rb.reads I.hok I.kIn ry
    exact PySem.SeqAt.ne_plain rda rdb ra.plain rb.plain (by have := units_ok hr hd; omega) (fin_dd I q)
  · cases hg

/-! ### <, <=, >, >= -/
def nn : Dt → Bool
  | .none => false
  | _ => true
theorem nn_of {a : Dt} (h : nn a = true) : a ≠ .none := by rintro rfl; cases h
def cmpOk (a b : Dt) : Bool := PySem.W.alike a b && nn a && decide (min a.depth b.depth ≤ dline)
theorem cmpOk_of {a b : Dt} (h : cmpOk a b = true) : PySem.W.alike a b = true ∧ a ≠ .none ∧ min a.depth b.depth ≤ dline := by
  unfold cmpOk at h
  simp only [Bool.and_eq_true, decide_eq_true_eq] at h
  exact ⟨h.1.1, nn_of h.1.2, h.2⟩
def gLt (a b : Dt) : Option Dt := if cmpOk a b = true then some (.bool (PySem.W.dataLt a b)) else none
def gGt (a b : Dt) : Option Dt := if cmpOk a b = true then some (.bool (PySem.W.dataLt b a)) else none
def gLe (a b : Dt) : Option Dt := if cmpOk a b = true then some (.bool (!PySem.W.dataLt b a)) else none
def gGe (a b : Dt) : Option Dt := if cmpOk a b = true then some (.bool (!PySem.W.dataLt a b)) else none
theorem dd_lt (hr : Room k X.A) : OpR X (compareOp .Lt) (rDD X.K gLt) := by
  intro pins s σ H x y v u Q I rx ry ⟨U, W, a, b, d, hU, ra, rb, hg, q⟩
  unfold gLt at hg
  split at hg
  · rename_i hc
    cases hg
    obtain ⟨h1, h2, hd⟩ := cmpOk_of hc
    obtain ⟨as, rda⟩ := ra.reads I.hok I.kIn rx
    obtain ⟨bs, rdb⟩ := rb.reads I.hok I.kIn ry
    exact PySem.W.lt_data rda rdb h1 h2 (by have := units_ok hr hd; omega) (fin_dd I q)
  · cases hg
theorem dd_gt (hr : Room k X.A) : OpR X (compareOp .Gt) (rDD X.K gGt) := by
  intro pins s σ H x y v u Q I rx ry ⟨U, W, a, b, d, hU, ra, rb, hg, q⟩
  unfold gGt at hg
  split at hg
  · rename_i hc
    cases hg
    obtain ⟨h1, h2, hd⟩ := cmpOk_of hc
    obtain ⟨as, rda⟩ := ra.reads I.hok I.kIn rx
    obtain ⟨bs, rdb⟩ := rb.reads I.hok I.kIn ry
    exact PySem.W.gt_data rda rdb h1 h2 (by have := units_ok hr hd; omega) (fin_dd I q)
  · cases hg
theorem dd_le (hr : Room k X.A) : OpR X (compareOp .LtE) (rDD X.K gLe) := by
  intro pins s σ H x y v u Q I rx ry ⟨U, W, a, b, d, hU, ra, rb, hg, q⟩
  unfold gLe at hg
  split at hg
  · rename_i hc
    cases hg
    obtain ⟨h1, h2, hd⟩ := cmpOk_of hc
    obtain ⟨as, rda⟩ := ra.reads I.hok I.kIn rx
    obtain ⟨bs, rdb⟩ := rb.reads I.hok I.kIn ry
    exact PySem.W.le_data rda rdb h1 h2 (by have := units_ok hr hd; omega) (fin_dd I q)
  · cases hg
theorem dd_ge (hr : Room k X.A) : OpR X (compareOp .GtE) (rDD X.K gGe) := by
  intro pins s σ H x y v u Q I rx ry ⟨U, W, a, b, d, hU, ra, rb, hg, q⟩
  unfold gGe at hg
  split at hg
  · rename_i hc
    cases hg
    obtain ⟨h1, h2, hd⟩ := cmpOk_of hc
    obtain ⟨as, rda⟩ := ra.reads I.hok I.kIn rx
    obtain ⟨bs, rdb⟩ := rb.reads I.hok I.kIn ry
    exact PySem.W.ge_data rda rdb h1 h2 (by have := units_ok hr hd; omega) (fin_dd I q)
  · cases hg

/-! ### in, not in -/
def strIn (i j : Str) : Bool := !(Builtin.Str.occurrences j i 0 j.length 1).isEmpty
def inD (a : Dt) : Dt → Option Bool
  | .list ys => if min (PyData.depthAll ys) a.depth ≤ dline then some (ys.any fun y => PyData.eqv y a) else none
  | .tuple ys => if min (PyData.depthAll ys) a.depth ≤ dline then some (ys.any fun y => PyData.eqv y a) else none
  | .str y => match a with
    | .str x => some (strIn x y)
    | _ => none
  | _ => none
def gIn (a b : Dt) : Option Dt := (inD a b).map .bool
def gNin (a b : Dt) : Option Dt := (inD a b).map fun c => .bool (!c)
theorem plainL {ys : List Dt} (h : (PyData.list ys).plain = true) : PyData.plainAll ys = true := h
theorem plainT {ys : List Dt} (h : (PyData.tuple ys).plain = true) : PyData.plainAll ys = true := h
theorem dd_in (hr : Room k X.A) : OpR X (compareOp .In) (rDD X.K gIn) := by
  intro pins s σ H x y v u Q I rx ry ⟨U, W, a, b, d, hU, ra, rb, hg, q⟩
  unfold gIn at hg
  cases e : inD a b with
  | none => rw [e] at hg; cases hg
  | some c =>
    rw [e] at hg
    cases hg
    obtain ⟨as, rda⟩ := ra.reads I.hok I.kIn rx
    obtain ⟨bs, rdb⟩ := rb.reads I.hok I.kIn ry
    cases b with
    | list ys =>
      obtain ⟨hd, rfl⟩ := ite_some (show (if min (PyData.depthAll ys) a.depth ≤ dline then some (ys.any fun y => PyData.eqv y a) else none) = some c from e)
      exact PySem.SeqAt.in_list_data rdb rda (plainL rb.plain) ra.plain (units_ok hr hd) (fin_dd I q)
    | tuple ys =>
      obtain ⟨hd, rfl⟩ := ite_some (show (if min (PyData.depthAll ys) a.depth ≤ dline then some (ys.any fun y => PyData.eqv y a) else none) = some c from e)
      exact PySem.SeqAt.in_tuple_data rdb rda (plainT rb.plain) ra.plain (units_ok hr hd) (fin_dd I q)
    | str z =>
      cases a with
      | str w =>
        cases e
        exact op_in_str pins s σ H x y v u Q I rx ry ⟨w, z, ra, rb, q _ _ (.refl _) rfl⟩
      | _ => cases e
    | _ => cases e
theorem dd_nin (hr : Room k X.A) : OpR X (compareOp .NotIn) (rDD X.K gNin) := by
  intro pins s σ H x y v u Q I rx ry ⟨U, W, a, b, d, hU, ra, rb, hg, q⟩
  unfold gNin at hg
  cases e : inD a b with
  | none => rw [e] at hg; cases hg
  | some c =>
    rw [e] at hg
    cases hg
    obtain ⟨as, rda⟩ := ra.reads I.hok I.kIn rx
    obtain ⟨bs, rdb⟩ := rb.reads I.hok I.kIn ry
    cases b with
    | list ys =>
      obtain ⟨hd, rfl⟩ := ite_some (show (if min (PyData.depthAll ys) a.depth ≤ dline then some (ys.any fun y => PyData.eqv y a) else none) = some c from e)
      exact PySem.SeqAt.notIn_list_data rdb rda (plainL rb.plain) ra.plain (units_ok hr hd) (fin_dd I q)
    | tuple ys =>
      obtain ⟨hd, rfl⟩ := ite_some (show (if min (PyData.depthAll ys) a.depth ≤ dline then some (ys.any fun y => PyData.eqv y a) else none) = some c from e)
      exact PySem.SeqAt.notIn_tuple_data rdb rda (plainT rb.plain) ra.plain (units_ok hr hd) (fin_dd I q)
    | str z =>
      cases a with
      | str w =>
        cases e
        exact op_notin_str pins s σ H x y v u Q I rx ry ⟨w, z, ra, rb, q _ _ (.refl _) rfl⟩
      | _ => cases e
    | _ => cases e

/-! ### is, is not: of None, of bools -/
def isD : Dt → Dt → Option Bool
  | .none, .none => some true
  | _, .none => some false
  | .bool a, .bool b => some (decide (a = b))
  | _, _ => none
def gIs (a b : Dt) : Option Dt := (isD a b).map .bool
def gIsn (a b : Dt) : Option Dt := (isD a b).map fun c => .bool (!c)
theorem rep_non {K : PySem.W.Frag} {U W : Addr → Prop} {H : Hp} {a : Dt} {x : V} (r : RepV K U W H a x) : decide (x = .non) = !nn a := by
  cases a with
  | none => cases r.none; rfl
  | bool b => cases r.bool; rfl
  | int b => cases r.int; rfl
  | str b => cases r.str; rfl
  | list b => obtain ⟨p, xs, e, _⟩ := r.lst; subst e; rfl
  | tuple b => obtain ⟨p, xs, e, _⟩ := r.tup; subst e; rfl
  | dict b => exact (show False from r).elim
theorem isD_none {a : Dt} {c : Bool} (h : isD a .none = some c) : c = !nn a := by cases a <;> cases h <;> rfl
theorem dd_is : OpR X (compareOp .Is) (rDD X.K gIs) := by
  intro pins s σ H x y v u Q I rx ry ⟨U, W, a, b, d, hU, ra, rb, hg, q⟩
  unfold gIs at hg
  cases e : isD a b with
  | none => rw [e] at hg; cases hg
  | some c =>
    rw [e] at hg
    cases hg
    cases b with
    | none =>
      refine op_isN pins s σ H x y v u Q I rx ry ⟨rb.none, ?_⟩
      rw [rep_non ra, ← isD_none e]
      exact q _ _ (.refl _) rfl
    | bool j =>
      cases a with
      | bool i =>
        cases e
        exact op_is_bl pins s σ H x y v u Q I rx ry ⟨i, j, ra, rb, q _ _ (.refl _) rfl⟩
      | _ => cases e
    | _ => cases a <;> cases e
theorem dd_isn : OpR X (compareOp .IsNot) (rDD X.K gIsn) := by
  intro pins s σ H x y v u Q I rx ry ⟨U, W, a, b, d, hU, ra, rb, hg, q⟩
  unfold gIsn at hg
  cases e : isD a b with
  | none => rw [e] at hg; cases hg
  | some c =>
    rw [e] at hg
    cases hg
    cases b with
    | none =>
      refine op_notN pins s σ H x y v u Q I rx ry ⟨rb.none, ?_⟩
      rw [rep_non ra, ← isD_none e]
      exact q _ _ (.refl _) rfl
    | bool j =>
      cases a with
      | bool i =>
        cases e
        exact op_isnot_bl pins s σ H x y v u Q I rx ry ⟨i, j, ra, rb, q _ _ (.refl _) rfl⟩
      | _ => cases e
    | _ => cases a <;> cases e

/-! ### arithmetic, chains put together -/
def gAdd : Dt → Dt → Option Dt
  | .int i, .int j => some (.int (i + j))
  | .str x, .str y => if x.length + y.length ≤ sizeLine then some (.str (x ++ y)) else none
  | .list xs, .list ys => if xs.length + ys.length ≤ sizeLine then some (.list (xs ++ ys)) else none
  | .tuple xs, .tuple ys => if xs.length + ys.length ≤ sizeLine then some (.tuple (xs ++ ys)) else none
  | _, _ => none
theorem cat_lists (X : Cx) {pins : List (Addr × Obj)} {s : Shared} {σ : L2.St} {H : Hp} {l b : Addr} {xs zs : List V} {Q : VK} (I : Inv X pins σ H s) (hl : SqL X.K H l xs) (hb : SqL X.K H b zs) (hz : xs.length + zs.length ≤ sizeLine)
    (q : ∀ p, H p = none → Q (.ref p) (upd H p (.lst (xs ++ zs)))) : wpAny (model X.prog X.w) X.A (binaryOp .Add (.ref l) (.ref b)) (EP X pins σ Q) X.xe s := by
  obtain ⟨its, r, pl, h1⟩ := I.list hl
  obtain ⟨its2, r2, pl2, h2⟩ := I.list hb
  have hlen := r.length
  have hlen2 := r2.length
  obtain ⟨⟨cls, dd, data, sl⟩, ho, hc, n, hd⟩ := pl.isList
  obtain ⟨⟨cls2, dd2, data2, sl2⟩, ho2, hc2, n2, hd2⟩ := pl2.isList
  simp only at hc hd hc2 hd2
  subst hc hd hc2 hd2
  have e : its.toArray ++ its2.toArray = (its ++ its2).toArray := by simp
  refine concat_meets ⟨_, ho, rfl⟩ ⟨_, ho2, rfl⟩ noFill_list_add seq_list_add PySem.F.slot_list_add PySem.F.entry_list_add (PySem.F.args_list_add_2 _ _) (list_addW l b its.toArray its2.toArray n n2 dd dd2 sl sl2 (by rw [List.size_toArray, List.size_toArray]; omega)) ⟨ho, ho2, ?_⟩
  rw [e]
  exact ⟨.ref _, _, I.lnew (t' := s.toks) (r.append r2) (by rw [List.length_append]; omega), rfl, q _ I.fresh⟩
theorem dd_add : OpR X (binaryOp .Add) (rDD X.K gAdd) := by
  intro pins s σ H x y v u Q I rx ry ⟨U, W, a, b, d, hU, ra, rb, hg, q⟩
  cases a with
  | int i =>
    cases b with
    | int j =>
      cases hg
      exact op_add pins s σ H x y v u Q I rx ry ⟨i, j, ra, rb, q _ _ (.refl _) rfl⟩
    | _ => cases hg
  | str i =>
    cases b with
    | str j =>
      obtain ⟨hz, rfl⟩ := ite_some (show (if i.length + j.length ≤ sizeLine then some (PyData.str (i ++ j)) else none) = some d from hg)
      exact op_add_str pins s σ H x y v u Q I rx ry ⟨i, j, ra, rb, hz, q _ _ (.refl _) rfl⟩
    | _ => cases hg
  | list xs =>
    cases b with
    | list ys =>
      obtain ⟨hz, rfl⟩ := ite_some (show (if xs.length + ys.length ≤ sizeLine then some (PyData.list (xs ++ ys)) else none) = some d from hg)
      obtain ⟨l, vs, e1, s1, r1⟩ := ra.lst
      obtain ⟨m, ws, e2, s2, r2⟩ := rb.lst
      subst e1 e2
      cases rx
      cases ry
      exact cat_lists X I s1 s2 (by rw [r1.length, r2.length]; exact hz) fun p hp => q _ _ (same_upd hp) (rep_newL hU hp (r1.append r2))
    | _ => cases hg
  | tuple xs =>
    cases b with
    | tuple ys =>
      obtain ⟨hz, rfl⟩ := ite_some (show (if xs.length + ys.length ≤ sizeLine then some (PyData.tuple (xs ++ ys)) else none) = some d from hg)
      obtain ⟨l, vs, e1, s1, r1, w1⟩ := ra.tup
      obtain ⟨m, ws, e2, s2, r2, w2⟩ := rb.tup
      have z1 := r1.length
      have z2 := r2.length
      refine op_catA pins s σ H x y v u Q I rx ry ⟨l, m, vs, ws, e1, e2, s1, s2, by omega, fun h => ?_, fun _ h => ?_, fun _ _ p hp => ?_⟩
      · subst h
        have : xs = [] := List.eq_nil_of_length_eq_zero z1.symm
        subst this
        subst e2
        exact q _ _ (.refl _) w2
      · subst h
        have : ys = [] := List.eq_nil_of_length_eq_zero z2.symm
        subst this
        subst e1
        rw [List.append_nil] at q
        exact q _ _ (.refl _) w1
      · exact q _ _ (same_upd hp) (rep_newT hU hp (r1.append r2))
    | _ => cases hg
  | _ => cases hg
/-- an operation on ints alone -/
def gII (c : Int → Int → Bool) (g : Int → Int → Int) : Dt → Dt → Option Dt
  | .int i, .int j => if c i j then some (.int (g i j)) else none
  | _, _ => none
theorem dd_II {f : Value → Value → Sem Value} {c : Int → Int → Bool} {G : Int → Int → Int} {Cn : Int → Int → Prop} (h : OpR X f (rI Cn fun i j => .int (G i j))) (hc : ∀ i j, c i j = true → Cn i j) : OpR X f (rDD X.K (gII c G)) := by
  intro pins s σ H x y v u Q I rx ry ⟨U, W, a, b, d, hU, ra, rb, hg, q⟩
  cases a with
  | int i =>
    cases b with
    | int j =>
      obtain ⟨hz, rfl⟩ := ite_some (show (if c i j = true then some (PyData.int (G i j)) else none) = some d from hg)
      exact h pins s σ H x y v u Q I rx ry ⟨i, j, ra, rb, hc i j hz, q _ _ (.refl _) rfl⟩
    | _ => cases hg
  | _ => cases hg
def gSub : Dt → Dt → Option Dt := gII (fun _ _ => true) fun i j => i - j
theorem dd_sub : OpR X (binaryOp .Sub) (rDD X.K gSub) := dd_II (Cn := fun _ _ => True) (fun pins s σ H x y v u Q I rx ry ⟨i, j, h1, h2, _, q⟩ => op_sub pins s σ H x y v u Q I rx ry ⟨i, j, h1, h2, q⟩) fun _ _ _ => trivial
def cMul (i j : Int) : Bool := decide (i.natAbs.log2 + j.natAbs.log2 < 1000000)
def gMul : Dt → Dt → Option Dt := gII cMul fun i j => i * j
theorem dd_mul : OpR X (binaryOp .Mult) (rDD X.K gMul) := dd_II op_mulW fun i j h => by unfold CMulW; exact of_decide_eq_true h
def gDiv : Dt → Dt → Option Dt := gII (fun _ j => decide (0 < j ∧ j.natAbs.log2 < 9000)) fun i j => i / j
theorem dd_div : OpR X (binaryOp .FloorDiv) (rDD X.K gDiv) := dd_II op_fdivW fun i j h => by unfold CDivW; exact of_decide_eq_true h
def gMod : Dt → Dt → Option Dt := gII (fun _ j => decide (0 < j)) fun i j => i % j
theorem dd_mod : OpR X (binaryOp .Mod) (rDD X.K gMod) := dd_II op_mod fun i j h => of_decide_eq_true h
def gPow : Dt → Dt → Option Dt := gII (fun i j => decide (0 ≤ j ∧ j ≤ 1000000 ∧ i.natAbs < 2 ^ 64)) fun i j => i ^ j.toNat
theorem dd_pow : OpR X (binaryOp .Pow) (rDD X.K gPow) := dd_II op_pow fun i j h => by unfold CPow; exact of_decide_eq_true h
end
end PD

/-! part D7 -/
set_option Elab.async false
set_option linter.all false
set_option maxRecDepth 100000
set_option maxHeartbeats 4000000
/-! built-in functions, tests, subscripts, slices, some statements; own work -/
namespace PD
open PySem PySem.Spec PyProof.Rows L2

/-! ### built-in functions -/
def rCC (K : PySem.W.Frag) (g : List Dt → Option Dt) : List V → Hp → VK → Prop := fun xs H Q => ∃ (U W : Addr → Prop) (ds : List Dt) (d : Dt), (∀ b, U b → Live H b) ∧ RepVs K U W H ds xs ∧ g ds = some d ∧ ∀ v H', Same H H' → Rep K U H' d v → Q v H'
def eFn (g : List Dt → Option Dt) (f : Ev (List Dt)) : Ev Dt := fun ρ P => match f ρ P with
  | some (ds, P1) => (match g ds with
    | some d => some (d, P1)
    | none => none)
  | none => none
theorem eFn_some {g f ρ P d P2} (h : eFn g f ρ P = some (d, P2)) : ∃ ds, f ρ P = some (ds, P2) ∧ g ds = some d := by
  unfold eFn at h
  cases e : f ρ P with
  | none => rw [e] at h; cases h
  | some x =>
    obtain ⟨ds, P1⟩ := x
    rw [e] at h
    dsimp only at h
    cases e2 : g ds with
    | none => rw [e2] at h; cases h
    | some z => rw [e2] at h; cases h; exact ⟨ds, rfl, e2⟩
theorem Rep.kept {K : PySem.W.Frag} {U : Addr → Prop} {H H' : Hp} (sm : Same H H') {d : Dt} {v : V} (h : Rep K U H d v) : Rep K U H' d v := h.keep (.of (W := fun _ => False) sm) fun _ z => z.elim
theorem Reps.kept {K : PySem.W.Frag} {U : Addr → Prop} {H H' : Hp} (sm : Same H H') {d : List Dt} {v : List V} (h : Reps K U H d v) : Reps K U H' d v := h.keep (.of (W := fun _ => False) sm) fun _ z => z.elim

section
variable {X : Cx} {C : Fx} {e a b : Expr} {es : List Expr} {f f1 f2 : Ev Dt} {fs : Ev (List Dt)} {g : List Dt → Option Dt} {pos p : Pos} {id T : String} {x : Str} {m : Bool}
theorem cc_go {σ : L2.St} {H : Hp} {Q : VK} (h : tDm m C (eFn g fs) σ H Q) : tCB (rCC C.K g) (tVsm m C fs) σ H Q := by
  obtain ⟨U, ρ, P, d, P', R, q, k⟩ := h
  obtain ⟨ds, q1, q2⟩ := eFn_some q
  exact ⟨U, ρ, P, ds, P', R, q1, fun vs H1 e1 R1 r1 => ⟨Um m C U, C.W, ds, d, R1.dm, r1, q2, fun v H3 sm r => k v H3 (e1.trans (.of sm)) (R1.same sm) r⟩⟩
theorem pd_callB (hc : CallR X (.builtin id) (rCC C.K g)) (hg : Gl X x) (hm : X.mg x = none) (hv : bootBuiltins x = some (.builtin id)) (ha : PA X (e :: es) (tVsm m C fs)) (hn : x ≠ "__name__" := by decide) (hdb : (x == ("__debug__" : Str)) = false := by decide)
    (he : starEach (e :: es) X.env = (false, eval e X.env) :: starEach es X.env := by rfl) (hpl : (backTo pos (starEach es X.env)).any (·.1) = false := by rfl) : PE X (.Call (.Name x p) (e :: es) [] pos) (tDm m C (eFn g fs)) :=
  pe_weak (pe_callB hc hg hm hv ha hn hdb he hpl) fun _ _ _ h => cc_go h
theorem pd_callTy (hc : CallR X (.type T) (rCC C.K g)) (hg : Gl X x) (hm : X.mg x = none) (hv : bootBuiltins x = some (.type T)) (ha : PA X (e :: es) (tVsm m C fs)) (hn : x ≠ "__name__" := by decide) (hdb : (x == ("__debug__" : Str)) = false := by decide)
    (he : starEach (e :: es) X.env = (false, eval e X.env) :: starEach es X.env := by rfl) (hpl : (backTo pos (starEach es X.env)).any (·.1) = false := by rfl) : PE X (.Call (.Name x p) (e :: es) [] pos) (tDm m C (eFn g fs)) :=
  pe_weak (pe_callTy hc hg hm hv ha hn hdb he hpl) fun _ _ _ h => cc_go h
theorem flat_fn {g : List Dt → Option Dt} {fs : Ev (List Dt)} (h : ∀ a d, g a = some d → flatD d = true) : ∀ ρ P d P', eFn g fs ρ P = some (d, P') → flatD d = true := fun ρ P d P' q => by
  obtain ⟨a, q1, q2⟩ := eFn_some q
  exact h a d q2
end

section
variable {K : PySem.W.Frag} {U W : Addr → Prop} {H : Hp}
theorem RepVs.one {d : Dt} {vs : List V} (h : RepVs K U W H [d] vs) : ∃ v, vs = [v] ∧ RepV K U W H d v := by
  obtain ⟨x, r, e, h1, h2⟩ := h
  cases (show r = [] from h2)
  exact ⟨x, e, h1⟩
theorem RepVs.two {d d' : Dt} {vs : List V} (h : RepVs K U W H [d, d'] vs) : ∃ v w, vs = [v, w] ∧ RepV K U W H d v ∧ RepV K U W H d' w := by
  obtain ⟨x, r, e, h1, h2⟩ := h
  obtain ⟨w, e2, h3⟩ := RepVs.one h2
  subst e2
  exact ⟨x, w, e, h1, h3⟩
def intsOf : List Dt → Option (List Int)
  | [] => some []
  | .int i :: ds => (intsOf ds).map (i :: ·)
  | _ :: _ => none
def boolsOf : List Dt → Option (List Bool)
  | [] => some []
  | .bool i :: ds => (boolsOf ds).map (i :: ·)
  | _ :: _ => none
def strsOf : List Dt → Option (List Str)
  | [] => some []
  | .str i :: ds => (strsOf ds).map (i :: ·)
  | _ :: _ => none
theorem ints_reps : ∀ {ds : List Dt} {is : List Int} {xs : List V}, intsOf ds = some is → Reps K U H ds xs → xs = is.map V.int
  | [], is, xs, h, r => by cases h; cases (show xs = [] from r); rfl
  | d :: ds, is, xs, h, ⟨x, t, e, r1, r2⟩ => by
    subst e
    cases d with
    | int i =>
      cases q : intsOf ds with
      | none => simp [intsOf, q] at h
      | some js =>
        simp [intsOf, q] at h
        subst h
        rw [ints_reps q r2, show x = .int i from r1]; rfl
    | _ => cases h
theorem bools_reps : ∀ {ds : List Dt} {is : List Bool} {xs : List V}, boolsOf ds = some is → Reps K U H ds xs → xs = is.map V.bl
  | [], is, xs, h, r => by cases h; cases (show xs = [] from r); rfl
  | d :: ds, is, xs, h, ⟨x, t, e, r1, r2⟩ => by
    subst e
    cases d with
    | bool i =>
      cases q : boolsOf ds with
      | none => simp [boolsOf, q] at h
      | some js =>
        simp [boolsOf, q] at h
        subst h
        rw [bools_reps q r2, show x = .bl i from r1]; rfl
    | _ => cases h
theorem strs_reps : ∀ {ds : List Dt} {is : List Str} {xs : List V}, strsOf ds = some is → Reps K U H ds xs → xs = is.map V.str
  | [], is, xs, h, r => by cases h; cases (show xs = [] from r); rfl
  | d :: ds, is, xs, h, ⟨x, t, e, r1, r2⟩ => by
    subst e
    cases d with
    | str i =>
      cases q : strsOf ds with
      | none => simp [strsOf, q] at h
      | some js =>
        simp [strsOf, q] at h
        subst h
        rw [strs_reps q r2, show x = .str i from r1]; rfl
    | _ => cases h
end

def gLen : List Dt → Option Dt
  | [.list xs] => some (.int xs.length)
  | [.tuple xs] => some (.int xs.length)
  | [.str z] => if z.length ≤ sizeLine then some (.int z.length) else none
  | _ => none
def gAbs : List Dt → Option Dt
  | [.int i] => some (.int (if i < 0 then -i else i))
  | _ => none
def gInt : List Dt → Option Dt
  | [.int i] => some (.int i)
  | [.bool k] => some (.int (if k then 1 else 0))
  | _ => none
def maxL : List Int → Option Int
  | [] => none
  | [i] => some i
  | i :: is => (maxL is).map fun m => if m > i then m else i
def minL : List Int → Option Int
  | [] => none
  | [i] => some i
  | i :: is => (minL is).map fun m => if m < i then m else i
theorem maxL_ok : ∀ {is : List Int} {m : Int}, maxL is = some m → m ∈ is ∧ ∀ y ∈ is, y ≤ m
  | [], _, h => by cases h
  | [i], _, h => by cases h; simp
  | i :: j :: is, m, h => by
    cases q : maxL (j :: is) with
    | none => simp [maxL, q] at h
    | some m' =>
      simp only [maxL, q, Option.map_some, Option.some.injEq] at h
      obtain ⟨h1, h2⟩ := maxL_ok q
      by_cases hi : m' > i
      · rw [if_pos hi] at h
        subst h
        exact ⟨List.mem_cons_of_mem _ h1, fun y hy => (List.mem_cons.mp hy).elim (fun e => by omega) (h2 y)⟩
      · rw [if_neg hi] at h
        subst h
        exact ⟨List.mem_cons_self, fun y hy => (List.mem_cons.mp hy).elim (fun e => by omega) fun z => by have := h2 y z; omega⟩
theorem minL_ok : ∀ {is : List Int} {m : Int}, minL is = some m → m ∈ is ∧ ∀ y ∈ is, m ≤ y
  | [], _, h => by cases h
  | [i], _, h => by cases h; simp
  | i :: j :: is, m, h => by
    cases q : minL (j :: is) with
    | none => simp [minL, q] at h
    | some m' =>
      simp only [minL, q, Option.map_some, Option.some.injEq] at h
      obtain ⟨h1, h2⟩ := minL_ok q
      by_cases hi : m' < i
      · rw [if_pos hi] at h
        subst h
        exact ⟨List.mem_cons_of_mem _ h1, fun y hy => (List.mem_cons.mp hy).elim (fun e => by omega) (h2 y)⟩
      · rw [if_neg hi] at h
        subst h
        exact ⟨List.mem_cons_self, fun y hy => (List.mem_cons.mp hy).elim (fun e => by omega) fun z => by have := h2 y z; omega⟩
def gMax : List Dt → Option Dt
  | [.int i, .int j] => some (.int (if j > i then j else i))
  | [.list xs] => ((intsOf xs).bind maxL).map .int
  | _ => none
def gMin : List Dt → Option Dt
  | [.int i, .int j] => some (.int (if j < i then j else i))
  | [.list xs] => ((intsOf xs).bind minL).map .int
  | _ => none
def gSum : List Dt → Option Dt
  | [.list xs] => (intsOf xs).map fun is => .int is.sum
  | _ => none
def gAll : List Dt → Option Dt
  | [.list xs] => (boolsOf xs).map fun is => .bool (is.all id)
  | _ => none
def gAny : List Dt → Option Dt
  | [.list xs] => (boolsOf xs).map fun is => .bool (is.any id)
  | _ => none
def gList : List Dt → Option Dt
  | [.list xs] => some (.list xs)
  | [.tuple xs] => some (.list xs)
  | _ => none
def gTuple : List Dt → Option Dt
  | [.list xs] => some (.tuple xs)
  | [.tuple xs] => some (.tuple xs)
  | _ => none
def alikeEach (xs : List Dt) : Bool := xs.all fun a => xs.all fun b => PySem.W.alike a b
def isT : Dt → Bool
  | .tuple (_ :: _) => true
  | _ => false
def noT : Dt → Bool
  | .none => false
  | .tuple _ => false
  | _ => true
def sortOk (xs : List Dt) : Bool := alikeEach xs && (xs.all isT || xs.all noT) && decide (PyData.depthAll xs ≤ dline)
def sortD (xs : List Dt) : List Dt := xs.mergeSort (PySem.W.dataLe false id)
def gSorted : List Dt → Option Dt
  | [.list xs] => if sortOk xs = true then some (.list (sortD xs)) else none
  | _ => none
theorem alikeEach_of {xs : List Dt} (h : alikeEach xs = true) : PySem.W.AllAlike xs := fun d hd d' hd' => by
  unfold alikeEach at h
  exact List.all_eq_true.mp (List.all_eq_true.mp h d hd) d' hd'
theorem depthAll_mem : ∀ {xs : List Dt} {d : Dt}, d ∈ xs → d.depth ≤ PyData.depthAll xs
  | x :: xs, d, h => by
    rw [PyData.depthAll]
    rcases List.mem_cons.mp h with e | h
    · subst e; exact Nat.le_max_left _ _
    · exact Nat.le_trans (depthAll_mem h) (Nat.le_max_right _ _)
theorem sortOk_of {xs : List Dt} (h : sortOk xs = true) : PySem.W.AllAlike xs ∧ PySem.W.Sortable xs ∧ ∀ d ∈ xs, d.depth ≤ dline := by
  unfold sortOk at h
  simp only [Bool.and_eq_true, Bool.or_eq_true, decide_eq_true_eq] at h
  refine ⟨alikeEach_of h.1.1, ?_, fun d hd => Nat.le_trans (depthAll_mem hd) h.2⟩
  rcases h.1.2 with q | q
  · refine .inl fun d hd => ?_
    have := List.all_eq_true.mp q d hd
    cases d with
    | tuple ys =>
      cases ys with
      | nil => cases this
      | cons a b => exact ⟨_, _, rfl⟩
    | _ => cases this
  · refine .inr fun d hd => ?_
    have := List.all_eq_true.mp q d hd
    cases d with
    | none => cases this
    | tuple ys => cases this
    | _ => exact ⟨(fun z => by cases z), (fun _ z => by cases z)⟩

section
variable {X : Cx} {k : Nat}
theorem cc_len : CallR X (.builtin "len") (rCC X.K gLen) := by
  intro pins s σ H xs us Q I r ⟨U, W, ds, d, hU, rs, hg, q⟩
  unfold gLen at hg
  split at hg
  · cases hg
    obtain ⟨v, rfl, r1⟩ := rs.one
    obtain ⟨a, ys, rfl, sq, rr⟩ := r1.lst
    exact call_len_seq pins s σ H _ us Q I r ⟨a, ys, rfl, .inl sq, q _ _ (.refl _) (by rw [rr.length]; rfl)⟩
  · cases hg
    obtain ⟨v, rfl, r1⟩ := rs.one
    obtain ⟨a, ys, rfl, sq, rr, _⟩ := r1.tup
    exact call_len_seq pins s σ H _ us Q I r ⟨a, ys, rfl, .inr sq, q _ _ (.refl _) (by rw [rr.length]; rfl)⟩
  · obtain ⟨hz, rfl⟩ := ite_some hg
    obtain ⟨v, rfl, r1⟩ := rs.one
    cases r1.str
    exact call_len_str pins s σ H _ us Q I r ⟨_, rfl, hz, q _ _ (.refl _) rfl⟩
  · cases hg
theorem cc_abs : CallR X (.builtin "abs") (rCC X.K gAbs) := by
  intro pins s σ H xs us Q I r ⟨U, W, ds, d, hU, rs, hg, q⟩
  unfold gAbs at hg
  split at hg
  · cases hg
    obtain ⟨v, rfl, r1⟩ := rs.one
    cases r1.int
    exact call_abs pins s σ H _ us Q I r ⟨_, rfl, q _ _ (.refl _) rfl⟩
  · cases hg
theorem cc_int : CallR X (.type "int") (rCC X.K gInt) := by
  intro pins s σ H xs us Q I r ⟨U, W, ds, d, hU, rs, hg, q⟩
  unfold gInt at hg
  split at hg
  · cases hg
    obtain ⟨v, rfl, r1⟩ := rs.one
    cases r1.int
    exact call_int1 pins s σ H _ us Q I r (.inl ⟨_, rfl, q _ _ (.refl _) rfl⟩)
  · cases hg
    obtain ⟨v, rfl, r1⟩ := rs.one
    cases r1.bool
    exact call_int1 pins s σ H _ us Q I r (.inr ⟨_, rfl, q _ _ (.refl _) rfl⟩)
  · cases hg
theorem cc_max (hc : X.calm = true) : CallR X (.builtin "max") (rCC X.K gMax) := by
  intro pins s σ H xs us Q I r ⟨U, W, ds, d, hU, rs, hg, q⟩
  unfold gMax at hg
  split at hg
  · cases hg
    obtain ⟨v, w, rfl, r1, r2⟩ := rs.two
    cases r1.int
    cases r2.int
    exact call_max2 hc pins s σ H _ us Q I r ⟨_, _, rfl, q _ _ (.refl _) rfl⟩
  · rename_i ys
    obtain ⟨v, rfl, r1⟩ := rs.one
    obtain ⟨a, zs, rfl, sq, rr⟩ := r1.lst
    cases q1 : intsOf ys with
    | none => simp [q1] at hg
    | some is =>
      cases q2 : maxL is with
      | none => simp [q1, q2] at hg
      | some m =>
        simp [q1, q2] at hg
        subst hg
        obtain ⟨h1, h2⟩ := maxL_ok q2
        have ez := ints_reps q1 rr
        subst ez
        refine cr_max hc pins s σ H _ us Q I r ⟨a, is, rfl, sq, List.length_pos_of_mem h1, fun m' hm' hy => q _ _ (.refl _) ?_⟩
        have e1 := hy m h1
        have e2 := h2 m' hm'
        show _ = V.int m
        rw [show m' = m by omega]
  · cases hg
theorem cc_min (hc : X.calm = true) : CallR X (.builtin "min") (rCC X.K gMin) := by
  intro pins s σ H xs us Q I r ⟨U, W, ds, d, hU, rs, hg, q⟩
  unfold gMin at hg
  split at hg
  · cases hg
    obtain ⟨v, w, rfl, r1, r2⟩ := rs.two
    cases r1.int
    cases r2.int
    exact call_min2 hc pins s σ H _ us Q I r ⟨_, _, rfl, q _ _ (.refl _) rfl⟩
  · rename_i ys
    obtain ⟨v, rfl, r1⟩ := rs.one
    obtain ⟨a, zs, rfl, sq, rr⟩ := r1.lst
    cases q1 : intsOf ys with
    | none => simp [q1] at hg
    | some is =>
      cases q2 : minL is with
      | none => simp [q1, q2] at hg
      | some m =>
        simp [q1, q2] at hg
        subst hg
        obtain ⟨h1, h2⟩ := minL_ok q2
        have ez := ints_reps q1 rr
        subst ez
        refine cr_min hc pins s σ H _ us Q I r ⟨a, is, rfl, sq, List.length_pos_of_mem h1, fun m' hm' hy => q _ _ (.refl _) ?_⟩
        have e1 := hy m h1
        have e2 := h2 m' hm'
        show _ = V.int m
        rw [show m' = m by omega]
  · cases hg
theorem cc_sum (hc : X.calm = true) : CallR X (.builtin "sum") (rCC X.K gSum) := by
  intro pins s σ H xs us Q I r ⟨U, W, ds, d, hU, rs, hg, q⟩
  unfold gSum at hg
  split at hg
  · rename_i ys
    obtain ⟨v, rfl, r1⟩ := rs.one
    obtain ⟨a, zs, rfl, sq, rr⟩ := r1.lst
    cases q1 : intsOf ys with
    | none => simp [q1] at hg
    | some is =>
      simp [q1] at hg
      subst hg
      have ez := ints_reps q1 rr
      subst ez
      exact cr_sum hc pins s σ H _ us Q I r ⟨a, is, rfl, sq, q _ _ (.refl _) rfl⟩
  · cases hg
theorem cc_all (hc : X.calm = true) : CallR X (.builtin "all") (rCC X.K gAll) := by
  intro pins s σ H xs us Q I r ⟨U, W, ds, d, hU, rs, hg, q⟩
  unfold gAll at hg
  split at hg
  · rename_i ys
    obtain ⟨v, rfl, r1⟩ := rs.one
    obtain ⟨a, zs, rfl, sq, rr⟩ := r1.lst
    cases q1 : boolsOf ys with
    | none => simp [q1] at hg
    | some is =>
      simp [q1] at hg
      subst hg
      have ez := bools_reps q1 rr
      subst ez
      exact cr_all hc pins s σ H _ us Q I r ⟨a, is, rfl, sq, q _ _ (.refl _) (by show V.bl _ = V.bl _; simp)⟩
  · cases hg
theorem cc_any (hc : X.calm = true) : CallR X (.builtin "any") (rCC X.K gAny) := by
  intro pins s σ H xs us Q I r ⟨U, W, ds, d, hU, rs, hg, q⟩
  unfold gAny at hg
  split at hg
  · rename_i ys
    obtain ⟨v, rfl, r1⟩ := rs.one
    obtain ⟨a, zs, rfl, sq, rr⟩ := r1.lst
    cases q1 : boolsOf ys with
    | none => simp [q1] at hg
    | some is =>
      simp [q1] at hg
      subst hg
      have ez := bools_reps q1 rr
      subst ez
      exact cr_any hc pins s σ H _ us Q I r ⟨a, is, rfl, sq, q _ _ (.refl _) (by show V.bl _ = V.bl _; simp)⟩
  · cases hg
theorem cc_list : CallR X (.type "list") (rCC X.K gList) := by
  intro pins s σ H xs us Q I r ⟨U, W, ds, d, hU, rs, hg, q⟩
  unfold gList at hg
  split at hg
  · cases hg
    obtain ⟨v, rfl, r1⟩ := rs.one
    obtain ⟨a, ys, rfl, sq, rr⟩ := r1.lst
    exact call_list_of pins s σ H _ us Q I r ⟨a, ys, rfl, .inl sq, fun l hl => q _ _ (same_upd hl) (rep_newL hU hl rr)⟩
  · cases hg
    obtain ⟨v, rfl, r1⟩ := rs.one
    obtain ⟨a, ys, rfl, sq, rr, _⟩ := r1.tup
    exact call_list_of pins s σ H _ us Q I r ⟨a, ys, rfl, .inr sq, fun l hl => q _ _ (same_upd hl) (rep_newL hU hl rr)⟩
  · cases hg
theorem cc_tuple : CallR X (.type "tuple") (rCC X.K gTuple) := by
  intro pins s σ H xs us Q I r ⟨U, W, ds, d, hU, rs, hg, q⟩
  unfold gTuple at hg
  split at hg
  · cases hg
    obtain ⟨v, rfl, r1⟩ := rs.one
    obtain ⟨a, ys, rfl, sq, rr⟩ := r1.lst
    exact call_tuple_of pins s σ H _ us Q I r ⟨a, ys, rfl, .inl ⟨sq, fun l hl => q _ _ (same_upd hl) (rep_newT hU hl rr)⟩⟩
  · cases hg
    obtain ⟨v, rfl, r1⟩ := rs.one
    obtain ⟨a, ys, rfl, sq, rr, w⟩ := r1.tup
    exact call_tuple_of pins s σ H _ us Q I r ⟨a, ys, rfl, .inr ⟨sq, q _ _ (.refl _) w⟩⟩
  · cases hg
/-- the pairs of a value and what it stands for -/
theorem each_of {K : PySem.W.Frag} {U : Addr → Prop} {H : Hp} : ∀ {ds : List Dt} {xs : List V} {us : List Value}, Reps K U H ds xs → Vals xs us → PySem.W.EachIs (fun u (b : V × Dt) => RelV b.1 u ∧ Rep K U H b.2 b.1) us (xs.zip ds) ∧ (xs.zip ds).map Prod.snd = ds
  | [], xs, us, r, h => by
    cases (show xs = [] from r)
    cases h
    exact ⟨.nil, rfl⟩
  | d :: ds, _, us, ⟨x, t, e, r1, r2⟩, h => by
    subst e
    cases h with
    | cons h1 h2 =>
      obtain ⟨q1, q2⟩ := each_of r2 h2
      refine ⟨.cons ⟨h1, r1⟩ q1, ?_⟩
      show d :: (t.zip ds).map Prod.snd = d :: ds
      rw [q2]
theorem each_back {K : PySem.W.Frag} {U : Addr → Prop} {H : Hp} : ∀ {zs : List (V × Dt)} {us : List Value}, PySem.W.EachIs (fun u (b : V × Dt) => RelV b.1 u ∧ Rep K U H b.2 b.1) us zs → Vals (zs.map Prod.fst) us ∧ Reps K U H (zs.map Prod.snd) (zs.map Prod.fst)
  | [], us, h => by cases h; exact ⟨.nil, rfl⟩
  | z :: zs, _, h => by
    cases h with
    | cons h1 h2 =>
      obtain ⟨q1, q2⟩ := each_back h2
      exact ⟨.cons h1.1 q1, reps_cons h1.2 q2⟩
theorem cc_sorted (hr : Room k X.A) : CallR X (.builtin "sorted") (rCC X.K gSorted) := by
  intro pins s σ H xs us Q I r ⟨U, W, ds, d, hU, rs, hg, q⟩
  unfold gSorted at hg
  split at hg
  · rename_i ys
    obtain ⟨hok, rfl⟩ := ite_some hg
    obtain ⟨h1, h2, h3⟩ := sortOk_of hok
    obtain ⟨v, rfl, r1⟩ := rs.one
    obtain ⟨a, zs, rfl, sq, rr⟩ := r1.lst
    obtain ⟨its, rv, pl, hsz⟩ := I.list sq
    rw [Vals.ref1 r]
    obtain ⟨e, es⟩ := each_of rr rv
    have er : PySem.W.EachIs (fun v (b : V × Dt) => ∃ as, Reads s.heap v b.2 as) its (zs.zip ys) := e.mono fun u b h => Rep.reads I.hok I.kIn h.2 h.1
    have hl : (zs.zip ys).length = zs.length := by
      rw [List.length_zip, rr.length]; omega
    refine PySem.W.sorted_data (enc := Prod.snd) pl.isList e er (by rw [es]; exact h1) (by rw [es]; exact h2) (by rw [hl]; exact hsz) (fun b hb => ?_) fun out ho eo => ?_
    · have hb' : b.2 ∈ ys := by rw [← es]; exact List.mem_map.mpr ⟨b, hb, rfl⟩
      have := h3 _ hb'
      have := hr.un
      unfold dline at *
      omega
    · obtain ⟨v1, v2⟩ := each_back eo
      have em : ((zs.zip ys).mergeSort (PySem.W.dataLe false Prod.snd)).map Prod.snd = sortD ys := by
        have hm := List.map_mergeSort (r := PySem.W.dataLe false (Prod.snd : V × Dt → Dt)) (s := PySem.W.dataLe false id) (f := Prod.snd) (l := zs.zip ys) (fun a _ b _ => rfl)
        rw [hm, es]
        rfl
      rw [em] at v2
      obtain ⟨ep, he'⟩ := PyProof.Rows.sortedAll_at s.heap its (List.toArray out)
      have hlen : (((zs.zip ys).mergeSort (PySem.W.dataLe false Prod.snd)).map Prod.fst).length ≤ sizeLine := by
        rw [List.length_map, List.length_mergeSort, hl]
        exact hsz
      have hn := I.hok.fresh (Nat.le_succ s.heap.objs.size)
      exact ⟨.ref _, upd H (s.heap.objs.size + 1) (.lst _), I.laid (t' := s.toks) (fun _ _ => PyProof.Rows.sortedAll_old) (Nat.le_succ _) ⟨hlen, out, ep, v1, he'⟩, rfl, q _ _ (same_upd hn) (rep_newL hU hn v2)⟩
  · cases hg
end
end PD

/-! part D8 -/
set_option Elab.async false
set_option linter.all false
set_option maxRecDepth 100000
set_option maxHeartbeats 4000000
/-! tests, isinstance, subscripts, slices, some statements, keyword calls; own work -/
namespace PD
open PySem PySem.Spec PyProof.Rows L2

/-! ### tests -/
def truD : Dt → Option Bool
  | .none => some false
  | .bool b => some b
  | .int i => some (i != 0)
  | .str s => if s.length ≤ sizeLine then some ((s.length : Int) != 0) else none
  | .list xs => some (!xs.isEmpty)
  | .tuple xs => some (!xs.isEmpty)
  | .dict _ => none
def eTru (f : Ev Dt) : Ev Bool := fun ρ P => match f ρ P with
  | some (d, P1) => (match truD d with
    | some b => some (b, P1)
    | none => none)
  | none => none
theorem eTru_some {f : Ev Dt} {ρ P b P1} (h : eTru f ρ P = some (b, P1)) : ∃ d, f ρ P = some (d, P1) ∧ truD d = some b := by
  unfold eTru at h
  cases e : f ρ P with
  | none => rw [e] at h; cases h
  | some x =>
    obtain ⟨d, P2⟩ := x
    rw [e] at h
    dsimp only at h
    cases e2 : truD d with
    | none => rw [e2] at h; cases h
    | some z => rw [e2] at h; cases h; exact ⟨d, rfl, e2⟩
theorem empty_len {α β : Type} {xs : List α} {ys : List β} (h : xs.length = ys.length) : xs.isEmpty = ys.isEmpty := by
  cases xs <;> cases ys <;> simp_all
theorem truV_of {K : PySem.W.Frag} {U W : Addr → Prop} {H : Hp} {d : Dt} {v : V} {b : Bool} (r : RepV K U W H d v) (h : truD d = some b) : TruV K v H b := by
  cases d with
  | none => cases r.none; cases h; rfl
  | bool k => cases r.bool; cases h; rfl
  | int i => cases r.int; cases h; rfl
  | str s =>
    cases r.str
    obtain ⟨hz, e⟩ := ite_some (show (if s.length ≤ sizeLine then some ((s.length : Int) != 0) else none) = some b from h)
    exact ⟨hz, e.symm⟩
  | list xs =>
    obtain ⟨a, ys, rfl, sq, rr⟩ := r.lst
    cases h
    exact .inl ⟨ys, sq, by rw [empty_len rr.length]⟩
  | tuple xs =>
    obtain ⟨a, ys, rfl, sq, rr, _⟩ := r.tup
    cases h
    exact .inr (.inl ⟨ys, sq, by rw [empty_len rr.length]⟩)
  | dict _ => cases h
section
variable {X : Cx} {C : Fx} {a b c e : Expr} {es rest : List Expr} {f f1 f2 : Ev Dt} {g g1 g2 : Ev Bool} {pos p : Pos} {m : Bool}
theorem ptd_truth (hK : X.K = C.K) (ha : PE X a (tVm m C f)) (he : ∀ whole, isTrue a X.env whole = (do let v ← whole; standAt a.pos; holding [v] (truthy v)) := by intro _; rfl) : PT X a (tT C (eTru f)) :=
  pt_weak (pt_truth ha he) fun σ H Q ⟨U, ρ, P, k, P', R, q, kk⟩ => by
    obtain ⟨d, q1, q2⟩ := eTru_some q
    exact ⟨U, ρ, P, d, P', R, q1, fun v H' e R' r => ⟨k, by rw [hK]; exact truV_of r q2, kk H' e R'⟩⟩
theorem ptd_val (ha : PE X a (tDm m C f)) (he : ∀ whole, isTrue a X.env whole = (do let v ← whole; standAt a.pos; holding [v] (truthy v)) := by intro _; rfl) : PT X a (tT C (asB f)) :=
  pt_weak (pt_val ha he) fun σ H Q ⟨U, ρ, P, k, P', R, q, kk⟩ =>
    ⟨U, ρ, P, _, P', R, asB_some q, fun v H' e R' r => ⟨k, r, kk H' e R'⟩⟩
def eNot (g : Ev Bool) : Ev Bool := fun ρ P => match g ρ P with
  | some (b, P1) => some (!b, P1)
  | none => none
def eAnd (g h : Ev Bool) : Ev Bool := fun ρ P => match g ρ P with
  | some (true, P1) => h ρ P1
  | some (false, P1) => some (false, P1)
  | none => none
def eOr (g h : Ev Bool) : Ev Bool := fun ρ P => match g ρ P with
  | some (true, P1) => some (true, P1)
  | some (false, P1) => h ρ P1
  | none => none
theorem ptd_not (ha : PT X a (tT C g)) : PT X (.UnaryOp .Not a pos) (tT C (eNot g)) :=
  pt_weak (pt_not ha) fun σ H Q ⟨U, ρ, P, k, P', R, q, kk⟩ => by
    unfold eNot at q
    cases e : g ρ P with
    | none => rw [e] at q; cases q
    | some x =>
      obtain ⟨b, P1⟩ := x
      rw [e] at q
      cases q
      exact ⟨U, ρ, P, b, _, R, e, fun H' e R' => kk H' e R'⟩
theorem pwd_and1 (ha : PT X a (tT C g)) : PW X (.BoolOp .And [a] pos) (tT C g) := pw_and1 ha
theorem pwd_or1 (ha : PT X a (tT C g)) : PW X (.BoolOp .Or [a] pos) (tT C g) := pw_or1 ha
theorem pw_weak {t t' : TT} (h : PW X e t) (w : ∀ σ H Q, t' σ H Q → t σ H Q) : PW X e t' := ⟨fun wh pins s σ H Q I q => h.run wh pins s σ H Q I (w σ H Q q)⟩
theorem pwd_and (ha : PT X a (tT C g1)) (hb : PW X (.BoolOp .And (b :: rest) pos) (tT C g2)) : PW X (.BoolOp .And (a :: b :: rest) pos) (tT C (eAnd g1 g2)) :=
  pw_weak (pw_and ha hb) fun σ H Q ⟨U, ρ, P, k, P', R, q, kk⟩ => by
    unfold eAnd at q
    cases e : g1 ρ P with
    | none => rw [e] at q; cases q
    | some x =>
      obtain ⟨b, P1⟩ := x
      rw [e] at q
      refine ⟨U, ρ, P, b, P1, R, e, fun H' e' R' => ?_⟩
      cases b with
      | true => exact iteT ⟨U, ρ, P1, k, P', R', q, fun H2 e2 R2 => kk H2 (e'.trans e2) R2⟩
      | false => cases q; exact iteF (kk H' e' R')
theorem pwd_or (ha : PT X a (tT C g1)) (hb : PW X (.BoolOp .Or (b :: rest) pos) (tT C g2)) : PW X (.BoolOp .Or (a :: b :: rest) pos) (tT C (eOr g1 g2)) :=
  pw_weak (pw_or ha hb) fun σ H Q ⟨U, ρ, P, k, P', R, q, kk⟩ => by
    unfold eOr at q
    cases e : g1 ρ P with
    | none => rw [e] at q; cases q
    | some x =>
      obtain ⟨b, P1⟩ := x
      rw [e] at q
      refine ⟨U, ρ, P, b, P1, R, e, fun H' e' R' => ?_⟩
      cases b with
      | true => cases q; exact iteT (kk H' e' R')
      | false => exact iteF ⟨U, ρ, P1, k, P', R', q, fun H2 e2 R2 => kk H2 (e'.trans e2) R2⟩
/-- .. as values: the left side a bool -/
def eAndV (f1 f2 : Ev Dt) : Ev Dt := fun ρ P => match f1 ρ P with
  | some (.bool true, P1) => f2 ρ P1
  | some (.bool false, P1) => some (.bool false, P1)
  | _ => none
def eOrV (f1 f2 : Ev Dt) : Ev Dt := fun ρ P => match f1 ρ P with
  | some (.bool true, P1) => some (.bool true, P1)
  | some (.bool false, P1) => f2 ρ P1
  | _ => none
def eNotV (f : Ev Dt) : Ev Dt := fun ρ P => match f ρ P with
  | some (.bool b, P1) => some (.bool (!b), P1)
  | _ => none
theorem pd_one {op} (h : PE X a (tDm m C f)) : PE X (.BoolOp op [a] pos) (tDm m C f) := pe_one h
theorem pd_and (ha : PE X a (tDm m C f1)) (hb : PE X (.BoolOp .And (b :: rest) pos) (tDm m C f2)) : PE X (.BoolOp .And (a :: b :: rest) pos) (tDm m C (eAndV f1 f2)) :=
  pe_weak (pe_and ha hb) fun σ H Q ⟨U, ρ, P, k, P', R, q, kk⟩ => by
    unfold eAndV at q
    split at q
    · rename_i P1 e
      exact ⟨U, ρ, P, _, P1, R, e, fun v H' e' R' r => ⟨true, r, iteT ⟨U, ρ, P1, k, P', R', q, fun w H2 e2 R2 r2 => kk w H2 (e'.trans e2) R2 r2⟩⟩⟩
    · rename_i P1 e
      cases q
      exact ⟨U, ρ, P, _, _, R, e, fun v H' e' R' r => ⟨false, r, iteF (kk _ H' e' R' rfl)⟩⟩
    · cases q
theorem pd_or (ha : PE X a (tDm m C f1)) (hb : PE X (.BoolOp .Or (b :: rest) pos) (tDm m C f2)) : PE X (.BoolOp .Or (a :: b :: rest) pos) (tDm m C (eOrV f1 f2)) :=
  pe_weak (pe_or ha hb) fun σ H Q ⟨U, ρ, P, k, P', R, q, kk⟩ => by
    unfold eOrV at q
    split at q
    · rename_i P1 e
      cases q
      exact ⟨U, ρ, P, _, _, R, e, fun v H' e' R' r => ⟨true, r, iteT (kk _ H' e' R' rfl)⟩⟩
    · rename_i P1 e
      exact ⟨U, ρ, P, _, P1, R, e, fun v H' e' R' r => ⟨false, r, iteF ⟨U, ρ, P1, k, P', R', q, fun w H2 e2 R2 r2 => kk w H2 (e'.trans e2) R2 r2⟩⟩⟩
    · cases q
theorem pd_not (ha : PE X a (tDm m C f)) : PE X (.UnaryOp .Not a pos) (tDm m C (eNotV f)) :=
  pe_weak (pe_not ha) fun σ H Q ⟨U, ρ, P, k, P', R, q, kk⟩ => by
    unfold eNotV at q
    split at q
    · rename_i b P1 e
      cases q
      exact ⟨U, ρ, P, _, _, R, e, fun v H' e' R' r => ⟨b, r, kk _ H' e' R' rfl⟩⟩
    · cases q
/-- a if c else b -/
def eIf (g : Ev Bool) (f1 f2 : Ev Dt) : Ev Dt := fun ρ P => match g ρ P with
  | some (true, P1) => f1 ρ P1
  | some (false, P1) => f2 ρ P1
  | none => none
theorem pd_if (hc : PT X c (tT C g)) (ha : PE X a (tDm m C f1)) (hb : PE X b (tDm m C f2)) : PE X (.IfExp c a b pos) (tDm m C (eIf g f1 f2)) :=
  pe_weak (pe_ifExp hc ha hb) fun σ H Q ⟨U, ρ, P, k, P', R, q, kk⟩ => by
    unfold eIf at q
    cases e : g ρ P with
    | none => rw [e] at q; cases q
    | some x =>
      obtain ⟨b, P1⟩ := x
      rw [e] at q
      refine ⟨U, ρ, P, b, P1, R, e, fun H' e' R' => ?_⟩
      cases b with
      | true => exact iteT ⟨U, ρ, P1, k, P', R', q, fun v H2 e2 R2 r2 => kk v H2 (e'.trans e2) R2 r2⟩
      | false => exact iteF ⟨U, ρ, P1, k, P', R', q, fun v H2 e2 R2 r2 => kk v H2 (e'.trans e2) R2 r2⟩

/-! ### isinstance -/
def tyD : Dt → String
  | .none => "NoneType"
  | .bool _ => "bool"
  | .int _ => "int"
  | .str _ => "str"
  | .list _ => "list"
  | .tuple _ => "tuple"
  | .dict _ => "dict"
def eIsi (t : String) (f : Ev Dt) : Ev Dt := fun ρ P => match f ρ P with
  | some (d, P1) => (match kitB (tyD d) t with
    | some b => some (.bool b, P1)
    | none => none)
  | none => none
theorem ty_of {K : PySem.W.Frag} {U W : Addr → Prop} {H : Hp} {d : Dt} {v : V} (r : RepV K U W H d v) : TyX K H v (.type (tyD d)) := by
  have lst : ∀ {a : Addr} {xs : List V}, SqL K H a xs → TyX K H (.ref a) (.type "list") := fun {a xs} h => by
    rcases h with h | ⟨o, its, n, hk, hc, _⟩
    · rcases h with h | ⟨o, h⟩
      · exact .base (.lst h)
      · exact .base (.frz h)
    · exact .kList hk hc
  have tup : ∀ {a : Addr} {xs : List V}, SqT K H a xs → TyX K H (.ref a) (.type "tuple") := fun {a xs} h => by
    rcases h with h | ⟨o, its, n, hk, hc, _⟩
    · rcases h with h | ⟨o, h⟩
      · exact .base (.tup h)
      · exact .fTuple h
    · exact .kTuple hk hc
  cases d with
  | none => cases r.none; exact .base .non
  | bool k => cases r.bool; exact .base (.bl _)
  | int i => cases r.int; exact .base (.int _)
  | str s => cases r.str; exact .base (.str _)
  | list xs => obtain ⟨a, ys, rfl, sq, rr⟩ := r.lst; exact lst sq
  | tuple xs => obtain ⟨a, ys, rfl, sq, rr, _⟩ := r.tup; exact tup sq
  | dict _ => exact (show False from r).elim
theorem pd_isi {t : String} {x : Str} {p2 : Pos} (hK : X.K = C.K) (hg : Gl X "isinstance") (hm : X.mg "isinstance" = none) (ha : PE X a (tVm m C f)) (hg2 : Gl X x) (hm2 : X.mg x = none) (hv2 : bootBuiltins x = some (.type t)) (hn : x ≠ "__name__" := by decide) (hd : (x == ("__debug__" : Str)) = false := by decide)
    (he : starEach [a, .Name x p2] X.env = (false, eval a X.env) :: starEach [.Name x p2] X.env := by rfl) (he2 : starEach [.Name x p2] X.env = (false, eval (.Name x p2) X.env) :: starEach [] X.env := by rfl) (hpl : (backTo pos (starEach [.Name x p2] X.env)).any (·.1) = false := by rfl) :
    PE X (.Call (.Name "isinstance" p) [a, .Name x p2] [] pos) (tDm m C (eIsi t f)) := by
  refine pe_weak (pe_callB call_isi hg hm rfl (pa_cons ha (pa_cons (pe_bltn (v := .ty t) hg2 hm2 hv2 rfl hn hd) pa_nil he2) he) (by decide) (by decide) he hpl) fun σ H Q ⟨U, ρ, P, d, P', R, q, k⟩ => ?_
  unfold eIsi at q
  cases e : f ρ P with
  | none => rw [e] at q; cases q
  | some y =>
    obtain ⟨d0, P1⟩ := y
    rw [e] at q
    dsimp only at q
    cases e2 : kitB (tyD d0) t with
    | none => rw [e2] at q; cases q
    | some b =>
      rw [e2] at q
      cases q
      exact ⟨U, ρ, P, d0, _, R, e, fun v H' e' R' r => ⟨v, .ty t, _, _, b, rfl, .ty t, by rw [hK]; exact ty_of r, kit_ty e2, k _ H' e' R' rfl⟩⟩

/-! ### subscripts -/
def gIx : Dt → Dt → Option Dt
  | .list xs, .int i => atI xs i
  | .tuple xs, .int i => atI xs i
  | .str z, .int i => if z.length ≤ sizeLine then (atI z.cps.toList i).map fun c => .str ⟨#[c]⟩ else none
  | _, _ => none
theorem atI_rep {K : PySem.W.Frag} {U : Addr → Prop} {H : Hp} {ds : List Dt} {xs : List V} {i : Int} {d : Dt} (r : Reps K U H ds xs) (h : atI ds i = some d) : ∃ v, atI xs i = some v ∧ Rep K U H d v := by
  unfold atI at h ⊢
  rw [r.length]
  cases e : ixN ds.length i with
  | none => rw [e] at h; cases h
  | some j => rw [e] at h; exact r.at h
theorem dd_ix : IxR X (rDD X.K gIx) := by
  intro value slice pins s σ H x y v u Q I rx ry ⟨U, W, a, b, d, hU, ra, rb, hg, q⟩ hs
  cases b with
  | int i =>
    cases rb.int
    cases a with
    | list xs =>
      obtain ⟨l, ys, rfl, sq, rr⟩ := ra.lst
      obtain ⟨w, hw, rw'⟩ := atI_rep rr (show atI xs i = some d from hg)
      exact ix_list value slice pins s σ H _ _ v u Q I rx ry ⟨l, ys, i, w, rfl, rfl, sq, hw, q _ _ (.refl _) rw'⟩ hs
    | tuple xs =>
      obtain ⟨l, ys, rfl, sq, rr, _⟩ := ra.tup
      obtain ⟨w, hw, rw'⟩ := atI_rep rr (show atI xs i = some d from hg)
      exact ix_tup value slice pins s σ H _ _ v u Q I rx ry ⟨l, ys, i, w, rfl, rfl, sq, hw, q _ _ (.refl _) rw'⟩ hs
    | str z =>
      cases ra.str
      have hg' : (if z.length ≤ sizeLine then (atI z.cps.toList i).map fun c => PyData.str ⟨#[c]⟩ else none) = some d := hg
      split at hg'
      · rename_i hz
        cases e : atI z.cps.toList i with
        | none => rw [e] at hg'; cases hg'
        | some c =>
          rw [e] at hg'
          cases hg'
          exact ix_str value slice pins s σ H _ _ v u Q I rx ry ⟨z, i, c, rfl, rfl, hz, e, q _ _ (.refl _) rfl⟩ hs
      · cases hg'
    | _ => cases hg
  | _ => cases a <;> cases hg
theorem pd_ix (hK : X.K = C.K) (ha : PE X a (tVm m C f1)) (hb : PE X b (tVm m C f2)) (hs : PlainIx b := by intro _ _; rfl) : PE X (.Subscript a b pos) (tDm m C (eOp gIx f1 f2)) := by
  refine pe_weak (pe_ix dd_ix ha hb hs) fun σ H Q h => ?_
  rw [hK]
  exact dd_go (ta := tVm m C f1) h

/-! ### slices -/
def cutD (xs : List Dt) (lo hi : Option Int) : List Dt := (xs.drop (HT.sIx xs.length 0 lo)).take (HT.sIx xs.length xs.length hi - HT.sIx xs.length 0 lo)
def gSl (lo hi : Option Int) : Dt → Option Dt
  | .list xs => some (.list (cutD xs lo hi))
  | .tuple xs => some (.tuple (cutD xs lo hi))
  | .str z => if z.length ≤ sizeLine then some (.str (cutS z lo hi)) else none
  | _ => none
def rSlD (K : PySem.W.Frag) : V → Option Int → Option Int → Hp → VK → Prop := fun x lo hi H Q => ∃ (U W : Addr → Prop) (a d : Dt), (∀ b, U b → Live H b) ∧ RepV K U W H a x ∧ gSl lo hi a = some d ∧ ∀ v H', Same H H' → Rep K U H' d v → Q v H'
theorem cut_reps {K : PySem.W.Frag} {U : Addr → Prop} {H : Hp} {ds : List Dt} {xs : List V} (r : Reps K U H ds xs) (lo hi : Option Int) : Reps K U H (cutD ds lo hi) (cutV xs lo hi) := by
  unfold cutD cutV
  rw [r.length]
  exact (r.drop _).take _
theorem dd_sl : SlR X (rSlD X.K) := by
  intro pins s σ H x v vl vu lo hi sl Q I rx hs pl pu ⟨U, W, a, d, hU, ra, hg, q⟩
  cases a with
  | list xs =>
    cases hg
    obtain ⟨l, ys, rfl, sq, rr⟩ := ra.lst
    exact sl_list pins s σ H _ v vl vu lo hi sl Q I rx hs pl pu ⟨l, ys, rfl, sq, fun p hp => q _ _ (same_upd hp) (rep_newL hU hp (cut_reps rr lo hi))⟩
  | tuple xs =>
    cases hg
    obtain ⟨l, ys, rfl, sq, rr, w⟩ := ra.tup
    refine sl_tupA pins s σ H _ v vl vu lo hi sl Q I rx hs pl pu ⟨l, ys, rfl, sq, fun hw => ?_, fun _ p hp => q _ _ (same_upd hp) (rep_newT hU hp (cut_reps rr lo hi))⟩
    rw [rr.length] at hw
    have e : cutD xs lo hi = xs := by
      unfold cutD
      rw [hw.1, hw.2]
      simp
    rw [e] at q
    exact q _ _ (.refl _) w
  | str z =>
    obtain ⟨hz, rfl⟩ := ite_some (show (if z.length ≤ sizeLine then some (PyData.str (cutS z lo hi)) else none) = some d from hg)
    exact sl_str pins s σ H _ v vl vu lo hi sl Q I rx hs pl pu ⟨z, ra, hz, q _ _ (.refl _) rfl⟩
  | _ => cases hg
abbrev Eo := Ev (Option Int)
def tOD (C : Fx) (f : Eo) : TO := fun σ H Q => ∃ U ρ P o P', Rel C U σ ρ P H ∧ f ρ P = some (o, P') ∧ ∀ H', Ext C.W H H' → Rel C U σ ρ P' H' → Q o H'
def oNo : Eo := fun _ P => some (none, P)
def oAt (f : Ev Dt) : Eo := fun ρ P => match f ρ P with
  | some (.int i, P1) => some (some i, P1)
  | _ => none
theorem po_weak {oe : Option Expr} {t t' : TO} (h : PO X oe t) (w : ∀ σ H Q, t' σ H Q → t σ H Q) : PO X oe t' := ⟨fun pins s σ H Q I q => h.run pins s σ H Q I (w σ H Q q)⟩
theorem pod_no : PO X none (tOD C oNo) := po_weak po_none fun σ H Q ⟨U, ρ, P, o, P', R, q, k⟩ => by
  cases q
  exact k H .refl R
theorem pod_at (h : PE X e (tVm m C f)) : PO X (some e) (tOD C (oAt f)) := po_weak (po_some h) fun σ H Q ⟨U, ρ, P, o, P', R, q, k⟩ => by
  unfold oAt at q
  split at q
  · rename_i i P1 e1
    cases q
    exact ⟨U, ρ, P, _, _, R, e1, fun v H' e' R' r => ⟨i, r, k H' e' R'⟩⟩
  · cases q
def eSl (f : Ev Dt) (lo hi : Eo) : Ev Dt := fun ρ P => match f ρ P with
  | none => none
  | some (a, P1) => match lo ρ P1 with
    | none => none
    | some (l, P2) => match hi ρ P2 with
      | none => none
      | some (h, P3) => match gSl l h a with
        | some d => some (d, P3)
        | none => none
theorem pd_sl {lo hi : Option Expr} {l h : Eo} {p2 : Pos} (hK : X.K = C.K) (ha : PE X a (tVm m C f)) (hl : PO X lo (tOD C l)) (hh : PO X hi (tOD C h)) : PE X (.Subscript a (.Slice lo hi none p2) pos) (tDm m C (eSl f l h)) :=
  pe_weak (pe_slice dd_sl ha hl hh) fun σ H Q ⟨U, ρ, P, d, P', R, q, k⟩ => by
    unfold eSl at q
    cases e1 : f ρ P with
    | none => rw [e1] at q; cases q
    | some x =>
      obtain ⟨a, P1⟩ := x
      rw [e1] at q
      dsimp only at q
      cases e2 : l ρ P1 with
      | none => rw [e2] at q; cases q
      | some y =>
        obtain ⟨l', P2⟩ := y
        rw [e2] at q
        dsimp only at q
        cases e3 : h ρ P2 with
        | none => rw [e3] at q; cases q
        | some z =>
          obtain ⟨h', P3⟩ := z
          rw [e3] at q
          dsimp only at q
          cases e4 : gSl l' h' a with
          | none => rw [e4] at q; cases q
          | some d' =>
            rw [e4] at q
            cases q
            refine ⟨U, ρ, P, a, P1, R, e1, fun v H1 x1 R1 r1 => ⟨U, ρ, P1, l', P2, R1, e2, fun H2 x2 R2 => ⟨U, ρ, P2, h', _, R2, e3, fun H3 x3 R3 => ?_⟩⟩⟩
            rw [hK]
            exact ⟨Um m C U, C.W, a, _, R3.dm, (r1.keep x2 R1.wm).keep x3 R2.wm, e4, fun w H4 sm r => k w H4 (x1.trans (x2.trans (x3.trans (.of sm)))) (R3.same sm) r⟩

/-! ### join -/
def eJoin (f1 f2 : Ev Dt) : Ev Dt := fun ρ P => match f1 ρ P with
  | some (.str a, P1) => (match f2 ρ P1 with
    | some (.list ds, P2) => (match strsOf ds with
      | some ys => if (ys.map (·.length)).sum + ys.length * a.length ≤ 16777216 then some (.str (Txt.join a ys), P2) else none
      | none => none)
    | _ => none)
  | _ => none
theorem pd_join {o : Expr} {apos : Pos} (hK : X.K = C.K) (ho : PE X o (tVm m C f1)) (he : PE X e (tVm m C f2)) (hs : starEach [e] X.env = [(false, eval e X.env)] := by rfl) (hbase : attributeBase o "join" X.env (eval o X.env) = eval o X.env := by rfl) (hline : (apos.endLine == pos.line) = true := by rfl) :
    PE X (.Call (.Attribute o "join" apos) [e] [] pos) (tDm m C (eJoin f1 f2)) :=
  pe_weak (pe_join ho he hs hbase hline) fun σ H Q ⟨U, ρ, P, d, P', R, q, k⟩ => by
    unfold eJoin at q
    split at q
    · rename_i a P1 e1
      split at q
      · rename_i ds P2 e2
        split at q
        · rename_i ys e3
          obtain ⟨hz, e4⟩ := ite_some q
          cases e4
          refine ⟨U, ρ, P, _, P1, R, e1, fun v H1 x1 R1 r1 => ⟨⟨a, r1⟩, U, ρ, P1, _, _, R1, e2, fun w H2 x2 R2 r2 => ?_⟩⟩
          obtain ⟨p, zs, rfl, sq, rr⟩ := r2.lst
          have ez := strs_reps e3 rr
          subst ez
          exact ⟨a, p, ys, r1, rfl, .inl (by rw [hK]; exact sq), hz, k _ H2 (x1.trans x2) R2 rfl⟩
        · cases q
      · cases q
    · cases q

/-! ### name.append(e); a, b = x, y -/
theorem tD_mono {f : Ev Dt} {σ : L2.St} {H : Hp} {Q Q' : VK} (h : tDm m C f σ H Q) (w : ∀ v H', Q v H' → Q' v H') : tDm m C f σ H Q' := let ⟨U, ρ, P, d, P', R, q, k⟩ := h; ⟨U, ρ, P, d, P', R, q, fun v H' e R' r => w v H' (k v H' e R' r)⟩
theorem psd_append {i : Nat} {o : Expr} {apos cpos : Pos} (hK : X.K = C.K) (ho : PE X o (tVar i)) (he : PE X e (tD C f)) (hbase : attributeBase o "append" X.env (eval o X.env) = eval o X.env := by rfl)
    (hfew : ((backTo cpos (starEach [e] X.env)).all (fun x => !x.1) && (backToKw cpos (keywordEach [] X.env)).all (fun x => x.1.isSome)
      && decide ([e].length + ([] : List Keyword).length + (if ([] : List Keyword).isEmpty then 0 else 1) < 30)) = true := by rfl)
    (hline : (apos.endLine == cpos.line) = true := by rfl) (hs : starEach [e] X.env = (false, eval e X.env) :: starEach [] X.env := by rfl)
    (hsw : swapsWith (.Call (.Attribute o "append" apos) [e] [] cpos) none pos.line X.env = pure false := by rfl) :
    PS X (.Expr (.Call (.Attribute o "append" apos) [e] [] cpos) pos) (tS C (sApp i f)) :=
  psd_app hK (ps_weak (ps_expr (pe_bm PySem.F.plainAttrs_list PySem.F.slot_list_append PySem.F.type_list_append mt_append ho (pa_cons he pa_nil hs) hbase hfew hline hs rfl) hsw) fun D σ H ⟨l, hl, ⟨xs, sq⟩, h⟩ =>
    ⟨.ref l, hl, .inl ⟨rfl, xs, sq⟩, tD_mono h fun y H1 ⟨ys, h1, h2, h3⟩ => ⟨l, ys, y, rfl, rfl, h1, h2, h3⟩⟩)
/-- a, b = x, y with plain names -/
def sPar (i j : Nat) (g : Ev (List Dt)) : Sv := fun ρ P => match g ρ P with
  | some ([d1, d2], P1) => some (.nx, (ρ.set i (.sh d1)).set j (.sh d2), P1)
  | _ => none
theorem psd_par {i j : Nat} {g : Ev (List Dt)} {st : Stmt} (h : PS X st (tPar i j (tDs C g))) : PS X st (tS C (sPar i j g)) := ps_weak h fun D σ H ⟨U, ρ, P, fl, ρ', P', R, q, k⟩ => by
  unfold sPar at q
  split at q
  · rename_i d1 d2 P1 e1
    cases q
    refine ⟨U, ρ, P, _, _, R, e1, fun vs H1 x1 R1 r1 => ?_⟩
    obtain ⟨v, r, e, h1, w, r', e', h2, h3⟩ := r1
    cases (show r' = [] from h3)
    subst e'
    exact ⟨v, w, e, k U _ H1 (.of x1 R.w) ((R1.set i h1).set j h2)⟩
  · cases q
/-- .. the second one a new list of one's own -/
def sParO (i j : Nat) (f : Ev Dt) (g : Ev (List Dt)) : Sv := fun ρ P => match f ρ P with
  | some (d, P1) => (match g ρ P1 with
    | some (ds, P2) => if ds.length ≤ sizeLine then some (.nx, (ρ.set i (.sh d)).set j (.ow ds), P2) else none
    | none => none)
  | none => none
theorem psd_parO {i j : Nat} {g : Ev (List Dt)} {st : Stmt} (h : PS X st (tPar i j (tCons (tD C f) (tCons (tLst (tDs C g)) tNil)))) : PS X st (tS C (sParO i j f g)) := ps_weak h fun D σ H ⟨U, ρ, P, fl, ρ', P', R, q, k⟩ => by
  unfold sParO at q
  cases e1 : f ρ P with
  | none => rw [e1] at q; cases q
  | some x =>
    obtain ⟨d, P1⟩ := x
    rw [e1] at q
    dsimp only at q
    cases e2 : g ρ P1 with
    | none => rw [e2] at q; cases q
    | some y =>
      obtain ⟨ds, P2⟩ := y
      rw [e2] at q
      obtain ⟨hl, e3⟩ := ite_some q
      cases e3
      refine ⟨U, ρ, P, d, P1, R, e1, fun v H1 x1 R1 r1 => ⟨U, ρ, P1, ds, _, R1, e2, fun vs H2 x2 R2 r2 => ⟨by rw [r2.length]; exact hl, fun p hp => ⟨v, .ref p, rfl, ?_⟩⟩⟩⟩
      obtain ⟨nW, n0⟩ := newD R2 hp
      have R3 : Rel C (And1 U p) σ ρ P' (upd H2 p (.lst vs)) := R2.grow hp
      have rv : Rep C.K (And1 U p) (upd H2 p (.lst vs)) d v := (r1.keep x2 R1.w).grow hp
      have R4 := R3.set i rv
      refine k (And1 U p) _ _ ((Left.of (x1.trans x2) R.w).trans ⟨.of (same_upd hp), fun b z => z.elim .inl fun q => .inr (by rw [q]; exact hp), R2.w⟩) ?_
      refine R4.setOw j upd_same (.inr rfl) n0 (r2.grow hp) fun m es _ hm => ?_
      by_cases hmi : i = m
      · subst hmi
        by_cases hl : i < ρ.length
        · rw [List.getElem?_set_self hl] at hm; cases hm
        · rw [List.getElem?_eq_none (by simpa using hl)] at hm; cases hm
      · rw [List.getElem?_set_ne hmi] at hm ⊢
        exact no_ow' R2 hp m es hm
def sPar3 (i j l : Nat) (g : Ev (List Dt)) : Sv := fun ρ P => match g ρ P with
  | some ([d1, d2, d3], P1) => some (.nx, ((ρ.set i (.sh d1)).set j (.sh d2)).set l (.sh d3), P1)
  | _ => none
theorem psd_par3 {i j l : Nat} {g : Ev (List Dt)} {st : Stmt} (h : PS X st (tPar3 i j l (tDs C g))) : PS X st (tS C (sPar3 i j l g)) := ps_weak h fun D σ H ⟨U, ρ, P, fl, ρ', P', R, q, k⟩ => by
  unfold sPar3 at q
  split at q
  · rename_i d1 d2 d3 P1 e1
    cases q
    refine ⟨U, ρ, P, _, _, R, e1, fun vs H1 x1 R1 r1 => ?_⟩
    obtain ⟨v, r, e, h1, w, r', e', h2, z, r'', e'', h3, h4⟩ := r1
    cases (show r'' = [] from h4)
    subst e'' e'
    exact ⟨v, w, z, e, k U _ H1 (.of x1 R.w) (((R1.set i h1).set j h2).set l h3)⟩
  · cases q
end

/-! ### a def called by names alone -/
section
variable {K : PySem.W.Frag} {x qual : Str} {params : Arguments} {body : List Stmt} {scope : Scope} {kws : List (Str × V)} {f : Addr} {fd : FuncData} {ps : List Str}
theorem kbindsN (F : FunD K x qual params body scope [] kws f fd) (n : Nat) (ks : List Str) (g : {α : Type} → List α → List α → List α)
    (hrel : ∀ {vs zs : List V} {us ws : List Value}, Vals vs us → Vals zs ws → Vals (g vs zs) (g us ws))
    (h : ∀ (kV doc pm : Value) (an : Option Addr) (cdv ct : Value) (us ws : List Value), us.length = n → ws.length = ks.length → bindArgs (PySem.W.fnOf x qual params body scope .none kV doc pm an cdv ct) ⟨us, ks.zip ws⟩ = pure (ps.zip (g us ws))) :
    KBn K fd ps n ks (fun us ws => g us ws) (fun vs zs => g vs zs) := by
  obtain ⟨oc, od, dV, kV, doc, pm, an, cdv, ct, osl, rfl, lk, hcd, hD, hK⟩ := F.ex
  rcases hD with ⟨_, rfl⟩ | ⟨e, _⟩
  · exact ⟨fun s us ws _ l1 l2 => .of_eq (h kV doc pm an cdv ct us ws l1 l2), fun r1 r2 => hrel r1 r2⟩
  · exact absurd rfl e
end
section
variable {X : Cx} {CX : CXT} {k n : Nat} {f : Addr} {fd : FuncData} {ps ks : List Str} {sp : Sp} {E : XK} {x : Str} {p pos : Pos} {kws : List Keyword} {tk : TA} {g : List Value → List Value → List Value} {gV : List V → List V → List V}
/-- f(k = v, ..) -/
theorem pe_callK0 (F : FnOk X.prog X.w X.K X.mg X.base CX k f fd ps sp) (hr : Room k X.A) (hg : Gl X x) (hm : X.mg x = some (.ref f)) (hk : PySem.W.keepIn X.K (.ref f) = true) (hb : KBn X.K fd ps 0 ks g gV) (hx : Passes CX X E) (hkw : PK X kws tk)
    (hall : (backToKw pos (keywordEach kws X.env)).all (·.1.isSome) = true := by rfl) (hks : (backToKw pos (keywordEach kws X.env)).filterMap (·.1) = ks := by rfl) (hdb : (x == ("__debug__" : Str)) = false := by decide)
    (hpl : ((backTo pos (starEach [] X.env)).any (·.1) || (backToKw pos (keywordEach kws X.env)).any (·.1.isNone)) = false := by rfl) :
    PE X (.Call (.Name x p) [] kws pos) (tCallN 0 ks.length sp gV E tNil tk) := by
  refine ⟨fun pins s σ H Q I h => ?_⟩
  refine wpAny_Call_Name_kw (ld_glob I hg hm ?_ hdb)
  refine PySem.W.callWith_KW0 (h₀ := X.base) I.ok.mod.kin hk hall ?_ hpl
  refine thn (hkw.run pos pins s σ H _ I h) fun ws s2 ⟨zs, H2, I2, rz, l1, l2, q2⟩ => ⟨I2.kIn, ?_⟩
  rw [hks]
  exact run_fnN (us := []) (vs := []) F hr hb hx I2 .nil rz rfl l2 q2
end
section
variable {X : Cx} {C : Fx} {e : Expr} {es : List Expr}
/-- keywords' values, as data -/
theorem pk_weak {kws : List Keyword} {t t' : TA} (h : PK X kws t) (w : ∀ σ H Q, t' σ H Q → t σ H Q) : PK X kws t' := ⟨fun pos pins s σ H Q I q => h.run pos pins s σ H Q I (w σ H Q q)⟩
theorem pkd_nil : PK X [] (tDs C eNil) := pk_weak pk_nil fun σ H Q ⟨U, ρ, P, d, P', R, q, k⟩ => by
  cases q
  exact k [] H .refl R reps_nil
theorem pkd_cons {f : Ev Dt} {g : Ev (List Dt)} {nm : Option Str} {kpos : Pos} {kws : List Keyword} (h1 : PE X e (tD C f)) (h2 : PK X kws (tDs C g)) : PK X (⟨nm, e, kpos⟩ :: kws) (tDs C (eCons f g)) :=
  pk_weak (pk_cons h1 h2) fun σ H Q ⟨U, ρ, P, ds, P', R, q, k⟩ => by
    obtain ⟨d, r, P1, q1, q2, rfl⟩ := eCons_some q
    exact ⟨U, ρ, P, d, P1, R, q1, fun v H1 e1 R1 r1 => ⟨U, ρ, P1, r, P', R1, q2, fun vs H2 e2 R2 r2 => k _ H2 (e1.trans e2) R2 (reps_cons (r1.keep e2 R1.w) r2)⟩⟩
/-- the data of the keywords' values, put in the parameters' order -/
def eCallK (n : Nat) (sem : List Dt → Option Dt) (perm : List Dt → List Dt) (g : Ev (List Dt)) : Ev Dt := fun ρ P => match g ρ P with
  | some (ds, P1) => if (perm ds).length = n then (match sem (perm ds) with
    | some d => some (d, P1)
    | none => none) else none
  | none => none
theorem pd_callK0 {n m : Nat} {sem : List Dt → Option Dt} {g : Ev (List Dt)} {E : XK} {perm : {α : Type} → List α → List α → List α} (hm : ∀ ds ρ P P1, g ρ P = some (ds, P1) → ds.length = m)
    (hp : ∀ {K : PySem.W.Frag} {U : Addr → Prop} {H : Hp} {ds : List Dt} {vs : List V}, Reps K U H ds vs → Reps K U H (perm [] ds) (perm [] vs))
    (h : PE X e (tCallN 0 m (spD C.K C.T n sem) (fun vs zs => perm vs zs) E tNil (tDs C g))) : PE X e (tD C (eCallK n sem (fun ds => perm [] ds) g)) := pe_weak h fun σ H Q ⟨U, ρ, P, d, P', R, q, k⟩ => by
  unfold eCallK at q
  cases e1 : g ρ P with
  | none => rw [e1] at q; cases q
  | some x =>
    obtain ⟨ds, P1⟩ := x
    rw [e1] at q
    dsimp only at q
    split at q
    · rename_i hn
      cases e2 : sem (perm [] ds) with
      | none => rw [e2] at q; cases q
      | some d' =>
        rw [e2] at q
        cases q
        refine ⟨U, ρ, P, ds, _, R, e1, fun vs H1 x1 R1 r1 => ⟨rfl, by rw [r1.length]; exact hm _ _ _ _ e1, ?_⟩⟩
        exact ⟨U, perm [] ds, _, R1.dom, R1.tabs, hp r1, hn, e2, fun v H2 x2 t2 r2 => k v H2 (x1.trans (ext_false x2)) (R1.step (ext_false x2) t2 fun p hp => x2.keep _ _ (R1.pot p hp) (fun z => z) fun _ z => by cases z) r2⟩
    · cases q
end

/-! ### bodies whose arguments are only looked at -/
def enOfV (n : Nat) (ds : List Dt) : En := ds.map .vw ++ List.replicate (n - ds.length) .un
def enOfPV (n : Nat) (ds : List Dt) : En := .pt :: (ds.map .vw ++ List.replicate (n - (ds.length + 1)) .un)
def semDV (n : Nat) (g : Sv) (ds : List Dt) : Option Dt := resD (g (enOfV n ds) (0, 0))
def semPV (n : Nat) (g : Sv) (P : Pt) (ds : List Dt) : Option (Dt × Pt) := resP (g (enOfPV n ds) P)
theorem RepVs.at {K : PySem.W.Frag} {U W : Addr → Prop} {H : Hp} : ∀ {ds : List Dt} {xs : List V} {i : Nat} {d : Dt}, RepVs K U W H ds xs → ds[i]? = some d → ∃ x, xs[i]? = some x ∧ RepV K U W H d x
  | [], _, _, _, _, e => by simp at e
  | d :: ds, _, 0, _, ⟨x, r, e, h1, h2⟩, q => by
    subst e
    cases (show some d = some _ from q)
    exact ⟨x, rfl, h1⟩
  | d :: ds, _, i + 1, _, ⟨x, r, e, h1, h2⟩, q => by
    subst e
    obtain ⟨y, hy, ry⟩ := RepVs.at h2 (i := i) (by simpa using q)
    exact ⟨y, by simpa using hy, ry⟩
theorem slots_vw {C : Fx} {U W : Addr → Prop} {ds : List Dt} {vs : List V} (hW : ∀ b, C.W b → W b) (r : RepVs C.K U W C.H0 ds vs) (n m : Nat) (i : Nat) : SlotR C U C.H0 (ds.map DV.vw ++ List.replicate n .un)[i]? (vs.map some ++ List.replicate m none)[i]? := by
  have hl := r.length
  by_cases hi : i < ds.length
  · rw [List.getElem?_append_left (by simpa using hi), List.getElem?_append_left (by simpa [hl] using hi), List.getElem?_map, List.getElem?_map]
    obtain ⟨d, hd⟩ : ∃ d, ds[i]? = some d := ⟨ds[i], by simp [hi]⟩
    obtain ⟨v, hv, rv⟩ := r.at hd
    rw [hd, hv]
    exact ⟨v, rfl, RepH.of hW rv⟩
  · rw [List.getElem?_append_right (by simpa using hi), List.getElem?_replicate]
    split <;> trivial
theorem no_ow_vw {ds es : List Dt} {n i : Nat} (h1 : (ds.map DV.vw ++ List.replicate n .un)[i]? = some (.ow es)) : False := by
  by_cases hi : i < ds.length
  · rw [List.getElem?_append_left (by simpa using hi), List.getElem?_map] at h1
    cases q : ds[i]? <;> rw [q] at h1 <;> cases h1
  · rw [List.getElem?_append_right (by simpa using hi), List.getElem?_replicate] at h1
    split at h1 <;> cases h1
theorem rel_startV {K : PySem.W.Frag} {T : List TbT} {U : Addr → Prop} {H : Hp} {ds : List Dt} {vs : List V} {N : List Str} (hl : ∀ b, U b → Live H b) (ht : Tabs T H) (r : RepVs K U (fun _ => False) H ds vs) (hn : ds.length ≤ N.length) :
    Rel ⟨K, T, U, none, H⟩ U (L2.start N vs) (enOfV N.length ds) (0, 0) H := by
  have hlen := r.length
  refine ⟨fun _ h => h, hl, fun p h => (by cases h), hl, .refl, ht, fun p h => (by cases h), by simp [L2.start, enOfV, hlen], fun i => ?_, fun i j es fs h1 h2 h3 => (no_ow_vw h1).elim⟩
  exact slots_vw (C := ⟨K, T, U, none, H⟩) (W := fun _ => False) (fun b z => by cases z) r _ _ i
theorem rel_startPV {K : PySem.W.Frag} {T : List TbT} {U : Addr → Prop} {H : Hp} {ds : List Dt} {vs : List V} {N : List Str} {p : Addr} {P : Pt} (hl : ∀ b, U b → Live H b) (ht : Tabs T H) (hp : U p) (hh : H p = some (.lst [.int P.1, .int P.2])) (r : RepVs K U (fun b => b = p) H ds vs) (hn : ds.length + 1 ≤ N.length) :
    Rel ⟨K, T, U, some p, H⟩ U (L2.start N (.ref p :: vs)) (enOfPV N.length ds) P H := by
  have hlen := r.length
  refine ⟨fun _ h => h, hl, fun q h => (by cases h; exact hp), hl, .refl, ht, fun q h => (by cases h; exact hh), by simp [L2.start, enOfPV, hlen], fun i => ?_, fun i j es fs h1 h2 h3 => ?_⟩
  · cases i with
    | zero => exact ⟨p, rfl, rfl⟩
    | succ i =>
      show SlotR _ U H (ds.map DV.vw ++ List.replicate _ .un)[i]? (vs.map some ++ List.replicate _ none)[i]?
      exact slots_vw (C := ⟨K, T, U, some p, H⟩) (W := fun b => b = p) (fun b z => by cases z; rfl) r _ _ i
  · cases i with
    | zero => cases h1
    | succ i => exact (no_ow_vw (show (ds.map DV.vw ++ List.replicate _ .un)[i]? = some (.ow es) from h1)).elim
section
variable {K : PySem.W.Frag}
theorem read_bodyV {T : List TbT} {N : List Str} {n : Nat} {g : Sv} {vs : List V} {H : Hp} {Q : VK} {E : XK} (hn : n ≤ N.length) (h : spDv K T n (semDV N.length g) vs H Q E) : ∃ U0, tS ⟨K, T, U0, none, H⟩ g { nx := fun _ H' => Q .non H', rt := Q } (L2.start N vs) H := by
  obtain ⟨U, ds, d, hl, ht, r, hd, q, k⟩ := h
  have R := rel_startV (N := N) hl ht r (by omega)
  unfold semDV at q
  cases e : g (enOfV N.length ds) (0, 0) with
  | none => rw [e] at q; cases q
  | some x =>
    obtain ⟨fl, ρ', P'⟩ := x
    rw [e] at q
    have toE : ∀ {U' : Addr → Prop} {σ' : L2.St} {H' : Hp}, Rel ⟨K, T, U, none, H⟩ U' σ' ρ' P' H' → Ext (fun _ => False) H H' := fun R' => R'.since.mono fun b z => by cases z
    cases fl with
    | rt d' =>
      cases q
      exact ⟨U, U, _, _, _, _, _, R, e, fun U' σ' v H' l R' r' => k v H' (toE R') R'.tabs (r'.shrink R'.u0)⟩
    | nx =>
      cases q
      exact ⟨U, U, _, _, _, _, _, R, e, fun U' σ' H' l R' => k .non H' (toE R') R'.tabs rfl⟩
    | bk => cases q
    | ct => cases q
theorem read_bodyPV {T : List TbT} {N : List Str} {n : Nat} {g : Sv} {vs : List V} {H : Hp} {Q : VK} {E : XK} (hn : n + 1 ≤ N.length) (h : spPv K T n (semPV N.length g) vs H Q E) : ∃ U0 p, tS ⟨K, T, U0, some p, H⟩ g { nx := fun _ H' => Q .non H', rt := Q } (L2.start N vs) H := by
  obtain ⟨U, p, ws, P, P', ds, d, rfl, hl, ht, hp, hh, r, hd, q, k⟩ := h
  have R := rel_startPV (N := N) hl ht hp hh r (by omega)
  unfold semPV at q
  cases e : g (enOfPV N.length ds) P with
  | none => rw [e] at q; cases q
  | some x =>
    obtain ⟨fl, ρ', P'⟩ := x
    rw [e] at q
    have toE : ∀ {U' : Addr → Prop} {σ' : L2.St} {H' : Hp}, Rel ⟨K, T, U, some p, H⟩ U' σ' ρ' P' H' → Ext (fun b => b = p) H H' := fun R' => R'.since.mono fun b z => by cases z; rfl
    cases fl with
    | rt d' =>
      cases q
      exact ⟨U, p, U, _, _, _, _, _, R, e, fun U' σ' v H' l R' r' => k v H' (toE R') R'.tabs (R'.pot p rfl) (r'.shrink R'.u0)⟩
    | nx =>
      cases q
      exact ⟨U, p, U, _, _, _, _, _, R, e, fun U' σ' H' l R' => k .non H' (toE R') R'.tabs (R'.pot p rfl) rfl⟩
    | bk => cases q
    | ct => cases q
end
end PD

/-! part S1 -/
set_option Elab.async false
set_option linter.all false
set_option maxRecDepth 100000
set_option maxHeartbeats 4000000
/-! sets of texts: built by a comprehension of two clauses, sorted; own work, after the library's sets of truth values -/
namespace PD
open PySem PySem.Spec PyProof.Rows L2

def keyS (e : Int × Value) : Str := match e.2 with | .str x _ => x | _ => Str.empty
def GoodS (w : World) (e : Int × Value) : Prop := ∃ x t, e.2 = Value.str x t ∧ e.1 = hashStr w x
/-- the set of texts at a: L its members, in any sequence -/
def SetS (w : World) (h : Heap) (a : Addr) (L : List Str) : Prop :=
  ∃ o es ep t, h.get? a = some o ∧ o.ExactSet ∧ o.data = .set es ep t ∧ (∀ e ∈ es.toList, GoodS w e) ∧ (es.toList.map keyS).Perm L ∧ L.Nodup ∧
    es.size < scanBound ∧ t.fits es.size = true ∧ Ris t.place.toList ∧ (w.params.followText "set-order" = true ∨ t.led = true)

section
variable {P : Program} {w : World} {h h' : Heap} {a : Addr} {L : List Str}
theorem SetS.at (R : SetS w h a L) (k : ∀ o, h.get? a = some o → h'.get? a = some o) : SetS w h' a L := by
  obtain ⟨o, es, ep, t, ho, r⟩ := R
  exact ⟨o, es, ep, t, k o ho, r⟩
theorem isS_refl (x : Str) (t : Tok) : Value.isStrOf x (.str x t) = true := by simp [Value.isStrOf]
theorem goodS_elems {l : List (Int × Value)} (g : ∀ e ∈ l, GoodS w e) : ElemsOf (PySem.strKind P w) l := fun e he => by
  obtain ⟨k, t, h1, h2⟩ := g e he
  exact ⟨⟨k, by rw [h1]; exact isS_refl k t, h2⟩, by rw [h1] <;> rfl⟩
theorem goodS_is {e : Int × Value} (g : GoodS w e) (k : Str) : (PySem.strKind P w).is k e.2 = true ↔ keyS e = k := by
  obtain ⟨k0, t, h1, _⟩ := g
  unfold keyS
  rw [h1]
  show (Value.isStrOf k (.str k0 t) = true) ↔ k0 = k
  constructor
  · intro q
    obtain ⟨u, hu⟩ := Value.isStrOf_shape q
    injection hu
  · rintro rfl
    exact isS_refl _ _
theorem goodS_mem {l : List (Int × Value)} (g : ∀ e ∈ l, GoodS w e) (k : Str) : k ∈ l.map keyS ↔ ∃ e ∈ l, (PySem.strKind P w).is k e.2 = true := by
  rw [List.mem_map]
  constructor
  · rintro ⟨e, he, q⟩
    exact ⟨e, he, (goodS_is (g e he) k).2 q⟩
  · rintro ⟨e, he, q⟩
    exact ⟨e, he, (goodS_is (g e he) k).1 q⟩
theorem SetS.setOf (R : SetS w h a L) : h.SetOf (PySem.strKind P w) a (fun x => decide (x ∈ L)) L.length := by
  obtain ⟨o, es, ep, t, ho, hx, hd, g, pm, nd, hb, hf, _⟩ := R
  refine ⟨o, es, ep, t, ho, hx, hd, goodS_elems g, fun k => ?_, hb, hf, ?_⟩
  · rw [decide_eq_true_eq, ← pm.mem_iff]
    exact goodS_mem g k
  · have := pm.length_eq
    rw [List.length_map, Array.length_toList] at this
    exact this
end

section
variable {P : Program} {w : World} {A : Around} {E : Value → Shared → Prop} {s : Shared} {a : Addr} {L : List Str}
/-- the member behind one addition -/
def insS (L : List Str) (x : Str) : List Str := if x ∈ L then L else x :: L
theorem insS_nodup {L : List Str} {x : Str} (h : L.Nodup) : (insS L x).Nodup := by
  unfold insS
  split
  · exact h
  · exact List.nodup_cons.mpr ⟨by assumption, h⟩
theorem setS_tail {g : Bool → Sem Unit} (hg : ∀ (b : Bool) (s₁ : Shared) (Q' : Unit → Shared → Prop), Q' () s₁ → wpAny (model P w) A (g b) Q' E s₁)
    {o : Obj} {es : Array (Int × Value)} {ep : Nat} {t : SetTable} (ho : s.heap.get? a = some o) (hex : o.ExactSet) (hd : o.data = .set es ep t)
    {es1 : Array (Int × Value)} {t2 : SetTable} {L' : List Str} (g1 : ∀ e ∈ es1.toList, GoodS w e) (pm1 : (es1.toList.map keyS).Perm L') (nd1 : L'.Nodup)
    (hb1 : es1.size < scanBound) (hf2 : t2.fits es1.size = true) (hr : Ris t2.place.toList) (hl : w.params.followText "set-order" = true ∨ t2.led = true) {wasDummy : Bool} {R : Option Bool → Shared → Prop}
    (hR : ∀ h', Heap.SameBut a s.heap h' → SetS w h' a L' → R (some true) { s with heap := h' }) :
    wpAny (model P w) A (do
        storeSet a es1 t2
        if (!wasDummy && t2.tooFull) = true then do
            g (relayAll t2 es1 (SetTable.grown es1.size)).2.2
            storeSet a (relayAll t2 es1 (SetTable.grown es1.size)).1 (relayAll t2 es1 (SetTable.grown es1.size)).2.1
            pure (some true)
          else pure (some true)) R E s := by
  refine wpAny_bind (wpAny_storeSet_of ho hd ?_ (fits_of_scanBound hb1))
  have ho1 := PpSet.storeB_at (es' := es1) (t' := t2) ho hd
  have sb1 := Heap.SameBut.update s.heap a (Obj.putSet es1 t2)
  split
  · have pm := relayAll_perm t2 es1 (SetTable.grown es1.size)
    have hf3 := relayAll_fits t2 es1 (SetTable.grown es1.size)
    have hr3 := relayAll_ris t2 es1 (SetTable.grown es1.size)
    have hl3 := relayAll_led t2 es1 (SetTable.grown es1.size)
    generalize relayAll t2 es1 (SetTable.grown es1.size) = Z at pm hf3 hr3 hl3 ⊢
    obtain ⟨es2, t3, gave⟩ := Z
    dsimp only at pm hf3 hr3 hl3 ⊢
    have hsz : es2.size = es1.size := by rw [← Array.length_toList, pm.length_eq, Array.length_toList]
    have hb2 : es2.size < scanBound := by rw [hsz]; exact hb1
    refine wpAny_bind (hg _ _ _ ?_)
    refine wpAny_bind (wpAny_storeSet_of ho1 rfl ?_ (fits_of_scanBound hb2))
    have ho2 := PpSet.storeB_at (es' := es2) (t' := t3) ho1 rfl
    refine wpAny_pure (hR _ (sb1.trans (Heap.SameBut.update _ a _)) ?_)
    exact ⟨_, es2, _, t3, ho2, hex, rfl, fun e he => g1 e (pm.mem_iff.mp he), (pm.map keyS).trans pm1, nd1, hb2, hf3, hr3, hl.imp id fun z => by rw [hl3]; exact z⟩
  · exact wpAny_pure (hR _ sb1 ⟨_, es1, _, t2, ho1, hex, rfl, g1, pm1, nd1, hb1, hf2, hr, hl⟩)
theorem setS_hashed {k : Str} {tk : Tok} {Q : Bool → Shared → Prop} (R : SetS w s.heap a L) (room : L.length + 1 < scanBound)
    (hQ : ∀ b h', Heap.SameBut a s.heap h' → SetS w h' a (insS L k) → Q b { s with heap := h' }) :
    wpAny (model P w) A (setAddHashed a (.str k tk) ((PySem.strKind P w).hash k)) Q E s := by
  obtain ⟨o, es, ep, t, ho, hex, hd, g, pmL, nd, hb, hf, hr, hl⟩ := R
  have hkey : (PySem.strKind P w).is k (.str k tk) = true := isS_refl k tk
  have hsc : (Value.str k tk).scannable = true := rfl
  have hel : ElemsOf (PySem.strKind P w) es.toList := goodS_elems g
  have hlen := pmL.length_eq
  rw [List.length_map, Array.length_toList] at hlen
  unfold setAddHashed setAddHashedIn
  refine wpAny_holding (wpAny_bind (wpAny_setState_of ho hd hf ?_))
  dsimp only
  rw [byScan_of hsc hb hel]
  simp only [↓reduceIte]
  unfold setAddByScan
  refine wpAny_bind ?_
  refine wpAny_bind (wpAny_rule ?_)
  refine wpAny_bind (wpAny_setScan_of hkey ho hd hf hel ?_)
  cases hfi : List.findIdx? (fun e => (PySem.strKind P w).is k e.2) es.toList with
  | some j =>
    dsimp only
    obtain ⟨hj, pj, _⟩ := List.findIdx?_eq_some_iff_getElem.mp hfi
    have hk : k ∈ L := pmL.mem_iff.mp ((goodS_mem (P := P) (w := w) g k).2 ⟨es.toList[j], List.getElem_mem hj, pj⟩)
    refine wpAny_pure (wpAny_pure ?_)
    refine hQ _ s.heap (Heap.SameBut.refl a s.heap) ?_
    unfold insS
    rw [if_pos hk]
    exact ⟨o, es, ep, t, ho, hex, hd, g, pmL, nd, hb, hf, hr, hl⟩
  | none =>
    dsimp only
    have hnk : k ∉ L := fun z => by
      obtain ⟨e, he, q⟩ := (goodS_mem (P := P) (w := w) g k).1 (pmL.mem_iff.mpr z)
      have c := List.findIdx?_eq_none_iff.mp hfi e he
      rw [q] at c
      cases c
    have hgw : ∀ (b : Bool) {s₁ : Shared} {Q' : Unit → Shared → Prop}, Q' () s₁ → wpAny (model P w) A (match b with | true => rule "set.scan.the-table-gave-way" | false => pure ()) Q' E s₁ :=
      fun b s₁ Q' q => by cases b <;> first | exact wpAny_pure q | exact wpAny_rule q
    have pm := layNew_perm t es ((PySem.strKind P w).hash k) (.str k tk)
    have hf1 := layNew_fits t es ((PySem.strKind P w).hash k) (.str k tk)
    have hr1 := layNew_ris t es ((PySem.strKind P w).hash k) (.str k tk) hr
    have hl1 := layNew_led t es ((PySem.strKind P w).hash k) (.str k tk)
    generalize layNew t es ((PySem.strKind P w).hash k) (.str k tk) = Z at pm hf1 hr1 hl1 ⊢
    obtain ⟨es1, t1, wasDummy, gave⟩ := Z
    dsimp only at pm hf1 hr1 hl1 ⊢
    rw [Array.toList_push] at pm
    have pc : es1.toList.Perm (((PySem.strKind P w).hash k, Value.str k tk) :: es.toList) := pm.trans (List.perm_append_singleton _ _)
    have pk : (es1.toList.map keyS).Perm (insS L k) := by
      unfold insS
      rw [if_neg hnk]
      exact (pc.map keyS).trans (pmL.cons k)
    have g1 : ∀ e ∈ es1.toList, GoodS w e := fun e he => by
      rcases List.mem_cons.mp (pc.mem_iff.mp he) with z | z
      · rw [z]; exact ⟨k, tk, rfl, rfl⟩
      · exact g e z
    have hsz : es1.size = L.length + 1 := by rw [← Array.length_toList, pc.length_eq, List.length_cons, Array.length_toList, hlen]
    have hb1 : es1.size < scanBound := by rw [hsz]; exact room
    have hled : w.params.followText "set-order" = true ∨ t1.led = true := hl.imp id fun z => by rw [hl1]; exact z
    have fin : ∀ h', Heap.SameBut a s.heap h' → SetS w h' a (insS L k) → Q true { s with heap := h' } := fun h' sb r => hQ _ h' sb r
    have nd1 := insS_nodup (x := k) nd
    refine wpAny_bind (hgw _ ?_)
    split
    · refine wpAny_bind ?_
      rw [hashByValue_scannable 8 hsc]
      refine wpAny_pure ?_
      refine setS_tail ?_ ho hex hd g1 pk nd1 hb1 ?_ ?_ ?_ ?_
      · intro b s₁ Q' q; cases b <;> first | exact wpAny_pure q | exact wpAny_rule q
      · first | (split <;> first | exact hf1 | exact SetTable.fits_plain_off hf1) | exact hf1
      · first | (split <;> exact hr1) | exact hr1
      · first | (split <;> exact hled) | exact hled
      · intro h' sb r; dsimp only; exact wpAny_pure (fin h' sb r)
    · refine wpAny_bind (wpAny_pure ?_)
      simp only [↓reduceIte]
      refine setS_tail ?_ ho hex hd g1 pk nd1 hb1 hf1 hr1 hled ?_
      · intro b s₁ Q' q; cases b <;> first | exact wpAny_pure q | exact wpAny_rule q
      · intro h' sb r; dsimp only; exact wpAny_pure (fin h' sb r)
theorem setS_add {k : Str} {tk : Tok} {Q : Value → Shared → Prop} (R : SetS w s.heap a L) (room : L.length + 1 < scanBound)
    (hQ : ∀ h' t', Heap.SameBut a s.heap h' → SetS w h' a (insS L k) → Q .none { s with heap := h', toks := t' }) :
    wpAny (model P w) A (call (.builtin "set.add") [.ref a, .str k tk]) Q E s := by
  have hS : s.heap.SetOf (PySem.strKind P w) a (fun x => decide (x ∈ L)) L.length := R.setOf
  refine wpAny_call_entry F.slot_set_add hS.typeIs F.entry_set_add ?_ (F.args_set_add_2 _ _)
  unfold Builtin.«set.add» Builtin.Frozenset.oneOther
  simp only [List.isEmpty_nil, bind_assoc]
  unfold Builtin.Frozenset.addrOf setAdd
  refine wpAny_bind (wpAny_pure ?_)
  try dsimp only
  refine wpAny_bind (wpAny_pure ?_)
  try dsimp only
  refine wpAny_bind ?_
  refine wpAny_holding ?_
  refine wpAny_bind ((PySem.strKind P w).pyHash (isS_refl k tk) ?_)
  refine setS_hashed (s := { s with toks := s.toks + 1 }) R room fun b h' sb r => ?_
  cases b <;> first
    | (show wpAny _ _ (ret Value.none) _ _ _; exact wpAny_pure ⟨_, rfl, hQ h' _ sb r⟩)
end
theorem setS_fresh {h : Heap} (w : World) : SetS w (h.push { cls := .type "set", dict := none, data := .set #[] 0 (.fresh 0 0 (!w.params.followText "set-order")) }) h.objs.size [] :=
  ⟨_, #[], 0, _, Heap.get?_push_size _ rfl, ⟨rfl, rfl, rfl⟩, rfl, (fun e he => by simp at he), (by simp), (by simp), (by decide), (by rfl), List.Pairwise.nil, by
    show _ ∨ (!w.params.followText "set-order") = true
    cases w.params.followText "set-order"
    · exact .inr rfl
    · exact .inl rfl⟩
/-- the set of texts at a, tracked -/
def SetSO (w : World) (a : Addr) (L : List Str) : HO := .ext fun h => SetS w h a L
theorem setSO_new {w : World} {P : Program} {H : Hp} {h : Heap} {a : Addr} {L : List Str} (R : SetS w h a L) : ObjOk P w H h a (SetSO w a L) := by
  have ⟨o, _, _, _, ho, _⟩ := R
  exact ⟨R, ⟨o, ho⟩, fun h1 h2 p k => SetS.at p k⟩
section
variable {X : Cx}
theorem setSO_get {pins : List (Addr × Obj)} {σ : L2.St} {H : Hp} {s : Shared} {a : Addr} {L : List Str} (I : Inv X pins σ H s) (ha : H a = some (SetSO X.w a L)) : SetS X.w s.heap a L := (I.hok a _ ha).1
theorem addS_ok {pins : List (Addr × Obj)} {σ : L2.St} {H : Hp} {s : Shared} {E : Value → Shared → Prop} {D : Addr} {L : List Str} {y : Str} {tk : Tok} {Q : Value → Shared → Prop} (I : Inv X pins σ H s) (hD : H D = some (SetSO X.w D L)) (room : L.length + 1 < scanBound)
    (h : ∀ s', Inv X pins σ (upd H D (SetSO X.w D (insS L y))) s' → Q .none s') : wpAny (model X.prog X.w) X.A (call (.builtin "set.add") [.ref D, .str y tk]) Q E s := by
  have R := setSO_get I hD
  refine setS_add R room fun h' t' sb new => ?_
  have he : ∃ u, h'.get? D = some u := by
    have ⟨o, _, _, _, ho, _⟩ := new
    exact ⟨o, ho⟩
  exact h _ (I.write (e := D) (t' := t') (by rw [hD]; trivial) (.inl rfl) (fun b u hb hu => (sb.2 b hb).trans hu) he (setSO_new new))
end
end PD

/-! part S2 -/
set_option Elab.async false
set_option linter.all false
set_option maxRecDepth 100000
set_option maxHeartbeats 4000000
/-! {elt for tg in iter if .. for tg1 in iter1 if ..}, elt a text; own work, after the library's list comprehensions of two clauses -/
namespace PD
open PySem PySem.Spec PyProof.Rows L2

theorem compTurnS_out (elt t0 i0 t1 i1 : Expr) (ifs0 ifs1 : List Expr) (scope : Scope) (pos : Pos) (it acc : Value) (env : Env) :
    compTurn (.SetComp elt [⟨t0, i0, ifs0, 0⟩, ⟨t1, i1, ifs1, 0⟩] scope pos) 0 it acc env = (do
      standAt i0.pos
      match ← pyNext it with
      | none => pure (.done .next)
      | some v =>
        letOwnedTupleGo t0 it v
        assign t0 env v
        let mut ok := true
        for c in ifs0 do
          if ok then ok ← isTrue c env (eval c env)
        if ok then
          let x ← eval i1 env
          standAt i1.pos
          let x ← foldedSetIterable i1 env x
          let _ ← runOwn (.compStart (.SetComp elt [⟨t0, i0, ifs0, 0⟩, ⟨t1, i1, ifs1, 0⟩] scope pos) 1 (← holding [x] (pyIter x)) acc env) env
        again (.compLoop (.SetComp elt [⟨t0, i0, ifs0, 0⟩, ⟨t1, i1, ifs1, 0⟩] scope pos) 0 it acc env)) := by rfl
theorem compTurnS_in (elt t0 i0 t1 i1 : Expr) (ifs0 ifs1 : List Expr) (scope : Scope) (pos : Pos) (it acc : Value) (env : Env) :
    compTurn (.SetComp elt [⟨t0, i0, ifs0, 0⟩, ⟨t1, i1, ifs1, 0⟩] scope pos) 1 it acc env = (do
      standAt i1.pos
      match ← pyNext it with
      | none => pure (.done .next)
      | some v =>
        letOwnedTupleGo t1 it v
        assign t1 env v
        let mut ok := true
        for c in ifs1 do
          if ok then ok ← isTrue c env (eval c env)
        if ok then
          (do let v ← eval elt env; standAt elt.pos; let _ ← call (.builtin "set.add") [acc, v])
        again (.compLoop (.SetComp elt [⟨t0, i0, ifs0, 0⟩, ⟨t1, i1, ifs1, 0⟩] scope pos) 1 it acc env)) := by rfl

section
variable {prog : Program} {w : World} {A : Around} {R : Result → Shared → Prop} {s : Shared} {elt t0 i0 t1 i1 : Expr} {ifs0 ifs1 : List Expr} {scope : Scope} {pos : Pos} {it acc : Value} {env : Env}
theorem compLoopS_out (hs : ∀ x, foldedSetIterable i1 env x = pure x) (I : Nat → Shared → Prop)
    (turn : ∀ n s, I n s → wpAny (model prog w) A (pyNext it) (fun r s₁ => match r with
      | none => R (.ok .next) s₁
      | some v => wpAny (model prog w) A (letOwnedTupleGo t0 it v) (fun _ s₁' => wpAny (model prog w) A (assign t0 env v) (fun _ s₂ =>
          wpAny (model prog w) A (forIn ifs0 true fun c r => if r = true then do let ok ← isTrue c env (eval c env); pure (ForInStep.yield ok) else pure (ForInStep.yield r)) (fun ok s₃ =>
            if ok = true then wpAny (model prog w) A (eval i1 env) (fun x s₄ => wpAny (model prog w) A (pyIter x) (fun it1 s₅ =>
              codeAny (model prog w) A (.compStart (.SetComp elt [⟨t0, i0, ifs0, 0⟩, ⟨t1, i1, ifs1, 0⟩] scope pos) 1 it1 acc env) (fun r s' => match r with
                | .ok _ => ∃ m, m < n ∧ I m s'
                | .error _ => False) s₅) (notedBy (model prog w) A env fun e s' => R (.error e) s') s₄) (notedBy (model prog w) A env fun e s' => R (.error e) s') s₃
            else ∃ m, m < n ∧ I m s₃) (notedBy (model prog w) A env fun e s' => R (.error e) s') s₂) (notedBy (model prog w) A env fun e s' => R (.error e) s') s₁') (notedBy (model prog w) A env fun e s' => R (.error e) s') s₁) (notedBy (model prog w) A env fun e s' => R (.error e) s') s)
    (n : Nat) (h : I n s) :
    codeAny (model prog w) A (.compLoop (.SetComp elt [⟨t0, i0, ifs0, 0⟩, ⟨t1, i1, ifs1, 0⟩] scope pos) 0 it acc env) R s := by
  refine codeAny_loop rfl I (fun n s hI => ?_) n h
  show wpAny _ A ((compTurn (.SetComp elt [⟨t0, i0, ifs0, 0⟩, ⟨t1, i1, ifs1, 0⟩] scope pos) 0 it acc env).onRaise (fun x => do noteFrame x env; theTreesLotGoes x)) _ _ s
  refine wpAny_noted ?_
  rw [compTurnS_out]
  refine wpAny_bind (wpAny_standAt (wpAny_bind (wpAny_mono (turn n s hI) (fun r s₁ h₁ => ?_) fun _ _ h' => h')))
  cases r with
  | none => exact wpAny_pure h₁
  | some v =>
    refine wpAny_bind (wpAny_mono h₁ (fun _ s₁' h₁' => ?_) fun _ _ h' => h')
    refine wpAny_bind (wpAny_mono h₁' (fun _ s₂ h₂ => wpAny_bind (wpAny_mono h₂ (fun ok s₃ h₃ => ?_) fun _ _ h' => h')) fun _ _ h' => h')
    cases ok with
    | false => exact wpAny_pure ⟨rfl, h₃⟩
    | true =>
      refine wpAny_bind (wpAny_mono h₃ (fun x s₄ h₄ => ?_) fun _ _ h' => h')
      refine wpAny_bind (wpAny_standAt (wpAny_bind (wpAny_of_eq (hs x) (wpAny_bind (wpAny_holding (wpAny_mono h₄ (fun it1 s₅ h₅ => ?_) fun _ _ h' => h'))))))
      refine wpAny_bind (wpAny_runOwn ?_)
      rw [Around.mark_none]
      refine codeAny_mono h₅ fun r s' hr => ?_
      cases r with
      | ok f =>
        first
          | exact wpAny_pure ⟨rfl, hr⟩
          | exact wpAny_bind (wpAny_pure (wpAny_pure ⟨rfl, hr⟩))
      | error e => exact hr.elim
theorem compLoopS_in (I : Nat → Shared → Prop)
    (turn : ∀ n s, I n s → wpAny (model prog w) A (pyNext it) (fun r s₁ => match r with
      | none => R (.ok .next) s₁
      | some v => wpAny (model prog w) A (letOwnedTupleGo t1 it v) (fun _ s₁' => wpAny (model prog w) A (assign t1 env v) (fun _ s₂ =>
          wpAny (model prog w) A (forIn ifs1 true fun c r => if r = true then do let ok ← isTrue c env (eval c env); pure (ForInStep.yield ok) else pure (ForInStep.yield r)) (fun ok s₃ =>
            if ok = true then wpAny (model prog w) A (eval elt env) (fun x s₄ =>
              wpAny (model prog w) A (call (.builtin "set.add") [acc, x]) (fun _ s₅ => ∃ m, m < n ∧ I m s₅) (notedBy (model prog w) A env fun e s' => R (.error e) s') s₄) (notedBy (model prog w) A env fun e s' => R (.error e) s') s₃
            else ∃ m, m < n ∧ I m s₃) (notedBy (model prog w) A env fun e s' => R (.error e) s') s₂) (notedBy (model prog w) A env fun e s' => R (.error e) s') s₁') (notedBy (model prog w) A env fun e s' => R (.error e) s') s₁) (notedBy (model prog w) A env fun e s' => R (.error e) s') s)
    (n : Nat) (h : I n s) :
    codeAny (model prog w) A (.compLoop (.SetComp elt [⟨t0, i0, ifs0, 0⟩, ⟨t1, i1, ifs1, 0⟩] scope pos) 1 it acc env) R s := by
  refine codeAny_loop rfl I (fun n s hI => ?_) n h
  show wpAny _ A ((compTurn (.SetComp elt [⟨t0, i0, ifs0, 0⟩, ⟨t1, i1, ifs1, 0⟩] scope pos) 1 it acc env).onRaise (fun x => do noteFrame x env; theTreesLotGoes x)) _ _ s
  refine wpAny_noted ?_
  rw [compTurnS_in]
  refine wpAny_bind (wpAny_standAt (wpAny_bind (wpAny_mono (turn n s hI) (fun r s₁ h₁ => ?_) fun _ _ h' => h')))
  cases r with
  | none => exact wpAny_pure h₁
  | some v =>
    refine wpAny_bind (wpAny_mono h₁ (fun _ s₁' h₁' => ?_) fun _ _ h' => h')
    refine wpAny_bind (wpAny_mono h₁' (fun _ s₂ h₂ => wpAny_bind (wpAny_mono h₂ (fun ok s₃ h₃ => ?_) fun _ _ h' => h')) fun _ _ h' => h')
    cases ok with
    | false => exact wpAny_pure ⟨rfl, h₃⟩
    | true =>
      exact wpAny_bind (wpAny_bind (wpAny_mono h₃ (fun x s₄ h₄ => wpAny_bind (wpAny_standAt (wpAny_bind (wpAny_mono h₄ (fun _ s₅ h₅ => wpAny_pure (wpAny_pure ⟨rfl, h₅⟩)) fun _ _ h' => h')))) fun _ _ h' => h'))
theorem compStartS1 (h0 : codeAny (model prog w) A (.compLoop (.SetComp elt [⟨t0, i0, ifs0, 0⟩, ⟨t1, i1, ifs1, 0⟩] scope pos) 1 it acc env) R s)
    (h : wpAny (model prog w) A (pyIter it) (fun it' s' => codeAny (model prog w) A (.compLoop (.SetComp elt [⟨t0, i0, ifs0, 0⟩, ⟨t1, i1, ifs1, 0⟩] scope pos) 1 it' acc env) R s')
      (notedBy (model prog w) A env fun x s' => R (.error x) s') s) :
    codeAny (model prog w) A (.compStart (.SetComp elt [⟨t0, i0, ifs0, 0⟩, ⟨t1, i1, ifs1, 0⟩] scope pos) 1 it acc env) R s := by
  refine codeAny_of_tree ?_
  show wpAny _ _ ((compStart (.SetComp elt [⟨t0, i0, ifs0, 0⟩, ⟨t1, i1, ifs1, 0⟩] scope pos) 1 it acc env).onRaise (fun x => do noteFrame x env; standAt theWindowsPlace)) _ _ s
  refine wpAny_notedAt ?_
  unfold compStart
  show wpAny _ _ (ask >>= _) _ _ s
  refine wpAny_bind (wpAny_askSetting (wpAny_ite ?_))
  split
  · first
      | exact wpAny_bind (wpAny_pure (wpAny_pure (And.intro rfl h0)))
      | exact wpAny_pure (And.intro rfl h0)
  · first
      | exact wpAny_bind (wpAny_rule (wpAny_bind (wpAny_standAt (wpAny_bind (wpAny_mono h (fun it' s' h' => wpAny_pure (And.intro rfl h')) fun _ _ x => x)))))
      | (refine wpAny_bind (wpAny_rule ?_); show wpAny _ _ (standAt i1.pos >>= _) _ _ s; exact wpAny_bind (wpAny_standAt (wpAny_bind (wpAny_mono h (fun it' s' h' => wpAny_pure (And.intro rfl h')) fun _ _ x => x))))
end

section
variable {X : Cx}
def tSc2 (w : World) (wi : TI) (g : TG) (tt : TT) (wi1 : TI) (g1 : TG) (tt1 : TT) (te : TE) (vs vs1 : List Nat) : TE := fun σ H Q => wi σ H fun J H1 => ∀ D, H1 D = none → ∃ W : Nat → Nat → Hp → Prop, (∃ m, W 0 m (upd H1 D (SetSO w D []))) ∧ ∀ i m H, W i m H →
  (J.stop i H ∧ Q (.ref D) H) ∨ (J.go i H ∧ ∃ Nx : Hp → Prop, (∀ H', Nx H' → ∃ m', m' < m ∧ W (i + 1) m' H') ∧ ∀ x H', J.yld i H x H' → g x (wipe σ vs) H' fun σ2 H2 => wipe σ2 vs = wipe σ vs ∧ tt σ2 H2 fun b H3 =>
    if b = true then wi1 σ2 H3 fun J1 H4 => ∃ W1 : Nat → Nat → Hp → Prop, (∃ m, W1 0 m H4) ∧ ∀ j k H, W1 j k H →
      (J1.stop j H ∧ Nx H) ∨ (J1.go j H ∧ ∃ Nx1 : Hp → Prop, (∀ H', Nx1 H' → ∃ k', k' < k ∧ W1 (j + 1) k' H') ∧ ∀ x H', J1.yld j H x H' → g1 x (wipe σ2 vs1) H' fun σ3 H5 => wipe σ3 vs1 = wipe σ2 vs1 ∧ tt1 σ3 H5 fun b H6 =>
        if b = true then te σ3 H6 fun y H7 => ∃ c L, y = .str c ∧ H7 D = some (SetSO w D L) ∧ L.length + 1 < scanBound ∧ Nx1 (upd H7 D (SetSO w D (insS L c))) else Nx1 H6)
    else Nx H3)
theorem sc2_core {pins : List (Addr × Obj)} {s : Shared} {σ : L2.St} {H : Hp} {Q : VK} {elt tg iter tg1 iter1 : Expr} {ifs ifs1 : List Expr} {scope : Scope} {own : List (Str × Nat)} {vs1 : List Nat} {pos pos' : Pos} {wi wi1 : TI} {g g1 : TG} {tt tt1 : TT} {te : TE} {use : Option (Value → Sem Unit)} {Qf : Value → Shared → Prop}
    (hc : X.calm = true) (hN : X.N.Nodup) (I : Inv X pins σ H s) (hi : PI X tg iter wi) (ok : BlkOk X.N X.env.scope scope own) (hv : ∀ i ∈ vs1, i ∈ own.map (·.2))
    (hg : ∀ (s : Shared) (H : Hp) (C : Addr) (cl : List (Str × Addr)) (fp : List Addr), PG (X.blk s H scope (compEnvC scope cl C X.env) fp) tg g) (ht : ∀ (s : Shared) (H : Hp) (C : Addr) (cl : List (Str × Addr)) (fp : List Addr), PTs (X.blk s H scope (compEnvC scope cl C X.env) fp) ifs tt)
    (he : ∀ (s : Shared) (H : Hp) (C : Addr) (cl : List (Str × Addr)) (fp : List Addr), PE (X.blk s H scope (compEnvC scope cl C X.env) fp) elt te) (hs : ∀ x, foldedSetIterable iter X.env x = pure x)
    (hi1 : ∀ (s : Shared) (H : Hp) (C : Addr) (cl : List (Str × Addr)) (fp : List Addr), PI (X.blk s H scope (compEnvC scope cl C X.env) fp) tg1 iter1 wi1)
    (hg1 : ∀ (s : Shared) (H : Hp) (C : Addr) (cl : List (Str × Addr)) (fp : List Addr), PG (X.blk s H scope (compEnvC scope cl C X.env) fp) tg1 g1)
    (ht1 : ∀ (s : Shared) (H : Hp) (C : Addr) (cl : List (Str × Addr)) (fp : List Addr), PTs (X.blk s H scope (compEnvC scope cl C X.env) fp) ifs1 tt1)
    (hs1 : ∀ env x, foldedSetIterable iter1 env x = pure x)
    (h : tSc2 X.w wi g tt wi1 g1 tt1 te (own.map (·.2)) vs1 σ H Q)
    (hRR : ∀ D C s' m H', Inv X pins σ H' s' → Q (.ref D) H' → s'.heap.Ns C m → FpOk X pins H' C → compPost (model X.prog X.w) X.A X.xe use Qf (.ref D) C (.ok .next) s') :
    wpAny (model X.prog X.w) X.A (comprehension (.SetComp elt [⟨tg, iter, ifs, 0⟩, ⟨tg1, iter1, ifs1, 0⟩] scope pos) scope X.env pos' (newSet (.type "set")) false (eval iter X.env) use) Qf X.xe s := by
  have hfree : ∀ y ∈ scope.names, y.2 = .free → ∃ c, X.env.cells.lookup y.1 = some c := fun y hy e => by
    rcases ok.free y hy e with k | k
    · exact I.ok.has _ (.inl k)
    · exact I.ok.has _ (.inr k)
  refine wpAny_comprehension_free (use := use) rfl hs (closure_ok hfree) ok.kind (fun y hy e => by rw [ok.uniq y hy, e])
    (thn (hi.run pins s σ H _ I h) fun xv s1 hx => thn hx fun itv s2 h2 => ?_)
  obtain ⟨it, fp, tn, J, H2, e, I2, T, st2, f2, q⟩ := h2
  subst e
  refine PpSet.newSet_ok (newEnv_comp ?_)
  generalize hD : s2.heap.objs.size = D
  have hDn : H2 D = none := I2.hok.fresh (Nat.le_of_eq hD)
  obtain ⟨W, ⟨m0, w0⟩, turn⟩ := q D hDn
  generalize hs3 : ({ s2 with heap := s2.heap.push { cls := .type "set", dict := none, data := .set #[] 0 (.fresh 0 0 (!X.w.params.followText "set-order")) } } : Shared) = s3
  have I3 : Inv X pins σ (upd H2 D (SetSO X.w D [])) s3 := by
    rw [← hs3]
    refine I2.laid (t' := s2.toks) (fun b o e => Heap.get?_push_of_some _ e) (Nat.le_of_eq hD) ?_
    rw [← hD]
    exact setSO_new (setS_fresh X.w)
  have h3 : s3.heap = s2.heap.push { cls := .type "set", dict := none, data := .set #[] 0 (.fresh 0 0 (!X.w.params.followText "set-order")) } := by rw [← hs3]
  have sz : ∀ b ∈ fp, b < s2.heap.objs.size := fun b hb => by
    obtain ⟨o, e, _⟩ := T.obj _ _ st2 b hb
    exact Heap.lt_size e
  have f3 : ∀ b ∈ fp, FpOk X pins (upd H2 D (SetSO X.w D [])) b ∧ b < s3.heap.objs.size := fun b hb => by
    have hlt := sz b hb
    refine ⟨⟨?_, (f2 b hb).2⟩, by rw [h3, Heap.size_push]; exact Nat.lt_succ_of_lt hlt⟩
    rw [upd_ne (by rw [← hD]; exact Nat.ne_of_lt hlt)]
    exact (f2 b hb).1
  have st3 : tn 0 s3.heap := T.keep _ _ _ st2 fun b _ o e => by rw [h3]; exact Heap.get?_push_of_some _ e
  have I4 := block_start I3 ok hN f3
  have pg := hg s3 (upd H2 D (SetSO X.w D [])) s3.heap.objs.size (cellsFrom (s3.heap.objs.size + 1) scope.names (cloFrom X.env.cells scope.names [])) fp
  have pt := ht s3 (upd H2 D (SetSO X.w D [])) s3.heap.objs.size (cellsFrom (s3.heap.objs.size + 1) scope.names (cloFrom X.env.cells scope.names [])) fp
  have pe := he s3 (upd H2 D (SetSO X.w D [])) s3.heap.objs.size (cellsFrom (s3.heap.objs.size + 1) scope.names (cloFrom X.env.cells scope.names [])) fp
  have pi1 := hi1 s3 (upd H2 D (SetSO X.w D [])) s3.heap.objs.size (cellsFrom (s3.heap.objs.size + 1) scope.names (cloFrom X.env.cells scope.names [])) fp
  have pg1 := hg1 s3 (upd H2 D (SetSO X.w D [])) s3.heap.objs.size (cellsFrom (s3.heap.objs.size + 1) scope.names (cloFrom X.env.cells scope.names [])) fp
  have pt1 := ht1 s3 (upd H2 D (SetSO X.w D [])) s3.heap.objs.size (cellsFrom (s3.heap.objs.size + 1) scope.names (cloFrom X.env.cells scope.names [])) fp
  show codeAny _ _ (.compStart (.SetComp elt [⟨tg, iter, ifs, 0⟩, ⟨tg1, iter1, ifs1, 0⟩] scope pos) 0 (.ref it) (.ref D) (compEnvC scope (cellsFrom (s3.heap.objs.size + 1) scope.names (cloFrom X.env.cells scope.names [])) s3.heap.objs.size X.env)) (compPost (model X.prog X.w) X.A X.xe use Qf (.ref D) s3.heap.objs.size) { s3 with heap := pushCells (s3.heap.push { cls := .type "dict", data := .dict #[] }) scope.names }
  have nfp : ∀ b ∈ fp, (upd H2 D (SetSO X.w D [])) b = none := fun b hb => (f3 b hb).1.1
  generalize hce : compEnvC scope (cellsFrom (s3.heap.objs.size + 1) scope.names (cloFrom X.env.cells scope.names [])) s3.heap.objs.size X.env = ce at I4 pg pt pe pi1 pg1 pt1 ⊢
  have cL : ce.locals = s3.heap.objs.size := by subst hce; rfl
  generalize hH3 : upd H2 D (SetSO X.w D []) = H3 at I3 I4 pg pt pe pi1 pg1 pt1 w0 nfp f3
  generalize hs4 : ({ s3 with heap := pushCells (s3.heap.push { cls := .type "dict", data := .dict #[] }) scope.names } : Shared) = s4 at I4 ⊢
  have st4 : tn 0 s4.heap := T.keep _ _ _ st3 fun b _ o e => by rw [← hs4]; exact pushCells_keeps _ _ _ _ (Heap.get?_push_of_some _ e)
  have stat : ∀ {σ' : L2.St} {H' : Hp} {s' : Shared}, Inv (X.blk s3 H3 scope ce fp) [] σ' H' s' → (∀ b ∈ fp, H' b = none) → ∀ b ∈ fp, FpOk (X.blk s3 H3 scope ce fp) [] H' b := fun {σ' H' s'} I' hn b hb =>
    ⟨hn b hb, (I'.ok.exf b hb).1, I'.ok.exfs b hb, .inl hb, fun x c e => (I'.ok.exf b hb).2 x c e, fun p hp => absurd (show p ∈ ([] : List (Addr × Obj)) ++ [] from hp) (by simp)⟩
  have loop : codeAny (model X.prog X.w) X.A (.compLoop (.SetComp elt [⟨tg, iter, ifs, 0⟩, ⟨tg1, iter1, ifs1, 0⟩] scope pos) 0 (.ref it) (.ref D) ce) (compPost (model X.prog X.w) X.A X.xe use Qf (.ref D) s3.heap.objs.size) s4 := by
    refine compLoopS_out (hs1 ce) (fun n s' => ∃ i H', Inv (X.blk s3 H3 scope ce fp) [] (wipe σ (own.map (·.2))) H' s' ∧ tn i s'.heap ∧ (∀ b ∈ fp, H' b = none) ∧ W i n H') ?_ m0 ⟨0, H3, I4, st4, nfp, w0⟩
    rintro n s5 ⟨i, H5, I5, st5, n5, w5⟩
    rcases turn i n H5 w5 with ⟨stop, qq⟩ | ⟨go, Nx, hNx, step⟩
    · have td := T.done (X.blk s3 H3 scope ce fp) rfl rfl rfl hc i [] s5 _ H5 (fun _ _ => False) I5 (stat I5 n5) st5 stop
      refine thnF td fun r s6 ⟨hr, I6⟩ => ?_
      subst hr
      have I7 : Inv X pins σ H5 s6 := I3.call' (ch := fp) I6.os I6.base I6.hok I6.bare fun b hb => ⟨(f3 b hb).1.2.2.2.1, (f3 b hb).1.2.1, (f3 b hb).1.2.2.2.2.1, (f3 b hb).1.2.2.2.2.2⟩
      have nC : H5 s3.heap.objs.size = none := by
        have z : H5 ce.locals = none := I6.free
        rw [cL] at z
        exact z
      obtain ⟨m, hn, _⟩ := I6.loc
      have hn : s6.heap.Ns ce.locals m := hn
      rw [cL] at hn
      exact hRR D s3.heap.objs.size s6 m H5 I7 qq hn (I3.fpOk (Nat.le_refl _) nC)
    · have ti := T.item (X.blk s3 H3 scope ce fp) rfl rfl rfl hc i [] s5 _ H5 (fun _ _ => False) I5 (stat I5 n5) st5 go
      refine thnF ti fun r s6 ⟨u, hr, h6⟩ => ?_
      subst hr
      refine thnF h6 fun _ s7 ⟨x, H7, I7, r7, y7, st7, n7⟩ => ?_
      have I7' := I7.pinned (stat I7 n7) (T.obj _ _ st7)
      refine thnF (pg.run _ s7 _ H7 x u _ I7' r7 (step x H7 y7)) fun _ s8 ⟨σ8, H8, I8, hw8, q8⟩ => ?_
      refine thnF (pt.run _ s8 σ8 H8 _ I8 q8) fun b s9 ⟨H9, I9, q9⟩ => ?_
      have fin : ∀ {σ9 : L2.St} {s' : Shared} {H' : Hp}, Inv (X.blk s3 H3 scope ce fp) ([] ++ pinsAt fp s7.heap) σ9 H' s' → (wipe σ (own.map (·.2))).length = σ9.length → (∀ (j : Nat) v, (wipe σ (own.map (·.2)))[j]? = some (some v) → σ9[j]? = some (some v)) → Nx H' →
          ∃ m, m < n ∧ ∃ i H', Inv (X.blk s3 H3 scope ce fp) [] (wipe σ (own.map (·.2))) H' s' ∧ tn i s'.heap ∧ (∀ b ∈ fp, H' b = none) ∧ W i m H' := fun {σ9 s' H'} I' hl hk nx => by
        obtain ⟨m', hm, w'⟩ := hNx H' nx
        have pin' : ∀ b ∈ fp, ∀ o, s7.heap.get? b = some o → s'.heap.get? b = some o ∧ H' b = none := fun b hb o e =>
          let z := I'.pin (b, o) (List.mem_append_right _ (List.mem_append_right _ (mem_pinsAt hb e)))
          ⟨z.1, z.2.1⟩
        refine ⟨m', hm, i + 1, H', (I'.unpinned (pins := [])).weak hl hk, T.keep _ _ _ st7 fun b hb o e => (pin' b hb o e).1, fun b hb => ?_, w'⟩
        obtain ⟨o, e, _⟩ := T.obj _ _ st7 b hb
        exact (pin' b hb o e).2
      have hl8 : (wipe σ (own.map (·.2))).length = σ8.length := by rw [← hw8, wipe_length]
      have hk8 : ∀ (j : Nat) v, (wipe σ (own.map (·.2)))[j]? = some (some v) → σ8[j]? = some (some v) := fun j v e => by
        rw [← hw8] at e
        exact (wipe_some e).1
      have hk9 : ∀ (j : Nat) v, (wipe σ (own.map (·.2)))[j]? = some (some v) → (wipe σ8 vs1)[j]? = some (some v) := fun j v e => by
        rw [← hw8] at e
        obtain ⟨e1, e2⟩ := wipe_some e
        rw [wipe_out fun z => e2 (hv j z)]
        exact e1
      cases b with
      | false =>
        simp only [Bool.false_eq_true, if_false] at q9 ⊢
        exact fin I9 hl8 hk8 q9
      | true =>
        simp only [if_true] at q9 ⊢
        refine thnF (pi1.run _ s9 σ8 H9 _ I9 q9) fun xv s10 hx => thnF hx fun itv s11 h11 => ?_
        obtain ⟨it1, fp1, tn1, J1, H11, e1, I11, T1, st11, f11, W1, ⟨m1, w1⟩, turn1⟩ := h11
        subst e1
        have stat1 : ∀ {H' : Hp}, (∀ b ∈ fp1, H' b = none) → ∀ b ∈ fp1, FpOk (X.blk s3 H3 scope ce fp) ([] ++ pinsAt fp s7.heap) H' b := fun hn b hb => ⟨hn b hb, (f11 b hb).2⟩
        have loop1 : codeAny (model X.prog X.w) X.A (.compLoop (.SetComp elt [⟨tg, iter, ifs, 0⟩, ⟨tg1, iter1, ifs1, 0⟩] scope pos) 1 (.ref it1) (.ref D) ce)
            (fun r s' => match r with
              | .ok _ => ∃ m, m < n ∧ ∃ i H', Inv (X.blk s3 H3 scope ce fp) [] (wipe σ (own.map (·.2))) H' s' ∧ tn i s'.heap ∧ (∀ b ∈ fp, H' b = none) ∧ W i m H'
              | .error _ => False) s11 := by
          refine compLoopS_in (fun k s' => ∃ j H', Inv (X.blk s3 H3 scope ce fp) ([] ++ pinsAt fp s7.heap) (wipe σ8 vs1) H' s' ∧ tn1 j s'.heap ∧ (∀ b ∈ fp1, H' b = none) ∧ W1 j k H') ?_ m1 ⟨0, H11, I11.weak (wipe_length _ _) (fun j v e => (wipe_some e).1), st11, fun b hb => (f11 b hb).1, w1⟩
          rintro k s12 ⟨j, H12, I12, st12, n12, w12⟩
          rcases turn1 j k H12 w12 with ⟨stop1, nx1⟩ | ⟨go1, Nx1, hNx1, step1⟩
          · refine thnF (T1.done (X.blk s3 H3 scope ce fp) rfl rfl rfl hc j _ s12 (wipe σ8 vs1) H12 (fun _ _ => False) I12 (stat1 n12) st12 stop1) fun r s13 ⟨hr, I13⟩ => ?_
            subst hr
            exact fin I13 (hl8.trans (wipe_length σ8 vs1).symm) hk9 nx1
          · refine thnF (T1.item (X.blk s3 H3 scope ce fp) rfl rfl rfl hc j _ s12 (wipe σ8 vs1) H12 (fun _ _ => False) I12 (stat1 n12) st12 go1) fun r s13 ⟨u1, hr, h13⟩ => ?_
            subst hr
            refine thnF h13 fun _ s14 ⟨x1, H14, I14, r14, y14, st14, n14⟩ => ?_
            have I14' := I14.pinned (stat1 n14) (T1.obj _ _ st14)
            refine thnF (pg1.run _ s14 (wipe σ8 vs1) H14 x1 u1 _ I14' r14 (step1 x1 H14 y14)) fun _ s15 ⟨σ15, H15, I15, hw15, q15⟩ => ?_
            refine thnF (pt1.run _ s15 σ15 H15 _ I15 q15) fun b1 s16 ⟨H16, I16, q16⟩ => ?_
            have fin1 : ∀ {s' : Shared} {H' : Hp}, Inv (X.blk s3 H3 scope ce fp) (([] ++ pinsAt fp s7.heap) ++ pinsAt fp1 s14.heap) σ15 H' s' → Nx1 H' → ∃ m, m < k ∧ ∃ j H', Inv (X.blk s3 H3 scope ce fp) ([] ++ pinsAt fp s7.heap) (wipe σ8 vs1) H' s' ∧ tn1 j s'.heap ∧ (∀ b ∈ fp1, H' b = none) ∧ W1 j m H' := fun {s' H'} I' nx => by
              obtain ⟨m', hm, w'⟩ := hNx1 H' nx
              have pin' : ∀ b ∈ fp1, ∀ o, s14.heap.get? b = some o → s'.heap.get? b = some o ∧ H' b = none := fun b hb o e =>
                let z := I'.pin (b, o) (List.mem_append_right _ (List.mem_append_right _ (mem_pinsAt hb e)))
                ⟨z.1, z.2.1⟩
              refine ⟨m', hm, j + 1, H', I'.unpinned.weak (by rw [← hw15, wipe_length]) (fun j v e => by rw [← hw15] at e; exact (wipe_some e).1), T1.keep _ _ _ st14 fun b hb o e => (pin' b hb o e).1, fun b hb => ?_, w'⟩
              obtain ⟨o, e, _⟩ := T1.obj _ _ st14 b hb
              exact (pin' b hb o e).2
            cases b1 with
            | false =>
              simp only [Bool.false_eq_true, if_false] at q16 ⊢
              exact fin1 I16 q16
            | true =>
              simp only [if_true] at q16 ⊢
              refine thnF (pe.run _ s16 σ15 H16 _ I16 q16) fun z s17 ⟨yv, H17, I17, r17, cb, L0, ey, hD17, hz17, nx⟩ => ?_
              subst ey
              obtain ⟨tk, rfl⟩ := (show ∃ t, z = Value.str cb t from r17)
              exact addS_ok (X := X.blk s3 H3 scope ce fp) I17 hD17 hz17 fun s18 I18 => fin1 I18 nx
        exact compStartS1 loop1 (T1.self X.A 0 _ _ _ st11 loop1)
  exact PpSet.codeAny_compStart_set loop (T.self X.A 0 _ _ _ st4 loop)
theorem pe_sc2 {elt tg iter tg1 iter1 : Expr} {ifs ifs1 : List Expr} {scope : Scope} {own : List (Str × Nat)} {vs1 : List Nat} {pos : Pos} {wi wi1 : TI} {g g1 : TG} {tt tt1 : TT} {te : TE} (hc : X.calm = true) (hN : X.N.Nodup) (hi : PI X tg iter wi) (ok : BlkOk X.N X.env.scope scope own) (hv : ∀ i ∈ vs1, i ∈ own.map (·.2))
    (hg : ∀ (s : Shared) (H : Hp) (C : Addr) (cl : List (Str × Addr)) (fp : List Addr), PG (X.blk s H scope (compEnvC scope cl C X.env) fp) tg g) (ht : ∀ (s : Shared) (H : Hp) (C : Addr) (cl : List (Str × Addr)) (fp : List Addr), PTs (X.blk s H scope (compEnvC scope cl C X.env) fp) ifs tt)
    (hi1 : ∀ (s : Shared) (H : Hp) (C : Addr) (cl : List (Str × Addr)) (fp : List Addr), PI (X.blk s H scope (compEnvC scope cl C X.env) fp) tg1 iter1 wi1)
    (hg1 : ∀ (s : Shared) (H : Hp) (C : Addr) (cl : List (Str × Addr)) (fp : List Addr), PG (X.blk s H scope (compEnvC scope cl C X.env) fp) tg1 g1) (ht1 : ∀ (s : Shared) (H : Hp) (C : Addr) (cl : List (Str × Addr)) (fp : List Addr), PTs (X.blk s H scope (compEnvC scope cl C X.env) fp) ifs1 tt1)
    (he : ∀ (s : Shared) (H : Hp) (C : Addr) (cl : List (Str × Addr)) (fp : List Addr), PE (X.blk s H scope (compEnvC scope cl C X.env) fp) elt te) (hs : ∀ x, foldedSetIterable iter X.env x = pure x := by intro _; rfl) (hs1 : ∀ env x, foldedSetIterable iter1 env x = pure x := by intro _ _; rfl) :
    PE X (.SetComp elt [⟨tg, iter, ifs, 0⟩, ⟨tg1, iter1, ifs1, 0⟩] scope pos) (tSc2 X.w wi g tt wi1 g1 tt1 te (own.map (·.2)) vs1) := by
  refine ⟨fun pins s σ H Q I h => ?_⟩
  rw [PpSet.eval_SetComp]
  refine sc2_core hc hN I hi ok hv hg ht he hs hi1 hg1 ht1 hs1 h fun D C s' m H' I' q hn f => ⟨m, hn, fun h'' sb => ?_⟩
  obtain ⟨f0, f1, f2, f3, f4, f5⟩ := f
  exact ⟨.ref D, H', I'.turned (t' := s'.toks) (fun b o hb e => (sb.2 b hb).trans e) f0 f1 f3 f4 f5, rfl, q⟩
end
end PD

/-! part S3 -/
set_option Elab.async false
set_option linter.all false
set_option maxRecDepth 100000
set_option maxHeartbeats 4000000
/-! sorted({text for .. in .. for .. in ..}) on data; own work -/
namespace PD
open PySem PySem.Spec PyProof.Rows L2

/-! ### sorted(a set of texts) -/
def strD (L : List Str) : List Dt := L.map .str
theorem alike_strs (L : List Str) : PySem.W.AllAlike (L.map PyData.str) := PySem.W.AllAlike.of fun _ _ => rfl
theorem each_keys : ∀ {vs : List Value}, (∀ v ∈ vs, ∃ x t, v = Value.str x t) → PySem.W.EachIs (fun (v : Value) (x : Str) => ∃ t, v = .str x t) vs (vs.map fun v => keyS (0, v))
  | [], _ => .nil
  | v :: vs, g => by
    obtain ⟨x, t, rfl⟩ := g v List.mem_cons_self
    exact .cons ⟨t, rfl⟩ (each_keys fun u hu => g u (List.mem_cons_of_mem _ hu))
theorem each_vals : ∀ {vs : List Value} {L : List Str}, PySem.W.EachIs (fun (v : Value) (x : Str) => ∃ t, v = .str x t) vs L → Vals (L.map V.str) vs
  | [], L, h => by cases h; exact .nil
  | v :: vs, L, h => by
    cases h with
    | cons h1 h2 => exact .cons h1 (each_vals h2)
theorem reps_strs {K : PySem.W.Frag} {U : Addr → Prop} {H : Hp} : ∀ (L : List Str), Reps K U H (L.map PyData.str) (L.map V.str)
  | [] => rfl
  | x :: L => reps_cons (show Rep K U H (.str x) (.str x) from rfl) (reps_strs L)
section
variable {X : Cx} {k : Nat}
def rSortSS (w : World) : List V → Hp → VK → Prop := fun xs H Q => ∃ (a : Addr) (L : List Str), xs = [.ref a] ∧ H a = some (SetSO w a L) ∧
  ∀ (L' : List Str) (p : Addr), L'.Perm L → H p = none → Q (.ref p) (upd H p (.lst ((L'.mergeSort (PySem.W.dataLe false PyData.str)).map V.str)))
theorem cr_sortSS (hc : X.calm = true) (hr : Room k X.A) : CallR X (.builtin "sorted") (rSortSS X.w) := by
  intro pins s σ H xs us Q I r ⟨a, L, e0, ha, q⟩
  subst e0
  have R := setSO_get I ha
  rw [Vals.ref1 r]
  obtain ⟨o, es, ep, t, ho, hex, hd, g, pmL, nd, hb, hf, hrs, hl⟩ := R
  refine Calls.call_function_entry kind_sorted plain_sorted entry_sorted (args_sorted1 _) ?_
  unfold Builtin.«sorted»
  refine wpAny_bind (m := checkCount "sorted" 1 1 _) (wpAny_pure ?_)
  refine wpAny_bind (collect_set (A := X.A.in1) (I.ok.hd hc) ⟨o, ho, hex.1, hd⟩ hf hb hrs hl fun s1 vs k1 hz g1 o1 pm => ?_)
  have hvs : ∀ v ∈ vs, ∃ x t, v = Value.str x t := fun v hv => by
    obtain ⟨e, he, q⟩ := List.mem_map.mp (pm.mem_iff.mp hv)
    obtain ⟨x, t, h1, _⟩ := g e he
    exact ⟨x, t, by rw [← q]; exact h1⟩
  have hlv : vs.length = es.size := by rw [pm.length_eq, List.length_map, Array.length_toList]
  have hsz : vs.length ≤ sizeLine := by rw [hlv]; exact fits_of_scanBound hb
  refine wpAny_bind (wpAny_newList ?_ hsz)
  have hoL : (s1.heap.push (seqObj "list" vs.toArray 0)).get? s1.heap.objs.size = some (seqObj "list" vs.toArray 0) := Heap.get?_push_size _ rfl
  have e1 := each_keys hvs
  have pk : (vs.map fun v => keyS (0, v)).Perm L := by
    have z := pm.map fun v => keyS (0, v)
    rw [List.map_map] at z
    have e : ((fun v => keyS (0, v)) ∘ fun x : Int × Value => x.2) = keyS := by funext e; rfl
    rw [e] at z
    exact z.trans pmL
  refine wpAny_bind (wpAny_holding (PySem.W.list_sort_data (enc := PyData.str) hoL e1 (e1.mono fun v x ⟨t, h⟩ => ⟨[], by rw [h]; exact .str _ _, by simp⟩) (alike_strs _) (PySem.W.Sortable.others fun b => ⟨(fun z => by cases z), (fun _ z => by cases z)⟩)
    (by rw [List.length_map]; exact hsz) (fun b _ => by
      have := hr.un
      show X.A.in1.units + 1 + 0 < cLine
      show X.A.units + 1 + 1 + 0 < cLine
      omega) fun out ho' eo => ?_))
  obtain ⟨c, hcs⟩ := sortedHeap_at (vs := vs) (out := List.toArray out) hoL
  have hp : H s1.heap.objs.size = none := I.hok.fresh hz
  have kk : ∀ b u, s.heap.get? b = some u → (sortedHeap (s1.heap.push (seqObj "list" vs.toArray 0)) s1.heap.objs.size vs (List.toArray out)).get? b = some u := fun b u e => by
    have q := k1 b u e
    have hlt := Heap.lt_size q
    rw [sortedHeap_old (Nat.ne_of_lt hlt) (by rw [size_push']; exact Nat.lt_succ_of_lt hlt)]
    exact Heap.get?_push_of_some _ q
  have hq := q _ s1.heap.objs.size pk hp
  have rv := each_vals eo
  have hlen : (((vs.map fun v => keyS (0, v)).mergeSort (PySem.W.dataLe false PyData.str)).map V.str).length ≤ sizeLine := by
    rw [List.length_map, List.length_mergeSort, List.length_map]
    exact hsz
  have J : Inv X pins σ (upd H s1.heap.objs.size (.lst (((vs.map fun v => keyS (0, v)).mergeSort (PySem.W.dataLe false PyData.str)).map V.str))) { s with heap := sortedHeap (s1.heap.push (seqObj "list" vs.toArray 0)) s1.heap.objs.size vs (List.toArray out), gens := s1.gens, drawn := s1.drawn, toks := s1.toks } :=
    I.call (ch := []) (Un.laid kk hz hp) (I.hok.laid kk hz ⟨hlen, out, c, rv, hcs⟩) (by rw [g1]; exact I.bare) (fun _ z => nomatch z)
  refine wpAny_pure ⟨_, rfl, ?_⟩
  have e : ({ s1 with heap := sortedHeap (s1.heap.push (seqObj "list" vs.toArray 0)) s1.heap.objs.size vs (List.toArray out) } : Shared) = { s with heap := sortedHeap (s1.heap.push (seqObj "list" vs.toArray 0)) s1.heap.objs.size vs (List.toArray out), gens := s1.gens, drawn := s1.drawn, toks := s1.toks } := by
    cases s1
    cases s
    cases o1
    rfl
  rw [e]
  exact ⟨.ref _, _, J, rfl, hq⟩
end

/-! one order: permutations sort alike -/
theorem str_ext {x y : Str} (h : x.cps.toList = y.cps.toList) : x = y := PySem.W.str_of_cps h
theorem sortStr_eq {L L' : List Str} (h : L'.Perm L) : L'.mergeSort (PySem.W.dataLe false PyData.str) = L.mergeSort (PySem.W.dataLe false PyData.str) := by
  have e : (PySem.W.dataLe false PyData.str : Str → Str → Bool) = fun a b => decide (a.cps.toList ≤ b.cps.toList) := PySem.W.dataLe_str (fun b => b)
  rw [e]
  have tr : ∀ a b c : Str, decide (a.cps.toList ≤ b.cps.toList) = true → decide (b.cps.toList ≤ c.cps.toList) = true → decide (a.cps.toList ≤ c.cps.toList) = true := fun a b c h1 h2 => by
    simp only [decide_eq_true_eq] at *
    exact List.le_trans h1 h2
  have to : ∀ a b : Str, (decide (a.cps.toList ≤ b.cps.toList) || decide (b.cps.toList ≤ a.cps.toList)) = true := fun a b => by
    simp only [Bool.or_eq_true, decide_eq_true_eq]
    exact List.le_total _ _
  have p := ((List.mergeSort_perm L' (fun a b : Str => decide (a.cps.toList ≤ b.cps.toList))).trans h).trans (List.mergeSort_perm L (fun a b : Str => decide (a.cps.toList ≤ b.cps.toList))).symm
  refine p.eq_of_pairwise (le := fun a b => decide (a.cps.toList ≤ b.cps.toList) = true) (fun a b _ _ h1 h2 => ?_) (List.pairwise_mergeSort tr to L') (List.pairwise_mergeSort tr to L)
  simp only [decide_eq_true_eq] at h1 h2
  exact str_ext (List.le_antisymm h1 h2)

/-! ### such a thing is no code object -/
theorem code_heap (D : Addr) (q : Str) : ∃ h : Heap, ∃ oc, h.get? D = some oc ∧ oc.data = .fields #[.none, .str q 0] := by
  have hs : ∀ n : Nat, ∃ h : Heap, h.objs.size = n := fun n => by
    induction n with
    | zero => exact ⟨{ objs := #[] }, rfl⟩
    | succ n ih =>
      obtain ⟨h, e⟩ := ih
      exact ⟨h.push { cls := .none, data := .fields #[] }, by rw [Heap.size_push, e]⟩
  obtain ⟨h, e⟩ := hs D
  refine ⟨h.push { cls := .none, data := .fields #[.none, .str q 0] }, { cls := .none, data := .fields #[.none, .str q 0] }, ?_, rfl⟩
  rw [← e]
  exact Heap.get?_push_size _ rfl
theorem ext_code {φ : Heap → Prop} {D : Addr} (h : ∀ hp oc vs, hp.get? D = some oc → oc.data = .fields vs → ¬ φ hp) (q : Str) : HO.ext φ ≠ LamX.CodeO D q := fun z => by
  unfold LamX.CodeO at z
  obtain ⟨hp, oc, e1, e2⟩ := code_heap D q
  have e3 := congrFun (HO.ext.inj z) hp
  refine h hp oc _ e1 e2 ?_
  rw [e3]
  exact ⟨oc, _, 0, e1, e2, rfl⟩
theorem setSO_code {w : World} {D : Addr} {L : List Str} (q : Str) : SetSO w D L ≠ LamX.CodeO D q := ext_code (fun hp oc vs e1 e2 ⟨o, es, ep, t, ho, _, hd, _⟩ => by
  rw [e1] at ho
  cases ho
  rw [e2] at hd
  cases hd) q

/-! ### the heap with a thing of one's own that is no list -/
section
variable {C : Fx} {U U' : Addr → Prop} {σ : L2.St} {ρ : En} {P P' : Pt} {H H' : Hp}
theorem Rel.growO {D : Addr} {o : HO} (R : Rel C U σ ρ P H) (hD : H D = none) (ho : ∀ ps, o ≠ .tbl ps) : Rel C (And1 U D) σ ρ P (upd H D o) where
  u0 := fun b h => .inl (R.u0 b h)
  d0 := R.d0
  p0 := R.p0
  dom := fun b u => by
    rcases u with u | u
    · exact (R.dom b u).ext (W := fun _ => False) (.of (same_upd hD)) fun z => z
    · subst u
      exact ⟨_, upd_same, ho⟩
  since := R.since.trans (.of (same_upd hD))
  tabs := fun p hp => (R.tabs p hp).same (same_upd hD)
  pot := fun p hp => same_upd hD _ _ (R.pot p hp)
  len := R.len
  sl := fun i => by
    have h := R.sl i
    revert h
    cases hρ : ρ[i]? with
    | none => exact fun _ => trivial
    | some dv =>
      cases dv with
      | un => exact fun _ => trivial
      | sh d => exact fun ⟨v, q, r⟩ => ⟨v, q, r.grow hD⟩
      | lk d => exact fun ⟨v, q, r⟩ => ⟨v, q, r.growC hD⟩
      | vw d => exact fun ⟨v, q, r⟩ => ⟨v, q, r.ext (W := fun _ => False) (.of (same_upd hD)) (fun _ z => z.elim) fun b hb z => z.elim id fun e => absurd (e ▸ hD) hb⟩
      | ow ds => exact fun ⟨a, xs, q, h, u, n, r⟩ => ⟨a, xs, q, same_upd hD _ _ h, .inl u, n, r.grow hD⟩
      | pt => exact fun h => h
  ap := R.ap
theorem Rel.pokeO {D : Addr} {φ : Heap → Prop} {o : HO} (R : Rel C U σ ρ P H) (hD : H D = some (.ext φ)) (hφ : ∀ q, HO.ext φ ≠ LamX.CodeO D q) (ho : ∀ ps, o ≠ .tbl ps) (u : U D) (n0 : C.H0 D = none) : Rel C U σ ρ P (upd H D o) where
  u0 := R.u0
  d0 := R.d0
  p0 := R.p0
  dom := fun b u => by
    by_cases hb : b = D
    · subst hb; exact ⟨_, upd_same, ho⟩
    · obtain ⟨o, h, t⟩ := R.dom b u
      exact ⟨o, by rw [upd_ne hb]; exact h, t⟩
  since := ⟨fun b o h n t => by
    rw [upd_ne (ne_of_none h n0)]
    exact R.since.keep b o h n t, fun b ps h => by
    rw [upd_ne (ne_of_none h n0)]
    exact R.since.tbl b ps h⟩
  tabs := fun p hp => (R.tabs p hp).keep (fun o h => by
    obtain ⟨ps, e⟩ := (R.tabs p hp).tbl
    rw [upd_ne (ne_of e hD fun z => by cases z)]; exact h) fun c q h => by rw [upd_ne fun z => by subst z; rw [hD] at h; exact hφ q (Option.some.inj h)]; exact h
  pot := fun p hp => by
    have h := R.pot p hp
    rw [upd_ne (ne_of h hD fun z => by cases z)]
    exact h
  len := R.len
  sl := fun i => by
    have e : Ext (fun b => b = D) H (upd H D o) := ⟨fun b o h n _ => by rw [upd_ne n]; exact h, fun b ps h => ⟨ps, by rw [upd_ne (ne_of h hD fun z => by cases z)]; exact h⟩⟩
    have hW : ∀ b, b = D → U b := fun b z => by subst z; exact u
    have h := R.sl i
    revert h
    cases hρ : ρ[i]? with
    | none => exact fun _ => trivial
    | some dv =>
      cases dv with
      | un => exact fun _ => trivial
      | sh d => exact fun ⟨v, q, r⟩ => ⟨v, q, r.keep e hW⟩
      | lk d => exact fun ⟨v, q, r⟩ => ⟨v, q, r.keep e fun b z => by subst z; exact .inl ⟨u, n0⟩⟩
      | vw d => exact fun ⟨v, q, r⟩ => ⟨v, q, r.keep e hW⟩
      | ow ds => exact fun ⟨a, zs, q, h, u', n, r⟩ => ⟨a, zs, q, by rw [upd_ne (ne_of h hD fun z => by cases z)]; exact h, u', n, r.keep e hW⟩
      | pt => exact fun h => h
  ap := R.ap
end

/-! ### the comprehension -/
/-- all elements, from the left -/
def comp2L (ρw : En) (tgt : Tgt) (test : Ev Bool) (it1 : Ev (List Dt)) (vs1 : List Nat) (tgt1 : Tgt) (test1 : Ev Bool) (elt : Ev Dt) : List Dt → Pt → Option (List Dt × Pt)
  | [], P => some ([], P)
  | d :: ds, P => match tgt d ρw with
    | none => none
    | some ρ1 => match test ρ1 P with
      | none => none
      | some (false, P1) => comp2L ρw tgt test it1 vs1 tgt1 test1 elt ds P1
      | some (true, P1) => match it1 ρ1 P1 with
        | none => none
        | some (es, P2) => match compL (wipeD ρ1 vs1) tgt1 test1 elt es P2 with
          | none => none
          | some (out, P3) => match comp2L ρw tgt test it1 vs1 tgt1 test1 elt ds P3 with
            | none => none
            | some (out', P4) => some (out ++ out', P4)
def setOfS (xs : List Str) : List Str := xs.foldl insS []
def eSortSet2 (own : List Nat) (it : Ev (List Dt)) (tgt : Tgt) (test : Ev Bool) (it1 : Ev (List Dt)) (vs1 : List Nat) (tgt1 : Tgt) (test1 : Ev Bool) (elt : Ev Dt) : Ev Dt := fun ρ P => match it ρ P with
  | none => none
  | some (ds, P1) => match comp2L (wipeD ρ own) tgt test it1 vs1 tgt1 test1 elt ds P1 with
    | none => none
    | some (out, P2) => match strsOf out with
      | none => none
      | some xs => if (setOfS xs).length + 1 < 4096 then some (.list (((setOfS xs).mergeSort (PySem.W.dataLe false PyData.str)).map .str), P2) else none
end PD

/-! part S4 -/
set_option Elab.async false
set_option linter.all false
set_option maxRecDepth 100000
set_option maxHeartbeats 4000000
/-! sorted({text for .. in .. for .. in ..}): the rule; own work -/
namespace PD
open PySem PySem.Spec PyProof.Rows L2

theorem strsOf_app : ∀ {a b : List Dt} {xs : List Str}, strsOf (a ++ b) = some xs → ∃ ys zs, strsOf a = some ys ∧ strsOf b = some zs ∧ xs = ys ++ zs
  | [], b, xs, h => ⟨[], xs, rfl, h, rfl⟩
  | d :: a, b, xs, h => by
    cases d with
    | str x =>
      cases q : strsOf (a ++ b) with
      | none => simp [strsOf, q] at h
      | some ws =>
        simp [strsOf, q] at h
        subst h
        obtain ⟨ys, zs, h1, h2, h3⟩ := strsOf_app q
        exact ⟨x :: ys, zs, by simp [strsOf, h1], h2, by rw [h3]; rfl⟩
    | _ => simp [strsOf] at h
theorem insS_len (L : List Str) (x : Str) : L.length ≤ (insS L x).length := by
  unfold insS
  split
  · exact Nat.le_refl _
  · simp
theorem fold_len : ∀ (xs : List Str) (L : List Str), L.length ≤ (xs.foldl insS L).length
  | [], _ => Nat.le_refl _
  | x :: xs, L => Nat.le_trans (insS_len L x) (fold_len xs (insS L x))
theorem drop_at {α : Type} {ds : List α} {i : Nat} {d : α} (h : ds[i]? = some d) : ds.drop i = d :: ds.drop (i + 1) := by
  obtain ⟨hl, e⟩ := List.getElem?_eq_some_iff.mp h
  rw [List.drop_eq_getElem_cons hl, e]
section
variable {X : Cx} {C : Fx} {e : Expr} {k : Nat} {m1 m2 m3 : Bool}
theorem pd_sortSet2 {own vs1 : List Nat} {it it1 : Ev (List Dt)} {tgt tgt1 : Tgt} {test test1 : Ev Bool} {elt : Ev Dt} (h : PE X e (tCB (rSortSS X.w) (tCons (tSc2 X.w (tI false m1 C it) (tG m1 C own tgt) (tT C test) (tI true m2 C it1) (tG m2 C vs1 tgt1) (tT C test1) (tDm m3 C elt) own vs1) tNil))) :
    PE X e (tD C (eSortSet2 own it tgt test it1 vs1 tgt1 test1 elt)) := by
  refine pe_weak h fun σ H Q ⟨U, ρ, P, d, P2, R, q, k⟩ => ?_
  unfold eSortSet2 at q
  cases q1 : it ρ P with
  | none => rw [q1] at q; cases q
  | some x =>
    obtain ⟨ds, P1⟩ := x
    rw [q1] at q
    dsimp only at q
    cases q2 : comp2L (wipeD ρ own) tgt test it1 vs1 tgt1 test1 elt ds P1 with
    | none => rw [q2] at q; cases q
    | some y =>
      obtain ⟨out, P3⟩ := y
      rw [q2] at q
      dsimp only at q
      cases q3 : strsOf out with
      | none => rw [q3] at q; cases q
      | some xs =>
        rw [q3] at q
        obtain ⟨hlen, e4⟩ := ite_some q
        cases e4
        refine ⟨U, ρ, P, ds, P1, R, q1, fun J H1 e1 R1 Y D hD => ?_⟩
        obtain ⟨nWD, n0D⟩ := newD R1 hD
        have notT : ∀ L, ∀ ps, SetSO X.w D L ≠ .tbl ps := fun L ps z => by cases z
        have room : ∀ L (ys : List Str), ys.foldl insS L = setOfS xs → L.length + 1 < scanBound := fun L ys hy => by
          have := fold_len ys L
          rw [hy] at this
          show L.length + 1 < 4096
          omega
        refine ⟨fun i m H => m = ds.length - i ∧ i ≤ ds.length ∧ ∃ out' xs' L Pi, comp2L (wipeD ρ own) tgt test it1 vs1 tgt1 test1 elt (ds.drop i) Pi = some (out', P2) ∧ strsOf out' = some xs' ∧ xs'.foldl insS L = setOfS xs ∧ H D = some (SetSO X.w D L) ∧
            Rel C (And1 U D) (wipe σ own) (wipeD ρ own) Pi H ∧ Ext C.W H1 H,
          ⟨ds.length, by simp, Nat.zero_le _, out, xs, [], P1, by simpa using q2, q3, rfl, upd_same, (R1.growO hD (notT [])).wipe own, .of (same_upd hD)⟩, ?_⟩
        rintro i m H2 ⟨rfl, hi, out', xs', L, Pi, qc, qs, hf, hDa, R2, E⟩
        by_cases hlt : i < ds.length
        · refine .inr ⟨Y.go H2 E i hlt, fun H' => (∃ out' xs' L Pi, comp2L (wipeD ρ own) tgt test it1 vs1 tgt1 test1 elt (ds.drop (i + 1)) Pi = some (out', P2) ∧ strsOf out' = some xs' ∧ xs'.foldl insS L = setOfS xs ∧ H' D = some (SetSO X.w D L) ∧
              Rel C (And1 U D) (wipe σ own) (wipeD ρ own) Pi H' ∧ Ext C.W H1 H'), fun H' nx => ⟨ds.length - (i + 1), by omega, rfl, hlt, nx⟩, fun x H' y => ?_⟩
          obtain ⟨d, hd⟩ : ∃ d, ds[i]? = some d := ⟨ds[i], by simp [hlt]⟩
          obtain ⟨sm, rx⟩ := Y.yld H2 E (And1 U D) R2.dm (fun b z => z.elim .inl fun e => .inr (by rw [e]; exact hD)) i x H' d y hd
          rw [drop_at hd] at qc
          simp only [comp2L] at qc
          have R3 := R2.same sm
          have E3 := E.trans (.of sm)
          cases qt : tgt d (wipeD ρ own) with
          | none => rw [qt] at qc; cases qc
          | some ρ1 =>
            rw [qt] at qc
            dsimp only at qc
            refine ⟨And1 U D, wipeD ρ own, Pi, d, ρ1, R3, rx, qt, fun σ2 R4 hw => ⟨hw.trans (wipe_wipe σ own), ?_⟩⟩
            have keepD : ∀ {Ha Hb : Hp} {o : HO}, Ext C.W Ha Hb → Ha D = some o → (∀ ps, o ≠ .tbl ps) → Hb D = some o := fun {Ha Hb o} e h t => e.keep D _ h nWD t
            cases qb : test ρ1 Pi with
            | none => rw [qb] at qc; cases qc
            | some z =>
              obtain ⟨b, Pb⟩ := z
              rw [qb] at qc
              refine ⟨And1 U D, ρ1, Pi, b, Pb, R4, qb, fun H3 e3 R5 => ?_⟩
              have hD3 := keepD e3 (sm _ _ hDa) (notT L)
              have Ro3 : Rel C (And1 U D) (wipe σ own) (wipeD ρ own) Pb H3 := R3.step e3 R5.tabs R5.pot
              cases b with
              | false =>
                dsimp only at qc
                simp only [Bool.false_eq_true, if_false]
                exact ⟨out', xs', L, Pb, qc, qs, hf, hD3, Ro3, E3.trans e3⟩
              | true =>
                dsimp only at qc
                simp only [if_true]
                cases qi : it1 ρ1 Pb with
                | none => rw [qi] at qc; cases qc
                | some z =>
                  obtain ⟨es, Pc⟩ := z
                  rw [qi] at qc
                  dsimp only at qc
                  cases qo : compL (wipeD ρ1 vs1) tgt1 test1 elt es Pc with
                  | none => rw [qo] at qc; cases qc
                  | some z =>
                    obtain ⟨out1, Pd⟩ := z
                    rw [qo] at qc
                    dsimp only at qc
                    cases qn : comp2L (wipeD ρ own) tgt test it1 vs1 tgt1 test1 elt (ds.drop (i + 1)) Pd with
                    | none => rw [qn] at qc; cases qc
                    | some z =>
                      obtain ⟨out2, Pe⟩ := z
                      rw [qn] at qc
                      cases qc
                      obtain ⟨ys, zs, hy, hz, exy⟩ := strsOf_app qs
                      subst exy
                      refine ⟨And1 U D, ρ1, Pb, es, Pc, R5, qi, fun J1 H4 e4 R6 Y1 => ?_⟩
                      have hD4 := keepD e4 hD3 (notT L)
                      have Ro4 : Rel C (And1 U D) (wipe σ own) (wipeD ρ own) Pc H4 := Ro3.step e4 R6.tabs R6.pot
                      have E4 := (E3.trans e3).trans e4
                      -- what was seen at H4 is still seen while D alone and what the pot is changes
                      refine ⟨fun j m H => m = es.length - j ∧ j ≤ es.length ∧ ∃ o1 ys1 L1 Pj, compL (wipeD ρ1 vs1) tgt1 test1 elt (es.drop j) Pj = some (o1, Pd) ∧ strsOf o1 = some ys1 ∧ (ys1 ++ zs).foldl insS L1 = setOfS xs ∧ H D = some (SetSO X.w D L1) ∧
                          Rel C (And1 U D) (wipe σ2 vs1) (wipeD ρ1 vs1) Pj H ∧ Rel C (And1 U D) (wipe σ own) (wipeD ρ own) Pj H ∧ Ext C.W H1 H ∧ Ext (Chg C (And1 U D)) H4 H,
                        ⟨es.length, by simp, Nat.zero_le _, out1, ys, L, Pc, by simpa using qo, hy, hf, hD4, R6.wipe vs1, Ro4, E4, .refl⟩, ?_⟩
                      rintro j m H5 ⟨rfl, hj, o1, ys1, L1, Pj, qc1, qs1, hf1, hDj, Rj, Roj, Ej, Fj⟩
                      by_cases hlj : j < es.length
                      · refine .inr ⟨Y1.go H5 Fj j hlj, fun H' => (∃ o1 ys1 L1 Pj, compL (wipeD ρ1 vs1) tgt1 test1 elt (es.drop (j + 1)) Pj = some (o1, Pd) ∧ strsOf o1 = some ys1 ∧ (ys1 ++ zs).foldl insS L1 = setOfS xs ∧ H' D = some (SetSO X.w D L1) ∧
                            Rel C (And1 U D) (wipe σ2 vs1) (wipeD ρ1 vs1) Pj H' ∧ Rel C (And1 U D) (wipe σ own) (wipeD ρ own) Pj H' ∧ Ext C.W H1 H' ∧ Ext (Chg C (And1 U D)) H4 H'), fun H' nx => ⟨es.length - (j + 1), by omega, rfl, hlj, nx⟩, fun x1 H6 y1 => ?_⟩
                        obtain ⟨d1, hd1⟩ : ∃ d, es[j]? = some d := ⟨es[j], by simp [hlj]⟩
                        obtain ⟨sm1, rx1⟩ := Y1.yld H5 Fj (And1 U D) Rj.dm (fun b z => .inl z) j x1 H6 d1 y1 hd1
                        rw [drop_at hd1] at qc1
                        simp only [compL] at qc1
                        have R7 := Rj.same sm1
                        have Ro7 := Roj.same sm1
                        have E7 := Ej.trans (.of sm1)
                        have F7 : Ext (Chg C (And1 U D)) H4 H6 := Fj.trans (.of sm1)
                        have hD7 := sm1 _ _ hDj
                        cases qt1 : tgt1 d1 (wipeD ρ1 vs1) with
                        | none => rw [qt1] at qc1; cases qc1
                        | some ρ2 =>
                          rw [qt1] at qc1
                          dsimp only at qc1
                          refine ⟨And1 U D, wipeD ρ1 vs1, Pj, d1, ρ2, R7, rx1, qt1, fun σ3 R8 hw1 => ⟨hw1.trans (wipe_wipe σ2 vs1), ?_⟩⟩
                          cases qb1 : test1 ρ2 Pj with
                          | none => rw [qb1] at qc1; cases qc1
                          | some z =>
                            obtain ⟨b1, Pk⟩ := z
                            rw [qb1] at qc1
                            refine ⟨And1 U D, ρ2, Pj, b1, Pk, R8, qb1, fun H8 e8 R9 => ?_⟩
                            have hD8 := keepD e8 hD7 (notT L1)
                            have Ro8 : Rel C (And1 U D) (wipe σ own) (wipeD ρ own) Pk H8 := Ro7.step e8 R9.tabs R9.pot
                            have Rj8 : Rel C (And1 U D) (wipe σ2 vs1) (wipeD ρ1 vs1) Pk H8 := R7.step e8 R9.tabs R9.pot
                            have E8 := E7.trans e8
                            have F8 : Ext (Chg C (And1 U D)) H4 H8 := F7.trans (e8.mono fun b z => .inr z)
                            cases b1 with
                            | false =>
                              dsimp only at qc1
                              simp only [Bool.false_eq_true, if_false]
                              exact ⟨o1, ys1, L1, Pk, qc1, qs1, hf1, hD8, Rj8, Ro8, E8, F8⟩
                            | true =>
                              dsimp only at qc1
                              simp only [if_true]
                              cases qe1 : elt ρ2 Pk with
                              | none => rw [qe1] at qc1; cases qc1
                              | some z =>
                                obtain ⟨yd, Pl⟩ := z
                                rw [qe1] at qc1
                                dsimp only at qc1
                                cases qn1 : compL (wipeD ρ1 vs1) tgt1 test1 elt (es.drop (j + 1)) Pl with
                                | none => rw [qn1] at qc1; cases qc1
                                | some z =>
                                  obtain ⟨o2, Pm⟩ := z
                                  rw [qn1] at qc1
                                  cases qc1
                                  refine ⟨And1 U D, ρ2, Pk, yd, Pl, R9, qe1, fun v H9 e9 R10 r10 => ?_⟩
                                  cases yd with
                                  | str c =>
                                    cases qs2 : strsOf o2 with
                                    | none => simp [strsOf, qs2] at qs1
                                    | some ys2 =>
                                      simp [strsOf, qs2] at qs1
                                      subst qs1
                                      have hD9 := keepD e9 hD8 (notT L1)
                                      have Ro9 : Rel C (And1 U D) (wipe σ own) (wipeD ρ own) Pl H9 := Ro8.step e9 R10.tabs R10.pot
                                      have Rj9 : Rel C (And1 U D) (wipe σ2 vs1) (wipeD ρ1 vs1) Pl H9 := Rj8.step e9 R10.tabs R10.pot
                                      have E9 := E8.trans e9
                                      have F9 : Ext (Chg C (And1 U D)) H4 H9 := F8.trans (e9.mono fun b z => .inr z)
                                      refine ⟨c, L1, r10, hD9, room L1 _ hf1, o2, ys2, insS L1 c, Pl, qn1, qs2, hf1, upd_same, Rj9.pokeO hD9 setSO_code (notT _) (.inr rfl) n0D, Ro9.pokeO hD9 setSO_code (notT _) (.inr rfl) n0D, ?_, ?_⟩
                                      · exact ⟨fun b o h n t => by rw [upd_ne (ne_of_none h hD)]; exact E9.keep b o h n t, fun b ps h => by rw [upd_ne (ne_of_none h hD)]; exact E9.tbl b ps h⟩
                                      · refine F9.trans ⟨fun b o h n t => by rw [upd_ne fun z => n (.inl ⟨.inr z, by rw [z]; exact n0D⟩)]; exact h, fun b ps h => ⟨ps, by rw [upd_ne (ne_of h hD9 fun z => by cases z)]; exact h⟩⟩
                                  | _ => simp [strsOf] at qs1
                      · have ej : j = es.length := by omega
                        subst ej
                        refine .inl ⟨Y1.stop H5 Fj _ (Nat.le_refl _), ?_⟩
                        rw [List.drop_of_length_le (Nat.le_refl _)] at qc1
                        cases qc1
                        cases qs1
                        exact ⟨out2, zs, L1, Pd, qn, hz, hf1, hDj, Roj, Ej⟩
        · have ei : i = ds.length := by omega
          subst ei
          refine .inl ⟨Y.stop H2 E _ (Nat.le_refl _), ?_⟩
          rw [List.drop_of_length_le (Nat.le_refl _)] at qc
          cases qc
          cases qs
          have R3 := R1.step E R2.tabs R2.pot
          refine ⟨D, L, rfl, hDa, fun L' p hp hn => ?_⟩
          have sm := same_upd (o := .lst ((L'.mergeSort (PySem.W.dataLe false PyData.str)).map V.str)) hn
          have hL : L = setOfS xs := hf
          subst hL
          rw [sortStr_eq hp] at sm ⊢
          refine k _ _ (e1.trans (E.trans (.of sm))) (R3.same sm) (rep_newL R3.dom hn (reps_strs _))
end
end PD

/-! part S5 -/
set_option Elab.async false
set_option linter.all false
set_option maxRecDepth 100000
set_option maxHeartbeats 4000000
/-! sorted(xs, key=f), the keys any data, also lists: over the abstract heap; own work -/
namespace PD
open PySem PySem.Spec PyProof.Rows L2

/-- the very object at a -/
def eqO (a : Addr) (o : Obj) : HO := .ext fun h => h.get? a = some o
theorem eqO_new {P : Program} {w : World} {H : Hp} {h : Heap} {a : Addr} {o : Obj} (e : h.get? a = some o) : ObjOk P w H h a (eqO a o) := ⟨e, ⟨o, e⟩, fun h1 h2 e1 k => k o e1⟩
theorem eqO_get {X : Cx} {pins : List (Addr × Obj)} {σ : L2.St} {H : Hp} {s : Shared} {a : Addr} {o : Obj} (I : Inv X pins σ H s) (ha : H a = some (eqO a o)) : s.heap.get? a = some o := (I.hok a _ ha).1
theorem eqO_ne {a : Addr} {o : Obj} (ps : Array Value) : eqO a o ≠ .tbl ps := fun z => by unfold eqO at z; cases z
theorem eqO_code {a : Addr} {o : Obj} (h : ∀ vs, o.data ≠ .fields vs) (q : Str) : eqO a o ≠ LamX.CodeO a q := ext_code (fun hp oc vs e1 e2 e3 => by
  have e3 : hp.get? a = some o := e3
  rw [e1] at e3
  cases e3
  exact h vs e2) q
def sortBy (kz ds : List Dt) : List Dt := ((ds.zip kz).mergeSort (PySem.W.dataLe false Prod.snd)).map Prod.fst
theorem each3_of {K : PySem.W.Frag} {U : Addr → Prop} {H : Hp} : ∀ {ds kz : List Dt} {xs : List V} {us : List Value}, kz.length = ds.length → Reps K U H ds xs → Vals xs us → PySem.W.EachIs (fun u (b : (V × Dt) × Dt) => RelV b.1.1 u ∧ Rep K U H b.1.2 b.1.1) us ((xs.zip ds).zip kz) ∧
    ((xs.zip ds).zip kz).map Prod.snd = kz ∧ ((xs.zip ds).zip kz).map (fun b => (b.1.2, b.2)) = ds.zip kz
  | [], kz, xs, us, hl, r, h => by
    cases (show xs = [] from r)
    cases h
    cases kz with
    | nil => exact ⟨.nil, rfl, rfl⟩
    | cons a b => simp at hl
  | d :: ds, kz, _, us, hl, ⟨x, t, e, r1, r2⟩, h => by
    subst e
    cases kz with
    | nil => simp at hl
    | cons k kz =>
      cases h with
      | cons h1 h2 =>
        obtain ⟨q1, q2, q3⟩ := each3_of (kz := kz) (by simpa using hl) r2 h2
        refine ⟨.cons ⟨h1, r1⟩ q1, ?_, ?_⟩
        · show k :: ((t.zip ds).zip kz).map Prod.snd = k :: kz
          rw [q2]
        · show (d, k) :: ((t.zip ds).zip kz).map (fun b => (b.1.2, b.2)) = (d, k) :: ds.zip kz
          rw [q3]
theorem each3_back {K : PySem.W.Frag} {U : Addr → Prop} {H : Hp} : ∀ {zs : List ((V × Dt) × Dt)} {us : List Value}, PySem.W.EachIs (fun u (b : (V × Dt) × Dt) => RelV b.1.1 u ∧ Rep K U H b.1.2 b.1.1) us zs → Vals (zs.map fun b => b.1.1) us ∧ Reps K U H (zs.map fun b => b.1.2) (zs.map fun b => b.1.1)
  | [], us, h => by cases h; exact ⟨.nil, rfl⟩
  | z :: zs, _, h => by
    cases h with
    | cons h1 h2 =>
      obtain ⟨q1, q2⟩ := each3_back h2
      exact ⟨.cons h1.1 q1, reps_cons h1.2 q2⟩
theorem reads_each {X : Cx} {K : PySem.W.Frag} {U : Addr → Prop} {pins : List (Addr × Obj)} {σ : L2.St} {H : Hp} {s : Shared} (I : Inv X pins σ H s) (hK : X.K = K) : ∀ {ds : List Dt} {xs : List V} {us : List Value}, Reps K U H ds xs → Vals xs us → PySem.W.EachIs (fun v d => ∃ as, Reads s.heap v d as) us ds
  | [], xs, us, r, h => by
    cases (show xs = [] from r)
    cases h
    exact .nil
  | d :: ds, _, us, ⟨x, t, e, r1, r2⟩, h => by
    subst e
    cases h with
    | cons h1 h2 =>
      refine .cons (Rep.reads I.hok (by rw [← hK]; exact I.kIn) r1 h1) (reads_each I hK r2 h2)
theorem vals_snoc : ∀ {xs : List V} {us : List Value} {x : V} {u : Value}, Vals xs us → RelV x u → Vals (xs ++ [x]) (us ++ [u])
  | [], _, _, _, .nil, r => .cons r .nil
  | _ :: _, _, _, _, .cons h t, r => .cons h (vals_snoc t r)
theorem vals_at : ∀ {xs : List V} {us : List Value} {i : Nat} {u : Value}, Vals xs us → us[i]? = some u → ∃ x, xs[i]? = some x ∧ RelV x u
  | _, _, _, _, .nil, e => by simp at e
  | _, _, 0, _, .cons h t, e => by simp at e; subst e; exact ⟨_, rfl, h⟩
  | _, _, i + 1, _, .cons h t, e => by
    obtain ⟨x, h1, h2⟩ := vals_at t (i := i) (by simpa using e)
    exact ⟨x, by simpa using h1, h2⟩

section
variable {X : Cx} {C : Fx} {U : Addr → Prop} {σ : L2.St} {ρ : En} {P : Pt} {H : Hp} {k : Nat} {pins : List (Addr × Obj)} {s : Shared}
theorem sortKey_run {m : Bool} {a f : Addr} {xs : List V} {ds kz : List Dt} {Q : VK} (hr : Room k X.A) (hK : X.K = C.K) (I : Inv X pins σ H s) (R : Rel C U σ ρ P H) (sq : SqL X.K H a xs) (rr : Reps C.K (Um m C U) H ds xs) (hkz : kz.length = ds.length) (hok : sortOk kz = true)
    (hkey : ∀ (s1 : Shared) (H1 : Hp) (U1 : Addr → Prop), Inv X pins σ H1 s1 → Ext (fun _ => False) H H1 → Rel C U1 σ ρ P H1 → ∀ (i : Nat) (v : V) (u : Value) (d kd : Dt), ds[i]? = some d → kz[i]? = some kd → Rep C.K (Um m C U1) H1 d v → RelV v u →
      wpAny (model X.prog X.w) X.A.in1.in1 (call (.ref f) [u]) (EP X pins σ fun v' H2 => Ext (fun _ => False) H1 H2 ∧ Tabs C.T H2 ∧ Rep C.K (Um m C U1) H2 kd v') (fun _ _ => False) s1)
    (q : ∀ p H', Ext (fun _ => False) H H' → Rel C U σ ρ P H' → Rep C.K (Um m C U) H' (.list (sortBy kz ds)) (.ref p) → Q (.ref p) H') :
    wpAny (model X.prog X.w) X.A (call (.builtin "sorted") [.ref a] [(Str.ofString "key", .ref f)]) (EP X pins σ Q) X.xe s := by
  obtain ⟨h1, h2, h3⟩ := sortOk_of hok
  obtain ⟨its, rv, pl, hsz⟩ := I.list sq
  have hlen := rv.length
  have hlx := rr.length
  have hits : its.length = ds.length := by omega
  refine PySem.W.sorted_of_sort (vs := its) pl.isList (by omega) (PyProof.Rows.ksk_s1 _ _) (fun _ => PyProof.Rows.ksk_l1 _ _) fun E' => ?_
  rw [PyProof.Rows.ksk_t1]
  -- the list's copy
  generalize hA : s.heap.objs.size + 1 = A0
  have hoA : (PySem.W.copyHeap s.heap its).get? A0 = some (seqObj "list" its.toArray 0) := by rw [← hA]; exact PySem.W.copyHeap_at s.heap its
  have kp0 : ∀ b u, s.heap.get? b = some u → (PySem.W.copyHeap s.heap its).get? b = some u := fun b u e => PySem.W.copyHeap_old e
  generalize PySem.W.copyHeap s.heap its = g0 at hoA kp0
  have ha0 : A0 < g0.objs.size := Heap.lt_size hoA
  obtain ⟨e1, ho1⟩ : ∃ e1, (g0.update A0 (Obj.mapSeq fun _ => (#[] : Array Value))).get? A0 = some (seqObj "list" #[] e1) := ⟨_, get?_update_seq hoA fun _ => #[]⟩
  unfold PyProof.Rows.ksk_tree
  refine wpAny_bind (listItems_at hoA rfl ?_)
  refine wpAny_bind (listUpdate_at hoA rfl ?_ (by rw [List.size_toArray]; omega) (Nat.zero_le _))
  refine wpAny_bind (seqEpoch_at ho1 rfl ?_)
  refine wpAny_bind (wpAny_newTuple ?_ (by show its.length ≤ _; omega))
  refine wpAny_bind (wpAny_newList ?_ (Nat.zero_le _))
  refine wpAny_holding ?_
  generalize hkS : ((g0.update A0 (Obj.mapSeq fun _ => (#[] : Array Value))).push (seqObj "tuple" its.toArray 0)).objs.size = kS
  have hkS' : kS = g0.objs.size + 1 := by rw [← hkS, size_push', Heap.size_update]
  have nAk : kS ≠ A0 := by omega
  have lts : ∀ b o, s.heap.get? b = some o → b ≠ A0 ∧ b ≠ kS := fun b o e => by
    have l := Heap.lt_size e
    have l2 := Heap.lt_size (kp0 b o e)
    exact ⟨by rw [← hA]; exact Nat.ne_of_lt (Nat.lt_succ_of_lt l), by rw [hkS']; exact Nat.ne_of_lt (Nat.lt_succ_of_lt l2)⟩
  show wpAny _ _ (PyProof.Rows.ksk_rest A0 (.ref f) false its.toArray e1 (.ref kS)) _ _ { s with heap := ((g0.update A0 (Obj.mapSeq fun _ => (#[] : Array Value))).push (seqObj "tuple" its.toArray 0)).push (seqObj "list" #[] 0) }
  generalize hgL : ((g0.update A0 (Obj.mapSeq fun _ => (#[] : Array Value))).push (seqObj "tuple" its.toArray 0)).push (seqObj "list" #[] 0) = gL
  have kpL : ∀ b u, s.heap.get? b = some u → gL.get? b = some u := fun b u e => by
    rw [← hgL]
    refine Heap.get?_push_of_some _ (Heap.get?_push_of_some _ ?_)
    rw [Heap.get?_update_ne _ _ _ _ (lts b u e).1]
    exact kp0 b u e
  have atA : gL.get? A0 = some (seqObj "list" #[] e1) := by rw [← hgL]; exact Heap.get?_push_of_some _ (Heap.get?_push_of_some _ ho1)
  have atK : gL.get? kS = some (seqObj "list" #[] 0) := by rw [← hgL, ← hkS]; exact Heap.get?_push_size _ rfl
  have nA : H A0 = none := I.hok.fresh (by omega)
  have nK : H kS = none := I.hok.fresh (by have := Heap.lt_size hoA; rw [hkS']; omega)
  have nK1 : upd H A0 (eqO A0 (seqObj "list" #[] e1)) kS = none := by rw [upd_ne nAk]; exact nK
  have R1 : Rel C (And1 (And1 U A0) kS) σ ρ P (upd (upd H A0 (eqO A0 (seqObj "list" #[] e1))) kS (eqO kS (seqObj "list" #[] 0))) := (R.growO nA eqO_ne).growO nK1 eqO_ne
  have E1 : Ext (fun _ => False) H (upd (upd H A0 (eqO A0 (seqObj "list" #[] e1))) kS (eqO kS (seqObj "list" #[] 0))) := (Ext.of (same_upd nA)).trans (.of (same_upd nK1))
  have I1 : Inv X pins σ (upd (upd H A0 (eqO A0 (seqObj "list" #[] e1))) kS (eqO kS (seqObj "list" #[] 0))) { s with heap := gL } := by
    refine I.un (t' := s.toks) ⟨fun b u q _ _ _ => kpL b u q, fun b u q _ _ _ => ⟨u.slots, kpL b u q⟩, fun b u q n _ => ?_, fun b u q _ => ⟨u, kpL b u q⟩, fun b ys q => ?_, fun b u ys q => ?_, fun b ps q => ⟨#[], ?_⟩⟩ ((I.hok.laidN kpL nA (eqO_new atA)).laidN (fun _ _ e => e) nK1 (eqO_new atK))
    · rw [upd_ne (lts b u q).2, upd_ne (lts b u q).1]; exact n
    · rw [upd_ne (ne_of_none q nK), upd_ne (ne_of_none q nA)]; exact q
    · rw [upd_ne (ne_of_none q nK), upd_ne (ne_of_none q nA)]; exact q
    · rw [upd_ne (ne_of_none q nK), upd_ne (ne_of_none q nA)]; simpa using q
  have a1 : upd (upd H A0 (eqO A0 (seqObj "list" #[] e1))) kS (eqO kS (seqObj "list" #[] 0)) A0 = some (eqO A0 (seqObj "list" #[] e1)) := by rw [upd_ne (Ne.symm nAk), upd_same]
  generalize hH1 : upd (upd H A0 (eqO A0 (seqObj "list" #[] e1))) kS (eqO kS (seqObj "list" #[] 0)) = H1 at R1 E1 I1 a1
  have k1 : H1 kS = some (eqO kS (seqObj "list" #[] 0)) := by rw [← hH1]; exact upd_same
  have nA0 : C.H0 A0 = none := R.since.none nA fun z => by have := R.pot A0 z; rw [nA] at this; cases this
  have nK0 : C.H0 kS = none := R.since.none nK fun z => by have := R.pot kS z; rw [nK] at this; cases this
  have uK : And1 (And1 U A0) kS kS := .inr rfl
  unfold PyProof.Rows.ksk_rest
  refine wpAny_bind (wpAny_rule ?_)
  first
    | rw [List.forIn_toArray]
    | (rw [← Array.forIn_toList]; simp only [List.toList_toArray])
    | rw [← Array.forIn_toList]
  refine wpAny_bind (PyProof.Rows.ksk_fold (fun i s' => ∃ Hi kA e kvs, Inv X pins σ Hi s' ∧ Rel C (And1 (And1 U A0) kS) σ ρ P Hi ∧ Hi A0 = some (eqO A0 (seqObj "list" #[] e1)) ∧ Hi kS = some (eqO kS (seqObj "list" kA e)) ∧ Vals kvs kA.toList ∧
      Reps C.K (Um m C (And1 (And1 U A0) kS)) Hi (kz.take i) kvs ∧ Ext (fun _ => False) H Hi) its 0 _
    ⟨H1, #[], 0, [], I1, R1, a1, k1, .nil, by rw [List.take_zero]; exact reps_nil, E1⟩ ?step ?done)
  case step =>
    rintro j x s' hx ⟨Hi, kA, e, kvs, Ii, Ri, ai, ki, vi, ri, Ei⟩
    simp only [Nat.zero_add] at ri ⊢
    have hj : j < its.length := (List.getElem?_eq_some_iff.mp hx).1
    obtain ⟨kd, hkj⟩ : ∃ kd, kz[j]? = some kd := ⟨_, List.getElem?_eq_getElem (by omega)⟩
    obtain ⟨v, hv, rvx⟩ := vals_at rv hx
    obtain ⟨d, hd, rd⟩ := rr.at' hv
    have rd' : Rep C.K (Um m C (And1 (And1 U A0) kS)) Hi d v := rd.ext Ei (fun _ z => z.elim) (um_sub fun b z => by
      rcases z with (z | z) | z
      · exact .inl z
      · rw [z]; exact .inr nA
      · rw [z]; exact .inr nK)
    refine wpAny_bind (wpAny_attempt (wpAny_mono (hkey s' Hi _ Ii Ei Ri j v x d kd hd hkj rd' rvx) (fun u s'' he => ?_) fun _ _ hF => hF.elim))
    obtain ⟨v', H2, I2, r2, E2, T2, rk⟩ := he
    try dsimp only
    have k2 : H2 kS = some (eqO kS (seqObj "list" kA e)) := E2.keep _ _ ki (fun z => z) eqO_ne
    have a2 : H2 A0 = some (eqO A0 (seqObj "list" #[] e1)) := E2.keep _ _ ai (fun z => z) eqO_ne
    have g2 := eqO_get I2 k2
    have hkA : kA.size ≤ its.length := by
      have z1 : kvs.length = kA.toList.length := vi.length
      have z2 : kvs.length = (kz.take j).length := ri.length
      rw [List.length_take] at z2
      rw [Array.length_toList (xs := kA)] at z1
      rw [← z1, z2]
      exact Nat.le_trans (Nat.min_le_left _ _) (Nat.le_of_lt hj)
    have hks : kA.size ≤ sizeLine := Nat.le_trans hkA (by rw [← hlen]; exact hsz)
    have sb := Heap.SameBut.update s''.heap kS (Obj.mapSeq (·.push u))
    obtain ⟨c2, hc2⟩ : ∃ c2, (s''.heap.update kS (Obj.mapSeq (·.push u))).get? kS = some (seqObj "list" (kA.push u) c2) := ⟨_, get?_update_seq g2 (·.push u)⟩
    refine wpAny_bind (listUpdate_at g2 rfl ?_ hks (Nat.le_trans (Nat.le_of_eq (Array.size_push ..)) (Nat.succ_le_succ hks)))
    have R2 : Rel C (And1 (And1 U A0) kS) σ ρ P H2 := Ri.step (ext_false E2) T2 fun p hp => E2.keep _ _ (Ri.pot p hp) (fun z => z) fun _ z => by cases z
    have R3 : Rel C (And1 (And1 U A0) kS) σ ρ P (upd H2 kS (eqO kS (seqObj "list" (kA.push u) c2))) := R2.pokeO k2 (eqO_code fun vs z => by cases z) eqO_ne uK nK0
    have I3 : Inv X pins σ (upd H2 kS (eqO kS (seqObj "list" (kA.push u) c2))) { s'' with heap := s''.heap.update kS (Obj.mapSeq (·.push u)) } :=
      I2.write (x := kS) (e := kS) (t' := s''.toks) (by rw [k2]; trivial) (.inl rfl) (fun b u hb q => (sb.2 b hb).trans q) ⟨_, hc2⟩ (eqO_new hc2)
    have eD : Ext (fun b => b = kS) H2 (upd H2 kS (eqO kS (seqObj "list" (kA.push u) c2))) := ⟨fun b o h n _ => by rw [upd_ne n]; exact h, fun b ps h => ⟨ps, by rw [upd_ne (ne_of h k2 fun z => by cases z)]; exact h⟩⟩
    have hW : ∀ b, b = kS → Um m C (And1 (And1 U A0) kS) b := fun b z => by
      subst z
      cases m with
      | true => exact .inr rfl
      | false => exact .inl ⟨.inr rfl, nK0⟩
    refine wpAny_pure ⟨rfl, _, kA.push u, c2, kvs ++ [v'], I3, R3, ?_, upd_same, ?_, ?_, ?_⟩
    · rw [upd_ne (Ne.symm nAk)]; exact a2
    · rw [show (kA.push u).toList = kA.toList ++ [u] by simp]
      exact vals_snoc vi r2
    · rw [show kz.take (j + 1) = kz.take j ++ [kd] by rw [List.take_add_one, hkj]; simp]
      exact ((ri.keep (ext_false E2 (W := fun _ => False)) fun _ z => z.elim).append (reps_cons rk reps_nil)).keep eD hW
    · exact ⟨fun b o h n t => by rw [upd_ne (ne_of_none h nK)]; exact (Ei.trans E2).keep b o h n t, fun b ps h => by rw [upd_ne (ne_of_none h nK)]; exact (Ei.trans E2).tbl b ps h⟩
  case done =>
    rintro s' ⟨Hi, kA, e, kvs, Ii, Ri, ai, ki, vi, ri, Ei⟩
    have e3 : kz.take (0 + its.length) = kz := List.take_of_length_le (by omega)
    rw [e3] at ri
    have gK := eqO_get Ii ki
    have gA := eqO_get Ii ai
    have hkl : kA.size = its.length := by
      have z1 : kvs.length = kA.toList.length := vi.length
      have z2 : kvs.length = kz.length := ri.length
      rw [Array.length_toList (xs := kA)] at z1
      rw [← z1, z2, hkz, hits]
    try dsimp only
    refine wpAny_bind (listItems_at gK rfl ?_)
    obtain ⟨G, G1, G2⟩ := restrict s'.heap fun b => decide (b ≠ kS)
    have ek := reads_each Ii hK ri vi
    have un2 := hr.un
    refine PySem.W.keyH_end (κ := PySem.W.dataKind s'.heap kz) (h₁ := G) (vs := its) (fun b o hb e => ?_) (G2 kS (by simp)) gK gA nAk (PySem.W.SortsAt.data (s := s') ek h1 h2 (fun d hd => ?_)) hkl (by omega) fun h' tk c kk na => ?_
    · by_cases hbk : b = kS
      · rw [hbk, G2 kS (by simp)] at e; cases e
      · rw [← G1 b (by simp [hbk])]; exact e
    · have := h3 d hd
      show X.A.in1.in1.units + d.depth < cLine
      show X.A.units + 1 + 1 + d.depth < cLine
      unfold dline at this
      omega
    · obtain ⟨ee, es, ez⟩ := each3_of hkz rr rv
      have ko : PySem.W.KeyedOut false kz its (PySem.W.sortVals (PySem.W.dataKind s'.heap kz) false kA.toList its) := ⟨s'.heap, kA.toList, h1, rfl, ek⟩
      have eo := PySem.W.keyedOut_each (rev := false) (Prod.snd : (V × Dt) × Dt → PyData) (bs := (xs.zip ds).zip kz) (by rw [es]; exact ko) ee
      obtain ⟨v1, v2⟩ := each3_back eo
      generalize hL : (((xs.zip ds).zip kz).mergeSort (PySem.W.dataLe false Prod.snd)).map (fun b => b.1.1) = L at v1 v2
      have eS : (((xs.zip ds).zip kz).mergeSort (PySem.W.dataLe false Prod.snd)).map (fun b => b.1.2) = sortBy kz ds := by
        have hm := List.map_mergeSort (r := PySem.W.dataLe false (Prod.snd : (V × Dt) × Dt → Dt)) (s := PySem.W.dataLe false (Prod.snd : Dt × Dt → Dt)) (f := fun b : (V × Dt) × Dt => (b.1.2, b.2)) (l := (xs.zip ds).zip kz) (fun a _ b _ => rfl)
        rw [ez] at hm
        unfold sortBy
        rw [← hm, List.map_map]
        rfl
      rw [eS] at v2
      have hLl : L.length ≤ sizeLine := by
        have z : L.length = (sortBy kz ds).length := v2.length
        rw [z, ← eS, List.length_map, List.length_mergeSort, List.length_zip, List.length_zip]
        omega
      have hf : ∃ Hf : Hp, Hf A0 = some (.lst L) ∧ Hf kS = none ∧ ∀ b, b ≠ A0 → b ≠ kS → Hf b = Hi b := by
        refine ⟨fun b => if b = A0 then some (.lst L) else if b = kS then none else Hi b, by simp, by simp [nAk], fun b q1 q2 => by simp [q1, q2]⟩
      obtain ⟨Hf, f1, f2, f3⟩ := hf
      have hk' : ∀ b o, b ≠ A0 → b ≠ kS → s'.heap.get? b = some o → h'.get? b = some o := fun b o q1 q2 e => kk b o q1 (by rw [G1 b (by simp [q2])]; exact e)
      have nI : ∀ b o, Hi b = some o → (∀ ob, o ≠ eqO A0 ob) → (∀ ob, o ≠ eqO kS ob) → b ≠ A0 ∧ b ≠ kS := fun b o e q1 q2 => ⟨(fun z => by rw [z, ai] at e; exact q1 _ (Option.some.inj e).symm), (fun z => by rw [z, ki] at e; exact q2 _ (Option.some.inj e).symm)⟩
      have nN : ∀ b, Hi b = none → b ≠ A0 ∧ b ≠ kS := fun b e => ⟨(fun z => by rw [z, ai] at e; cases e), (fun z => by rw [z, ki] at e; cases e)⟩
      have un : Un (frs X.stack) [kS] Hi Hf s'.heap h' := by
        refine ⟨fun b o e n _ hx => hk' b o (nN b n).1 (nN b n).2 e, fun b o e n _ hx => ⟨o.slots, hk' b o (nN b n).1 (nN b n).2 e⟩, fun b o e n hx => ?_, fun b o e hx => ?_, fun b ys q => ?_, fun b u ys q => ?_, fun b ps q => ⟨#[], ?_⟩⟩
        · rw [f3 b (nN b n).1 (nN b n).2]; exact n
        · by_cases hb : b = A0
          · exact ⟨_, by rw [hb]; exact na⟩
          · exact ⟨o, hk' b o hb (fun z => hx (by rw [z]; simp)) e⟩
        · have z := nI b _ q (fun ob z => by unfold eqO at z; cases z) (fun ob z => by unfold eqO at z; cases z)
          rw [f3 b z.1 z.2]; exact q
        · have z := nI b _ q (fun ob z => by unfold eqO at z; cases z) (fun ob z => by unfold eqO at z; cases z)
          rw [f3 b z.1 z.2]; exact q
        · have z := nI b _ q (fun ob z => by unfold eqO at z; cases z) (fun ob z => by unfold eqO at z; cases z)
          rw [f3 b z.1 z.2]; simpa using q
      have hokf : HOk X.prog X.w Hf h' := fun b o e => by
        by_cases hb : b = A0
        · subst hb
          rw [f1] at e
          cases e
          exact ⟨hLl, _, c, v1, na⟩
        · by_cases hbk : b = kS
          · subst hbk; rw [f2] at e; cases e
          · rw [f3 b hb hbk] at e
            refine (Ii.hok b o e).stay (fun d v hd q => ?_) (fun d q => ?_) (fun d ys q => ?_)
            · have z : d ≠ A0 ∧ d ≠ kS := by
                rcases hd with hd | hd
                · rw [hd]; exact ⟨hb, hbk⟩
                · exact nI d _ hd (fun ob z => by unfold eqO at z; cases z) (fun ob z => by unfold eqO at z; cases z)
              exact hk' d v z.1 z.2 q
            · have z := nI d _ q (fun ob z => by unfold eqO at z; cases z) (fun ob z => by unfold eqO at z; cases z)
              rw [f3 d z.1 z.2]; exact q
            · have z := nI d _ q (fun ob z => by unfold eqO at z; cases z) (fun ob z => by unfold eqO at z; cases z)
              rw [f3 d z.1 z.2]; exact q
      have If : Inv X pins σ Hf { s' with heap := h', toks := tk } := by
        refine Ii.call (ch := [kS]) un hokf Ii.bare fun b hb => ?_
        obtain rfl := List.mem_singleton.mp hb
        refine ⟨.inr ?_, fun z => ?_, fun x cc e z => ?_, fun p hp z => ?_⟩
        · have := I.sz
          have := Heap.lt_size hoA
          rw [hkS']
          omega
        · obtain ⟨m, ⟨o, es, ep, ho, r⟩, _⟩ := I.loc
          exact (lts _ _ ho).2 z.symm
        · obtain ⟨v, o, ho, _⟩ := I.cell x cc e
          exact (lts _ _ ho).2 z
        · exact (lts _ _ (I.pin p hp).1).2 z
      have Ef : Ext (fun _ => False) H Hf := ⟨fun b o e n t => by rw [f3 b (ne_of_none e nA) (ne_of_none e nK)]; exact Ei.keep b o e n t, fun b ps e => by rw [f3 b (ne_of_none e nA) (ne_of_none e nK)]; exact Ei.tbl b ps e⟩
      have tabs : Tabs C.T Hf := fun p hp => by
        obtain ⟨ps, e⟩ := (Ri.tabs p hp).tbl
        have z := nI p.1 _ e (fun ob z => by unfold eqO at z; cases z) (fun ob z => by unfold eqO at z; cases z)
        refine (Ri.tabs p hp).keep (fun o h => by rw [f3 p.1 z.1 z.2]; exact h) fun c q h => ?_
        have n1 : c ≠ A0 := fun z => by subst z; rw [ai] at h; exact eqO_code (fun vs z => by cases z) q (Option.some.inj h)
        have n2 : c ≠ kS := fun z => by subst z; rw [ki] at h; exact eqO_code (fun vs z => by cases z) q (Option.some.inj h)
        rw [f3 c n1 n2]; exact h
      have Rf : Rel C U σ ρ P Hf := R.step (ext_false Ef) tabs fun p hp => Ef.keep _ _ (R.pot p hp) (fun z => z) fun _ z => by cases z
      exact ⟨rfl, .ref A0, Hf, If, rfl, q A0 Hf Ef Rf ⟨A0, L, rfl, ⟨f1, fun z => R.new nA (R.um _ z)⟩, v2.keep Ef fun _ z => z.elim⟩⟩
end
end PD

/-! part S6 -/
set_option Elab.async false
set_option linter.all false
set_option maxRecDepth 100000
set_option maxHeartbeats 4000000
/-! sorted(xs, key=lambda x: ..) on data; own work -/
namespace PD
open PySem PySem.Spec PyProof.Rows L2

section
variable {X : Cx} {pins : List (Addr × Obj)} {σ : L2.St} {H : Hp} {s : Shared}
/-- a lambda is made: what stays, what is new -/
theorem lam_make3 {c P : Addr} {params : Arguments} {body : Expr} {scope : Scope} {pos : Pos} {E : Value → Shared → Prop} {Q : Value → Shared → Prop} (I : Inv X pins σ H s) (TB : LamX.TabB X.base X.mg c P) (hcode : X.env.code = .ref c)
    (hT : LamX.TabS H P (X.env.qual ++ "<lambda>")) (hdef : defaultsOf params X.env = ([], [])) (hfree : ∀ y ∈ scope.names, y.2 = .free → ∃ c, X.env.cells.lookup y.1 = some c)
    (h : ∀ (f c' : Addr) (pm ctv : Value) (H1 : Hp) (s' : Shared), Inv X pins σ H1 s' → (∀ b o, H b = some o → (∀ ps, o ≠ .tbl ps) → H1 b = some o) → (∀ b ps, b ≠ P → H b = some (.tbl ps) → H1 b = some (.tbl ps)) → LamX.TabS H1 P (X.env.qual ++ "<lambda>") →
      s'.heap.get? f = some (PySem.W.kla_obj "<lambda>" (X.env.qual ++ "<lambda>") params body scope (cloFrom X.env.cells scope.names []) pm c' ctv) → H1 f = none → s.heap.objs.size ≤ f → H1 c' = some (LamX.CodeO c' (X.env.qual ++ "<lambda>")) → Q (.ref f) s') :
    wpAny (model X.prog X.w) X.A (eval (.Lambda params body scope pos) X.env) Q E s := by
  have hT' := hT
  obtain ⟨ps, hP, ht, ha⟩ := hT
  refine PySem.W.kla_eval hdef ?_
  have bP : s.heap.BuiltinsAt X.mg P := TB.bm.keeps I.bk
  have hP' : s.heap.get? P = some { cls := .none, data := .fields ps } := I.hok P _ hP
  cases hc : codeAmong pos ps.toList with
  | none =>
    refine PySem.W.kla_makeFunction (mg := X.mg) (c := c) (P := P) (ps := ps) (closure_ok hfree) I.ok.glob (I.mod.glob.keeps I.bk) hcode (TB.code.keeps I.bk) hP' ht hc TB.gP bP fun c' ctv h' tk hx hge hlt hrec htb => ?_
    obtain ⟨c2, oc, vs, t, e2, hoc, hd, hv⟩ := hrec
    cases e2
    have hsz : s.heap.objs.size ≤ h'.objs.size := Nat.le_trans hge (Nat.le_of_lt hlt)
    have nC : H c' = none := I.hok.fresh hge
    have I1 := LamX.inv_table (t' := tk) (more := #[rawInt pos.line, rawInt pos.col, .ref c']) (h' := h'.push (PySem.W.kla_obj "<lambda>" (X.env.qual ++ "<lambda>") params body scope (cloFrom X.env.cells scope.names []) ((X.mg "__name__").getD .none) c' ctv)) I hP
      (fun b o hb e => Heap.get?_push_of_some _ (hx b o hb e)) (Heap.get?_push_of_some _ htb) hge ⟨oc, vs, t, Heap.get?_push_of_some _ hoc, hd, hv⟩
    have hE : ∀ b o, H b = some o → (∀ ps, o ≠ .tbl ps) → upd (upd H P (.tbl (ps ++ #[rawInt pos.line, rawInt pos.col, .ref c']))) c' (LamX.CodeO c' (X.env.qual ++ "<lambda>")) b = some o := fun b o e n => by
      rw [upd_ne (ne_of_none e nC), upd_ne (fun z => n ps (Option.some.inj (e.symm.trans (by rw [z]; exact hP))))]
      exact e
    have eL : (ps ++ #[rawInt pos.line, rawInt pos.col, .ref c']).toList = ps.toList ++ [rawInt pos.line, rawInt pos.col, .ref c'] := by simp
    refine h h'.objs.size c' ((X.mg "__name__").getD .none) ctv _ _ I1 hE (fun b qs hb e => by rw [upd_ne (ne_of_none e nC), upd_ne hb]; exact e) ?_ (Heap.get?_push_size _ rfl) ?_ hsz upd_same
    · refine ⟨_, by rw [upd_ne (ne_of_none hP nC), upd_same], by rw [eL]; exact PySem.TriplesOk_snoc _ _ _ _ ht, fun p' cv hcv => ?_⟩
      rw [eL] at hcv
      rcases LamX.among_app _ ht hcv with z | z
      · obtain ⟨c0, e1, e2⟩ := ha p' cv z
        exact ⟨c0, e1, hE _ _ e2 LamX.codeO_ne⟩
      · exact ⟨c', z, upd_same⟩
    · have n1 : h'.objs.size ≠ c' := Nat.ne_of_gt hlt
      have n2 : h'.objs.size ≠ P := Nat.ne_of_gt (Nat.lt_of_lt_of_le (Heap.lt_size hP') hsz)
      rw [upd_ne n1, upd_ne n2]
      exact I.hok.fresh hsz
  | some cv =>
    obtain ⟨c', e, hco⟩ := ha pos cv hc
    subst e
    refine PySem.W.kla_makeFunctionHit (mg := X.mg) (c := c) (P := P) (ps := ps) (closure_ok hfree) I.ok.glob (I.mod.glob.keeps I.bk) hcode (TB.code.keeps I.bk) hP' ht hc bP fun ctv h' tk hx hsz => ?_
    have I1 : Inv X pins σ H { s with heap := h'.push (PySem.W.kla_obj "<lambda>" (X.env.qual ++ "<lambda>") params body scope (cloFrom X.env.cells scope.names []) ((X.mg "__name__").getD .none) c' ctv), toks := tk } := I.kept fun b o e => Heap.get?_push_of_some _ (hx b o e)
    exact h h'.objs.size c' ((X.mg "__name__").getD .none) ctv H _ I1 (fun _ _ e _ => e) (fun _ _ _ e => e) hT' (Heap.get?_push_size _ rfl) (I.hok.fresh hsz) hsz hco
end

/-- the context of a lambda's body, its names N (the parameters first) -/
abbrev lcx (X : Cx) (N : List Str) (scope : Scope) (A : Around) (outer : List Env) (s : Shared) (H : Hp) (f c' : Addr) : Cx := cxOf C8.CX0 X.prog X.w X.K X.mg X.base N (X.env.qual ++ "<lambda>") scope f (.ref c') A outer s H C8.E0
section
variable {X : Cx}
/-- such a lambda called -/
theorem lam_call {N ps : List Str} {params : Arguments} {body : Expr} {scope : Scope} {pm ctv : Value} {f c' : Addr} {k : Nat} {A : Around} {outer : List Env} {s : Shared} {H : Hp} {us : List Value} {vs : List V} {Q : VK} {te : TE} (S : FnScope N ps scope) (hr : Room (k + 1) A) (e0 : Env0 X.prog X.w X.K X.mg X.base A outer s H)
    (hf : s.heap.get? f = some (PySem.W.kla_obj "<lambda>" (X.env.qual ++ "<lambda>") params body scope [] pm c' ctv)) (hc : H c' = some (LamX.CodeO c' (X.env.qual ++ "<lambda>"))) (r : Vals vs us) (hl : vs.length = ps.length)
    (hbind : bindArgs (PySem.W.kla_fn "<lambda>" (X.env.qual ++ "<lambda>") params body scope [] pm (.ref c') ctv) ⟨us, []⟩ = pure (ps.zip us))
    (hbody : Room k (A.deeper (envOfC (X.env.qual ++ "<lambda>") scope s.heap.objs.size f (.ref c'))) → PE (lcx X N scope A outer s H f c') body te) (hq : te (L2.start N vs) H Q) :
    codeAny (model X.prog X.w) A (.call (.ref f) ⟨us, []⟩) (CR C8.CX0 outer X.prog X.w H s Q C8.E0) s := by
  have lim : s.heap.NoLimit := e0.mod.nolimit.keeps fun b o e => (e0.bs b o e).1
  obtain ⟨⟨oc, fs, t, hoc, hdc, hvc⟩, _, _⟩ := e0.hok c' _ hc
  have hkind : ∀ y ∈ ps.zip us, scope.names.lookup y.1 = some .local ∨ (scope.names.lookup y.1 = some .cell ∧ ((cellsFrom (s.heap.objs.size + 1) scope.names []).lookup y.1).isSome = true) := fun ⟨n, v⟩ hy => by
    rcases S.par n (List.of_mem_zip hy).1 with q | q
    · exact .inl q
    · exact .inr ⟨q, PySem.W.cellsFrom_some _ _ _ (.inl q)⟩
  refine PySem.W.kla_callFunE hr.depth hf rfl S.co S.gen rfl ⟨c', oc, fs, t, rfl, hoc, hdc, hvc⟩ ?_
  rw [hbind]
  refine wpAny_pure (wpAny_newFunctionEnv_cells S.kind hkind fun env he s1 x => ?_)
  subst he
  refine ⟨lim.keeps x.toInCall.keep, ?_⟩
  show codeAny _ _ (.expr body (envOfC (X.env.qual ++ "<lambda>") scope s.heap.objs.size f (.ref c'))) _ _
  have I : Inv (lcx X N scope A outer s H f c') [] (L2.start N vs) H s1 := inv_start S hr.hd e0 hl r x
  refine PySem.W.kla_codeExpr (wpAny_mono ((hbody (hr.deeper _)).run [] s1 (L2.start N vs) H Q I hq) (fun v s' hq => ?_) fun e s' hq => hq)
  obtain ⟨w', H', J', rv, q⟩ := hq
  exact ⟨w', H', J'.os, J'.bare, J'.base, J'.hok, rv, q⟩
end

/-! ### the rule -/
def keysOf (kf : Dt → Option Dt) : List Dt → Option (List Dt)
  | [] => some []
  | d :: ds => match kf d with
    | some k => (keysOf kf ds).map (k :: ·)
    | none => none
theorem keysOf_len {kf : Dt → Option Dt} : ∀ {ds kz : List Dt}, keysOf kf ds = some kz → kz.length = ds.length
  | [], kz, h => by cases h; rfl
  | d :: ds, kz, h => by
    unfold keysOf at h
    cases e : kf d with
    | none => rw [e] at h; cases h
    | some k =>
      rw [e] at h
      cases e2 : keysOf kf ds with
      | none => rw [e2] at h; cases h
      | some ks =>
        rw [e2] at h
        cases h
        simp [keysOf_len e2]
theorem keysOf_at {kf : Dt → Option Dt} : ∀ {ds kz : List Dt} {i : Nat} {d k : Dt}, keysOf kf ds = some kz → ds[i]? = some d → kz[i]? = some k → kf d = some k
  | [], kz, i, d, k, h, hd, hk => by simp at hd
  | d0 :: ds, kz, i, d, k, h, hd, hk => by
    unfold keysOf at h
    cases e : kf d0 with
    | none => rw [e] at h; cases h
    | some k0 =>
      rw [e] at h
      cases e2 : keysOf kf ds with
      | none => rw [e2] at h; cases h
      | some ks =>
        rw [e2] at h
        cases h
        cases i with
        | zero => simp at hd hk; subst hd hk; exact e
        | succ i => exact keysOf_at e2 (by simpa using hd) (by simpa using hk)
def eSortK (kf : Dt → Option Dt) (f1 : Ev Dt) : Ev Dt := fun ρ P => match f1 ρ P with
  | some (.list ds, P1) => (match keysOf kf ds with
    | some kz => if sortOk kz = true then some (.list (sortBy kz ds), P1) else none
    | none => none)
  | _ => none
/-- what a lambda of one parameter gives -/
def lamSem (n : Nat) (g : Ev Dt) (d : Dt) : Option Dt := match g (enOf n [d]) (0, 0) with
  | some (k, _) => some k
  | none => none
section
variable {X : Cx} {C : Fx}
theorem pd_sortLam {m : Bool} {a : Expr} {f1 g : Ev Dt} {N : List Str} {y : Str} {params : Arguments} {body : Expr} {scope : Scope} {p pos lpos kpos : Pos} {c P : Addr} {k : Nat} (hr : Room (k + 2) X.A) (hK : X.K = C.K) (hg : Gl X "sorted") (hm : X.mg "sorted" = none) (ha : PE X a (tVm m C f1))
    (TB : LamX.TabB X.base X.mg c P) (hcode : X.env.code = .ref c) (hT : (P, some (X.env.qual ++ "<lambda>")) ∈ C.T) (hu : ∀ p ∈ C.T, p.1 = P → p.2 = some (X.env.qual ++ "<lambda>")) (hdef : defaultsOf params X.env = ([], [])) (hclo : cloFrom X.env.cells scope.names [] = [])
    (hfr : ∀ z ∈ scope.names, z.2 ≠ .free) (S : FnScope N [y] scope)
    (hbind : ∀ (q : Str) (pm cv ctv u : Value), bindArgs (PySem.W.kla_fn "<lambda>" q params body scope [] pm cv ctv) ⟨[u], []⟩ = pure [(y, u)])
    (hbody : ∀ (A : Around) (outer : List Env) (s : Shared) (H : Hp) (f c' : Addr) (U0 : Addr → Prop), Room k (A.deeper (envOfC (X.env.qual ++ "<lambda>") scope s.heap.objs.size f (.ref c'))) → PE (lcx X N scope A outer s H f c') body (tD ⟨C.K, C.T, U0, none, H⟩ g))
    (he0 : starEach [a] X.env = (false, eval a X.env) :: starEach [] X.env := by rfl) (he : backTo pos (starEach [a] X.env) = (false, eval a X.env) :: backTo pos (starEach [] X.env) := by rfl) (hpl : (backTo pos (starEach [a] X.env)).any (·.1) = false := by rfl) :
    PE X (.Call (.Name "sorted" p) [a] [⟨some "key", .Lambda params body scope lpos, kpos⟩] pos) (tDm m C (eSortK (lamSem N.length g) f1)) := by
  refine ⟨fun pins s σ H Q I ⟨U, ρ, Pt0, d, P', R, q, kk⟩ => ?_⟩
  unfold eSortK at q
  split at q
  case h_2 => cases q
  rename_i ds P1 q1
  cases q2 : keysOf (lamSem N.length g) ds with
  | none => rw [q2] at q; cases q
  | some kz =>
    rw [q2] at q
    obtain ⟨hok, e5⟩ := ite_some q
    cases e5
    refine wpAny_Call_Name_kw (ld_blt I hg hm rfl ?_ (by decide) (by decide))
    refine PyProof.Rows.callWith_kw (thn ((pa_cons ha pa_nil he0).run pos pins s σ H (fun vs H1 => ∃ v, vs = [v] ∧ Ext C.W H H1 ∧ Rel C U σ ρ P' H1 ∧ RepV C.K (Um m C U) C.W H1 (.list ds) v) I ⟨U, ρ, Pt0, _, P', R, q1, fun v H1 e1 R1 r1 => ⟨v, rfl, e1, R1, r1⟩⟩) fun us s1 ⟨vs, H1, I1, r1, v, ev, e1, R1, rv⟩ => ?_) he hpl (by rfl) (by rfl)
    subst ev
    obtain ⟨u, rfl, ru⟩ := vals1 r1
    show wpAny _ _ (evalAll ((do let v ← eval (.Lambda params body scope lpos) X.env; standAt pos; pure v) :: (backToKw pos (keywordEach [] X.env)).map (·.2))) _ _ s1
    refine wpAny_evalAll_cons (wpAny_bind (lam_make3 I1 TB hcode (R1.tabs _ hT) hdef (fun z hz e => absurd e (hfr z hz)) fun f c' pm ctv H2 s2 I2 x1 x2 t2 hf hfn hfs hco => ?_))
    refine wpAny_bind (wpAny_standAt (wpAny_pure (wpAny_evalAll_nil ?_)))
    rw [hclo] at hf
    have e2 : Ext (fun _ => False) H1 H2 := ⟨fun b o h _ n => x1 b o h n, fun b ps h => by
      by_cases hb : b = P
      · obtain ⟨ps', z, _⟩ := t2
        exact ⟨ps', by rw [hb]; exact z⟩
      · exact ⟨ps, x2 b ps hb h⟩⟩
    have tabs2 : Tabs C.T H2 := fun p hp => by
      by_cases hb : p.1 = P
      · obtain ⟨pa, pq⟩ := p
        have e := hu _ hp hb
        cases (show pq = _ from e)
        cases (show pa = P from hb)
        exact t2
      · obtain ⟨ps, e⟩ := (R1.tabs p hp).tbl
        exact (R1.tabs p hp).keep (fun o h => by rw [e] at h; cases h; exact x2 _ _ hb e) fun c q h => x1 _ _ h LamX.codeO_ne
    have R2 : Rel C U σ ρ P' H2 := R1.step (ext_false e2) tabs2 fun p hp => e2.keep _ _ (R1.pot p hp) (fun z => z) fun _ z => by cases z
    obtain ⟨l, xs, rfl, sq, rr⟩ := (rv.keep (ext_false e2) R1.wm).lst
    cases ru
    -- the lambda's object is held
    have J2 := I2.pinned (fp := [f]) (fun b hb => by obtain rfl := List.mem_singleton.mp hb; exact I1.fpOk hfs hfn) (fun b hb => by obtain rfl := List.mem_singleton.mp hb; exact ⟨_, hf, fun v z => by cases z⟩)
    have hpin : (f, PySem.W.kla_obj "<lambda>" (X.env.qual ++ "<lambda>") params body scope [] pm c' ctv) ∈ pins ++ pinsAt [f] s2.heap := List.mem_append_right _ (mem_pinsAt (by simp) hf)
    have hr1 : Room (k + 1) X.A.in1.in1 := ⟨hr.hd, by have := hr.dp; show X.A.depth + 3 * (k + 1) + 5 < _; omega, by have := hr.un; show X.A.units + 1 + 1 + 16 * (k + 1) + 200 < _; omega⟩
    refine wpAny_mono (sortKey_run (m := m) (C := C) (U := U) (ρ := ρ) (P := P') (ds := ds) (kz := kz) (f := f) (Q := Q) hr hK J2 R2 (by rw [hK]; exact sq) rr (keysOf_len q2) hok (fun s3 H3 U3 I3 E3 R3 i v0 u0 d0 kd hd hkd r0 rv0 => ?_) fun p0 H4 E4 R4 r4 => ?_) (fun v' s' h' => ?_) fun _ _ h => h
    · -- one key
      have e0 := I3.env0
      have e0' : Env0 X.prog X.w X.K X.mg X.base X.A.in1.in1 X.stack s3 H3 := ⟨e0.frames, e0.mod, e0.bs, e0.bsz, e0.funs, e0.frf, e0.hok, e0.bare⟩
      have hf3 := (I3.pin _ (List.mem_append_right _ hpin)).1
      have hc3 : H3 c' = some (LamX.CodeO c' (X.env.qual ++ "<lambda>")) := E3.keep _ _ hco (fun z => z) LamX.codeO_ne
      have hsem := keysOf_at q2 hd hkd
      unfold lamSem at hsem
      cases eg : g (enOf N.length [d0]) (0, 0) with
      | none => rw [eg] at hsem; cases hsem
      | some w0 =>
        obtain ⟨kd', Pz⟩ := w0
        rw [eg] at hsem
        cases hsem
        have hn1 : [d0].length ≤ N.length := by
          have z := congrArg List.length S.pre
          rw [List.length_take] at z
          have : [d0].length = [y].length := rfl
          omega
        have Rs := rel_start (K := C.K) (T := C.T) (N := N) (ds := [d0]) (vs := [v0]) R3.dm R3.tabs (reps_cons r0 reps_nil) hn1
        have rc := lam_call (X := X) (us := [u0]) (vs := [v0]) (Q := fun v' H2 => Ext (fun _ => False) H3 H2 ∧ Tabs C.T H2 ∧ Rep C.K (Um m C U3) H2 kd v') S hr1 e0' hf3 hc3 (.cons rv0 .nil) rfl (hbind _ _ _ _ _) (fun hrb => hbody _ _ s3 H3 f c' (Um m C U3) hrb)
          ⟨Um m C U3, _, _, _, _, Rs, eg, fun v' H' e' R' r' => ⟨e'.mono (fun b z => by cases z), R'.tabs, r'⟩⟩
        refine wpAny_call (codeAny_mono rc fun r s' hq => ?_)
        cases r with
        | error e => exact (show False from hq).elim
        | ok fl =>
          cases fl with
          | ret u => exact I3.after hq
          | next => exact False.elim hq
          | brk => exact False.elim hq
          | cont => exact False.elim hq
    · exact kk _ H4 (e1.trans (ext_false (e2.trans E4))) R4 r4
    · obtain ⟨w, H', I', rw', q'⟩ := h'
      exact ⟨w, H', I'.unpinned, rw', q'⟩
end
end PD

/-! part D9 -/
set_option Elab.async false
set_option linter.all false
set_option maxRecDepth 100000
set_option maxHeartbeats 4000000
/-! unary minus, xs[::-1], repr, defs whose result is all new, bodies; own work -/
namespace PD
open PySem PySem.Spec PyProof.Rows L2

section
variable {X : Cx} {C : Fx} {e : Expr} {m : Bool}
def eNeg (f : Ev Dt) : Ev Dt := fun ρ P => match f ρ P with
  | some (.int i, P1) => some (.int (-i), P1)
  | _ => none
theorem pd_neg {f : Ev Dt} {pos : Pos} (h : PE X e (tVm m C f)) : PE X (.UnaryOp .USub e pos) (tDm m C (eNeg f)) := pe_weak (pe_un un_neg h) fun σ H Q ⟨U, ρ, P, d, P', R, q, k⟩ => by
  unfold eNeg at q
  split at q
  · rename_i i P1 e1
    cases q
    exact ⟨U, ρ, P, _, _, R, e1, fun v H1 x1 R1 r1 => ⟨i, r1, k _ H1 x1 R1 rfl⟩⟩
  · cases q
/-- xs[::-1] -/
def eRev (f : Ev Dt) : Ev Dt := fun ρ P => match f ρ P with
  | some (.list ds, P1) => some (.list ds.reverse, P1)
  | _ => none
theorem pd_rev {f : Ev Dt} {j : Nat} {p1 p2 p3 pos : Pos} (hK : X.K = C.K) (h : PE X e (tVm m C f)) : PE X (.Subscript e (.Slice none none (some (.UnaryOp .USub (.Constant (.int 1) j p1) p2)) p3) pos) (tDm m C (eRev f)) := pe_weak (pe_revL h) fun σ H Q ⟨U, ρ, P, d, P', R, q, k⟩ => by
  unfold eRev at q
  split at q
  · rename_i ds P1 e1
    cases q
    refine ⟨U, ρ, P, _, _, R, e1, fun v H1 x1 R1 r1 => ?_⟩
    obtain ⟨a, xs, rfl, sq, rr⟩ := r1.lst
    exact ⟨a, xs, rfl, by rw [hK]; exact sq, fun p hp => k _ _ (x1.trans (.of (same_upd hp))) (R1.same (same_upd hp)) (rep_newL R1.dm hp rr.reverse)⟩
  · cases q
/-! repr of a list -/
mutual
theorem noDict : ∀ d : Dt, d.plain = true → d.hasDict = false
  | .none, _ => rfl
  | .bool _, _ => rfl
  | .int _, _ => rfl
  | .str _, _ => rfl
  | .list xs, h => noDictAll xs h
  | .tuple xs, h => noDictAll xs h
  | .dict _, h => by cases h
theorem noDictAll : ∀ xs : List Dt, PyData.plainAll xs = true → PyData.hasDictAll xs = false
  | [], _ => rfl
  | x :: xs, h => by
    have h' : (x.plain && PyData.plainAll xs) = true := h
    rw [Bool.and_eq_true] at h'
    show (x.hasDict || PyData.hasDictAll xs) = false
    rw [noDict x h'.1, noDictAll xs h'.2]
    rfl
end
def gRepr : List Dt → Option Dt
  | [.list xs] => if (PyData.list xs).showable = true ∧ (PyData.list xs).shown.length ≤ sizeLine ∧ (PyData.list xs).depth ≤ dline then some (.str (PyData.list xs).shown) else none
  | _ => none
theorem cc_repr {k : Nat} (hr : Room k X.A) (hg : X.A.guards = some []) : CallR X (.builtin "repr") (rCC X.K gRepr) := by
  intro pins s σ H xs us Q I r ⟨U, W, ds, d, hU, rs, hg', q⟩
  unfold gRepr at hg'
  split at hg'
  · rename_i ys
    obtain ⟨⟨h1, h2, h3⟩, rfl⟩ := ite_some hg'
    obtain ⟨v, rfl, r1⟩ := rs.one
    obtain ⟨u, rfl, ru⟩ := vals1 r
    obtain ⟨as, ra⟩ := r1.reads I.hok I.kIn ru
    obtain ⟨a, zs, rfl, sq, rr⟩ := r1.lst
    cases ru
    refine repr_of_reads' ra h1 (PyData.noDict_hsm (noDict _ r1.plain)) hg (by have := units_ok hr h3; omega) (fun _ _ e => e) (fun h' u tk hk => ?_) h2
    exact ⟨.str _, H, I.kept hk, ⟨u, rfl⟩, q _ _ (.refl _) rfl⟩
  · cases hg'
end

/-! ### a def that only looks at what it is handed, and gives what is all new -/
def spF (K : PySem.W.Frag) (T : List TbT) (n : Nat) (sem : List Dt → Option Dt) : Sp := fun vs H Q _ => ∃ (ds : List Dt) (d : Dt), Tabs T H ∧ Reps K (fun _ => False) H ds vs ∧ ds.length = n ∧ sem ds = some d ∧
  ∀ v H', Ext (fun _ => False) H H' → Tabs T H' → Rep K (Live H) H' d v → Q v H'
theorem spF_len {K T n sem} : ∀ vs H Q E, spF K T n sem vs H Q E → vs.length = n := fun vs H Q E ⟨ds, d, _, r, h, _⟩ => by rw [r.length, h]
def enOfL (n : Nat) (ds : List Dt) : En := ds.map .lk ++ List.replicate (n - ds.length) .un
def semF (n : Nat) (g : Sv) (ds : List Dt) : Option Dt := resD (g (enOfL n ds) (0, 0))
theorem no_ow_lk {ds es : List Dt} {n i : Nat} (h1 : (ds.map DV.lk ++ List.replicate n .un)[i]? = some (.ow es)) : False := by
  by_cases hi : i < ds.length
  · rw [List.getElem?_append_left (by simpa using hi), List.getElem?_map] at h1
    cases q : ds[i]? <;> rw [q] at h1 <;> cases h1
  · rw [List.getElem?_append_right (by simpa using hi), List.getElem?_replicate] at h1
    split at h1 <;> cases h1
theorem rel_startF {K : PySem.W.Frag} {T : List TbT} {H : Hp} {ds : List Dt} {vs : List V} {N : List Str} (ht : Tabs T H) (r : Reps K (fun _ => False) H ds vs) (hn : ds.length ≤ N.length) :
    Rel ⟨K, T, Live H, none, H⟩ (Live H) (L2.start N vs) (enOfL N.length ds) (0, 0) H := by
  have hlen := r.length
  refine ⟨fun _ h => h, fun _ h => h, fun p h => (by cases h), fun _ h => h, .refl, ht, fun p h => (by cases h), by simp [L2.start, enOfL, hlen], fun i => ?_, fun i j es fs h1 h2 h3 => (no_ow_lk h1).elim⟩
  by_cases hi : i < ds.length
  · have e1 : (enOfL N.length ds)[i]? = ds[i]?.map DV.lk := by
      unfold enOfL
      rw [List.getElem?_append_left (by simpa using hi), List.getElem?_map]
    have e2 : (L2.start N vs)[i]? = vs[i]?.map some := by
      show (vs.map some ++ List.replicate _ none)[i]? = _
      rw [List.getElem?_append_left (by simpa [hlen] using hi), List.getElem?_map]
    obtain ⟨d, hd⟩ : ∃ d, ds[i]? = some d := ⟨ds[i], by simp [hi]⟩
    obtain ⟨v, hv, rv⟩ := r.at hd
    rw [e1, e2, hd, hv]
    refine ⟨v, rfl, rv.shrink fun b z => ?_⟩
    rcases z with ⟨⟨o, z, _⟩, n⟩ | z
    · have n : H b = none := n
      rw [n] at z; cases z
    · cases z
  · have e1 : SlotR ⟨K, T, Live H, none, H⟩ (Live H) H (enOfL N.length ds)[i]? (L2.start N vs)[i]? := by
      unfold enOfL
      rw [List.getElem?_append_right (by simpa using hi), List.getElem?_replicate]
      split <;> trivial
    exact e1
theorem read_bodyF {K : PySem.W.Frag} {T : List TbT} {N : List Str} {n : Nat} {g : Sv} {vs : List V} {H : Hp} {Q : VK} {E : XK} (hn : n ≤ N.length) (h : spF K T n (semF N.length g) vs H Q E) : ∃ U0, tS ⟨K, T, U0, none, H⟩ g { nx := fun _ H' => Q .non H', rt := Q } (L2.start N vs) H := by
  obtain ⟨ds, d, ht, r, hd, q, k⟩ := h
  have R := rel_startF (N := N) ht r (by omega)
  unfold semF at q
  cases e : g (enOfL N.length ds) (0, 0) with
  | none => rw [e] at q; cases q
  | some x =>
    obtain ⟨fl, ρ', P'⟩ := x
    rw [e] at q
    have toE : ∀ {U' : Addr → Prop} {σ' : L2.St} {H' : Hp}, Rel ⟨K, T, Live H, none, H⟩ U' σ' ρ' P' H' → Ext (fun _ => False) H H' := fun R' => R'.since.mono fun b z => by cases z
    cases fl with
    | rt d' =>
      cases q
      exact ⟨Live H, Live H, _, _, _, _, _, R, e, fun U' σ' v H' l R' r' => k v H' (toE R') R'.tabs (r'.shrink R'.u0)⟩
    | nx =>
      cases q
      exact ⟨Live H, Live H, _, _, _, _, _, R, e, fun U' σ' H' l R' => k .non H' (toE R') R'.tabs rfl⟩
    | bk => cases q
    | ct => cases q
section
variable {X : Cx} {C : Fx} {e : Expr} {m : Bool}
theorem pd_callF {n : Nat} {sem : List Dt → Option Dt} {g : Ev (List Dt)} {E : XK} (h : PE X e (tCall (spF C.K C.T n sem) [] E (tDsm false C g))) : PE X e (tDm true C (eCall n sem g)) := pe_weak h fun σ H Q ⟨U, ρ, P, d, P', R, q, k⟩ => by
  obtain ⟨ds, q1, hl, q2⟩ := eCall_some q
  refine ⟨U, ρ, P, ds, P', R, q1, fun vs H1 e1 R1 r1 => ?_⟩
  show spF C.K C.T n sem (vs ++ []) H1 Q E
  rw [List.append_nil]
  exact ⟨ds, d, R1.tabs, r1.shrink fun _ z => z.elim, hl, q2, fun v H2 e2 t2 r2 => k v H2 (e1.trans (ext_false e2)) (R1.step (ext_false e2) t2 fun p hp => e2.keep _ _ (R1.pot p hp) (fun z => z) fun _ z => by cases z) (r2.shrink R1.dom)⟩
end
section
variable {P : Program} {w : World} {K : PySem.W.Frag} {mg : Str → Option Value} {base : Heap} {x qual : Str} {params : Arguments} {body : List Stmt} {scope : Scope} {dvs : List V} {kws : List (Str × V)} {f : Addr} {fd : FuncData}
/-- THE RULE for a def whose code object is known -/
theorem okX {CX : CXT} {N ps : List Str} {k : Nat} {sp : Sp} {c : Addr} (F : FunD K x qual params body scope dvs kws f fd) (hc : fd.code = .ref c) (S : FnScope N ps scope) (len : ∀ vs H Q E, sp vs H Q E → vs.length = ps.length)
    (hbody : ∀ (A : Around) (outer : List Env) (s : Shared) (H : Hp) (vs : List V) (Q : VK) (E : XK), Room k (A.deeper (envOfC qual scope s.heap.objs.size f (.ref c))) → sp vs H Q E →
      ∃ t, PSs (cxOf CX P w K mg base N qual scope f (.ref c) A outer s H E).nox body t ∧ t { nx := fun _ H' => Q .non H', rt := Q } (L2.start N vs) H) : FnOk P w K mg base CX (k + 1) f fd ps sp := by
  obtain ⟨oc, od, dV, kV, doc, pm, an, cdv, ct, osl, rfl, lk, hcd, _, _⟩ := F.ex
  have e : cdv = .ref c := hc
  subst e
  exact fn_of lk hcd S len fun A outer s H vs Q E hr hsp => let ⟨t, h1, h2⟩ := hbody A outer s H vs Q E hr hsp; ⟨t, PSs.nox h1, h2⟩
theorem okN {CX : CXT} {N ps : List Str} {k : Nat} {sp : Sp} (F : FunD K x qual params body scope dvs kws f fd) (S : FnScope N ps scope) (len : ∀ vs H Q E, sp vs H Q E → vs.length = ps.length)
    (hbody : ∀ (cdv : Value) (A : Around) (outer : List Env) (s : Shared) (H : Hp) (vs : List V) (Q : VK) (E : XK), Room k (A.deeper (envOfC qual scope s.heap.objs.size f cdv)) → sp vs H Q E →
      ∃ t, PSs (cxOf CX P w K mg base N qual scope f cdv A outer s H E).nox body t ∧ t { nx := fun _ H' => Q .non H', rt := Q } (L2.start N vs) H) : FnOk P w K mg base CX (k + 1) f fd ps sp :=
  F.ok S len fun cdv A outer s H vs Q E hr hsp => let ⟨t, h1, h2⟩ := hbody cdv A outer s H vs Q E hr hsp; ⟨t, PSs.nox h1, h2⟩
end
/-- names, by their places -/
theorem pv' {X : Cx} {x : Str} {pos : Pos} (i : Nat) (hN : X.N[i]? = some x := by rfl) (hv : Vis X.env.scope x := by first | exact .inl rfl | exact .inr (.inl rfl) | exact .inr (.inr rfl)) (hd : (x == ("__debug__" : Str)) = false := by decide) (hcd : (x == ("__classdict__" : Str)) = false := by decide) : PE X (.Name x pos) (tVar i) := pe_var hN hv hd hcd
theorem gstr {X : Cx} {x : Str} {s : Str} {pos : Pos} (h : ∃ t, X.mg x = some (.str s t)) (hg : Gl X x := by rfl) (hd : (x == ("__debug__" : Str)) = false := by decide) : PE X (.Name x pos) (tC (.str s)) := let ⟨t, e⟩ := h; pe_glob hg e ⟨t, rfl⟩ hd
theorem gint {X : Cx} {x : Str} {s : Int} {pos : Pos} (h : ∃ t, X.mg x = some (.int s t)) (hg : Gl X x := by rfl) (hd : (x == ("__debug__" : Str)) = false := by decide) : PE X (.Name x pos) (tC (.int s)) := let ⟨t, e⟩ := h; pe_glob hg e ⟨t, rfl⟩ hd
section
variable {X : Cx} {C : Fx} {m : Bool} {e : Expr}
theorem pc_int {i : Int} (h : PE X e (tC (.int i))) : PE X e (tDm m C (eC (.int i))) := pd_const h fun _ _ _ => rfl
theorem pc_str {i : Str} (h : PE X e (tC (.str i))) : PE X e (tDm m C (eC (.str i))) := pd_const h fun _ _ _ => rfl
theorem pc_bool {i : Bool} (h : PE X e (tC (.bl i))) : PE X e (tDm m C (eC (.bool i))) := pd_const h fun _ _ _ => rfl
theorem pc_none (h : PE X e (tC .non)) : PE X e (tDm m C (eC .none)) := pd_const h fun _ _ _ => rfl
end
end PD

/-! part D10 -/
set_option Elab.async false
set_option linter.all false
set_option maxRecDepth 100000
set_option maxHeartbeats 4000000
/-! new lists of one's own by other ways, keyword calls, zip without names; own work -/
namespace PD
open PySem PySem.Spec PyProof.Rows L2

/-- a new list of one's own as an expression -/
def tNw (C : Fx) (g : Ev (List Dt)) : TE := fun σ H Q => ∃ U ρ P ds P', Rel C U σ ρ P H ∧ g ρ P = some (ds, P') ∧ ∀ p xs H1, Ext C.W H H1 → Rel C U σ ρ P' H1 → H1 p = none → Reps C.K U H1 ds xs → Q (.ref p) (upd H1 p (.lst xs))
section
variable {X : Cx} {C : Fx} {e a b : Expr} {es : List Expr} {st : Stmt} {m : Bool}
def eLs (g : Ev (List Dt)) : Ev (List Dt) := fun ρ P => match g ρ P with
  | some (ds, P1) => if ds.length ≤ sizeLine then some (ds, P1) else none
  | none => none
theorem pn_lst {g : Ev (List Dt)} {pos : Pos} (h : PA X es (tDs C g)) : PE X (.List es pos) (tNw C (eLs g)) := pe_weak (pe_lst h) fun σ H Q ⟨U, ρ, P, ds, P', R, q, k⟩ => by
  unfold eLs at q
  cases e1 : g ρ P with
  | none => rw [e1] at q; cases q
  | some x =>
    obtain ⟨ds', P1⟩ := x
    rw [e1] at q
    obtain ⟨hl, e2⟩ := ite_some q
    cases e2
    exact ⟨U, ρ, P, ds, P', R, e1, fun vs H1 x1 R1 r1 => ⟨by rw [r1.length]; exact hl, fun p hp => k p vs H1 x1 R1 hp r1⟩⟩
/-- a + b, lists -/
def eCat (f1 f2 : Ev Dt) : Ev (List Dt) := fun ρ P => match f1 ρ P with
  | some (.list xs, P1) => (match f2 ρ P1 with
    | some (.list ys, P2) => if xs.length + ys.length ≤ sizeLine then some (xs ++ ys, P2) else none
    | _ => none)
  | _ => none
def rCatL (K : PySem.W.Frag) : R2 := fun x y H Q => ∃ l b xs zs, x = .ref l ∧ y = .ref b ∧ SqL K H l xs ∧ SqL K H b zs ∧ xs.length + zs.length ≤ sizeLine ∧ ∀ p, H p = none → Q (.ref p) (upd H p (.lst (xs ++ zs)))
theorem op_catL : OpR X (binaryOp .Add) (rCatL X.K) := by
  intro pins s σ H x y v u Q I rx ry ⟨l, b, xs, zs, e1, e2, h1, h2, hz, q⟩
  subst e1 e2
  cases rx
  cases ry
  exact cat_lists X I h1 h2 hz q
theorem pn_cat {f1 f2 : Ev Dt} {pos : Pos} (hK : X.K = C.K) (ha : PE X a (tV C f1)) (hb : PE X b (tV C f2)) : PE X (.BinOp a .Add b pos) (tNw C (eCat f1 f2)) := pe_weak (pe_op op_catL ha hb) fun σ H Q ⟨U, ρ, P, ds, P', R, q, k⟩ => by
  unfold eCat at q
  split at q
  · rename_i xs P1 e1
    split at q
    · rename_i ys P2 e2
      obtain ⟨hz, e3⟩ := ite_some q
      cases e3
      refine ⟨U, ρ, P, _, P1, R, e1, fun x H1 x1 R1 r1 => ⟨U, ρ, P1, _, _, R1, e2, fun y H2 x2 R2 r2 => ?_⟩⟩
      obtain ⟨l, vs, ev, s1, rr1⟩ := (r1.keep x2 R1.w).lst
      obtain ⟨l2, ws, ew, s2, rr2⟩ := r2.lst
      exact ⟨l, l2, vs, ws, ev, ew, by rw [hK]; exact s1, by rw [hK]; exact s2, by rw [rr1.length, rr2.length]; exact hz, fun p hp => k p _ H2 (x1.trans x2) R2 hp (rr1.append rr2)⟩
    · cases q
  · cases q
/-- name = a new list of one's own -/
def sOwn (i : Nat) (g : Ev (List Dt)) : Sv := fun ρ P => match g ρ P with
  | some (ds, P1) => some (.nx, ρ.set i (.ow ds), P1)
  | none => none
theorem psd_own {i : Nat} {g : Ev (List Dt)} (h : PS X st (tAsg (tNw C g) (gName i))) : PS X st (tS C (sOwn i g)) := ps_weak h fun D σ H ⟨U, ρ, P, fl, ρ', P', R, q, k⟩ => by
  unfold sOwn at q
  cases e : g ρ P with
  | none => rw [e] at q; cases q
  | some x =>
    obtain ⟨ds, P1⟩ := x
    rw [e] at q
    cases q
    refine ⟨U, ρ, P, ds, _, R, e, fun p vs H1 e1 R1 hp r1 => ?_⟩
    obtain ⟨nW, n0⟩ := newD R1 hp
    have R2 : Rel C (And1 U p) σ ρ P' (upd H1 p (.lst vs)) := R1.grow hp
    refine k (And1 U p) _ _ ((Left.of e1 R.w).trans ⟨.of (same_upd hp), fun b z => z.elim .inl fun q => .inr (by rw [q]; exact hp), R1.w⟩) ?_
    exact R2.setOw i upd_same (.inr rfl) n0 (r1.grow hp) fun j es _ hj => no_ow' R1 hp j es hj

/-- a value without parts keeps clear of all: looked at -/
def eFg (f : Ev Dt) : Ev Dt := fun ρ P => match f ρ P with
  | some (d, P1) => if flatD d = true then some (d, P1) else none
  | none => none
theorem pd_flatG {f : Ev Dt} (h : PE X e (tDm false C f)) : PE X e (tDm true C (eFg f)) := pe_weak h fun σ H Q ⟨U, ρ, P, d, P', R, q, k⟩ => by
  unfold eFg at q
  cases e1 : f ρ P with
  | none => rw [e1] at q; cases q
  | some x =>
    obtain ⟨d', P1⟩ := x
    rw [e1] at q
    obtain ⟨hf, e2⟩ := ite_some q
    cases e2
    exact ⟨U, ρ, P, d, P', R, e1, fun v H' e R' r => k v H' e R' (rep_flat hf r)⟩

/-! ### keywords -/
theorem len_nil : ∀ ds ρ P P1, eNil ρ P = some (ds, P1) → ds.length = 0 := fun ds ρ P P1 h => by cases h; rfl
theorem len_cons {f : Ev Dt} {g : Ev (List Dt)} {n : Nat} (hg : ∀ ds ρ P P1, g ρ P = some (ds, P1) → ds.length = n) : ∀ ds ρ P P1, eCons f g ρ P = some (ds, P1) → ds.length = n + 1 := fun ds ρ P P1 h => by
  obtain ⟨d, r, P2, _, q2, rfl⟩ := eCons_some h
  rw [List.length_cons, hg _ _ _ _ q2]
def pId {α : Type} (us ws : List α) : List α := ws
def pSwap {α : Type} (us ws : List α) : List α := match ws with
  | [a, b] => [b, a]
  | _ => ws
theorem pId_vals {vs zs : List V} {us ws : List Value} (h : Vals vs us) (h' : Vals zs ws) : Vals (pId vs zs) (pId us ws) := h'
theorem pSwap_vals {vs zs : List V} {us ws : List Value} (h : Vals vs us) (h' : Vals zs ws) : Vals (pSwap vs zs) (pSwap us ws) := by
  cases h' with
  | nil => exact .nil
  | cons r1 t =>
    cases t with
    | nil => exact .cons r1 .nil
    | cons r2 t2 =>
      cases t2 with
      | nil => exact .cons r2 (.cons r1 .nil)
      | cons r3 t3 => exact .cons r1 (.cons r2 (.cons r3 t3))
theorem pId_reps {K : PySem.W.Frag} {U : Addr → Prop} {H : Hp} {ds : List Dt} {vs : List V} (h : Reps K U H ds vs) : Reps K U H (pId [] ds) (pId [] vs) := h
theorem pSwap_reps {K : PySem.W.Frag} {U : Addr → Prop} {H : Hp} : ∀ {ds : List Dt} {vs : List V}, Reps K U H ds vs → Reps K U H (pSwap [] ds) (pSwap [] vs)
  | [], _, h => by cases (show _ = [] from h); rfl
  | [d], _, ⟨x, r, e, h1, h2⟩ => by cases (show r = [] from h2); subst e; exact ⟨x, [], rfl, h1, rfl⟩
  | [d, d'], _, ⟨x, r, e, h1, y, r', e', h2, h3⟩ => by cases (show r' = [] from h3); subst e'; subst e; exact ⟨y, [x], rfl, h2, x, [], rfl, h1, rfl⟩
  | d :: d' :: d'' :: ds, _, ⟨x, r, e, h1, y, r', e', h2, z, r'', e'', h3, h4⟩ => by subst e''; subst e'; subst e; exact ⟨x, _, rfl, h1, y, _, rfl, h2, z, _, rfl, h3, h4⟩
theorem pd_callFK0 {n m' : Nat} {sem : List Dt → Option Dt} {g : Ev (List Dt)} {E : XK} {perm : {α : Type} → List α → List α → List α} (hm : ∀ ds ρ P P1, g ρ P = some (ds, P1) → ds.length = m')
    (hp : ∀ {K : PySem.W.Frag} {U : Addr → Prop} {H : Hp} {ds : List Dt} {vs : List V}, Reps K U H ds vs → Reps K U H (perm [] ds) (perm [] vs))
    (h : PE X e (tCallN 0 m' (spF C.K C.T n sem) (fun vs zs => perm vs zs) E tNil (tDs C g))) : PE X e (tD C (eCallK n sem (fun ds => perm [] ds) g)) := pe_weak h fun σ H Q ⟨U, ρ, P, d, P', R, q, k⟩ => by
  unfold eCallK at q
  cases e1 : g ρ P with
  | none => rw [e1] at q; cases q
  | some x =>
    obtain ⟨ds, P1⟩ := x
    rw [e1] at q
    dsimp only at q
    split at q
    · rename_i hn
      cases e2 : sem (perm [] ds) with
      | none => rw [e2] at q; cases q
      | some d' =>
        rw [e2] at q
        cases q
        refine ⟨U, ρ, P, ds, _, R, e1, fun vs H1 x1 R1 r1 => ⟨rfl, by rw [r1.length]; exact hm _ _ _ _ e1, ?_⟩⟩
        exact ⟨perm [] ds, _, R1.tabs, (hp r1).shrink fun _ z => z.elim, hn, e2, fun v H2 x2 t2 r2 => k v H2 (x1.trans (ext_false x2)) (R1.step (ext_false x2) t2 fun p hp => x2.keep _ _ (R1.pot p hp) (fun z => z) fun _ z => by cases z) (r2.shrink R1.dom)⟩
    · cases q
theorem pd_callKi {n m' : Nat} {sem : List Dt → Option Dt} {g : Ev (List Dt)} {E : XK} (hm : ∀ ds ρ P P1, g ρ P = some (ds, P1) → ds.length = m') (h : PE X e (tCallN 0 m' (spD C.K C.T n sem) (fun vs zs => pId vs zs) E tNil (tDs C g))) : PE X e (tD C (eCallK n sem (fun ds => pId [] ds) g)) := pd_callK0 (perm := fun {α} => @pId α) hm (fun h => pId_reps h) h
theorem pd_callKs {n m' : Nat} {sem : List Dt → Option Dt} {g : Ev (List Dt)} {E : XK} (hm : ∀ ds ρ P P1, g ρ P = some (ds, P1) → ds.length = m') (h : PE X e (tCallN 0 m' (spD C.K C.T n sem) (fun vs zs => pSwap vs zs) E tNil (tDs C g))) : PE X e (tD C (eCallK n sem (fun ds => pSwap [] ds) g)) := pd_callK0 (perm := fun {α} => @pSwap α) hm (fun h => pSwap_reps h) h
theorem pd_callFKi {n m' : Nat} {sem : List Dt → Option Dt} {g : Ev (List Dt)} {E : XK} (hm : ∀ ds ρ P P1, g ρ P = some (ds, P1) → ds.length = m') (h : PE X e (tCallN 0 m' (spF C.K C.T n sem) (fun vs zs => pId vs zs) E tNil (tDs C g))) : PE X e (tD C (eCallK n sem (fun ds => pId [] ds) g)) := pd_callFK0 (perm := fun {α} => @pId α) hm (fun h => pId_reps h) h
theorem pd_callFKs {n m' : Nat} {sem : List Dt → Option Dt} {g : Ev (List Dt)} {E : XK} (hm : ∀ ds ρ P P1, g ρ P = some (ds, P1) → ds.length = m') (h : PE X e (tCallN 0 m' (spF C.K C.T n sem) (fun vs zs => pSwap vs zs) E tNil (tDs C g))) : PE X e (tD C (eCallK n sem (fun ds => pSwap [] ds) g)) := pd_callFK0 (perm := fun {α} => @pSwap α) hm (fun h => pSwap_reps h) h
end
section
variable {X : Cx} {CX : CXT} {k n m' : Nat} {f : Addr} {fd : FuncData} {ps ks : List Str} {sp : Sp} {E : XK} {x : Str} {p pos : Pos} {kws : List Keyword} {tk : TA} {g : List Value → List Value → List Value} {gV : List V → List V → List V}
theorem pe_callKm (F : FnOk X.prog X.w X.K X.mg X.base CX k f fd ps sp) (hr : Room k X.A) (hg : Gl X x) (hm : X.mg x = some (.ref f)) (hk : PySem.W.keepIn X.K (.ref f) = true) (hb : KBn X.K fd ps 0 ks g gV) (hx : Passes CX X E) (hkw : PK X kws tk)
    (hl : ks.length = m' := by rfl) (hall : (backToKw pos (keywordEach kws X.env)).all (·.1.isSome) = true := by rfl) (hks : (backToKw pos (keywordEach kws X.env)).filterMap (·.1) = ks := by rfl) (hdb : (x == ("__debug__" : Str)) = false := by decide)
    (hpl : ((backTo pos (starEach [] X.env)).any (·.1) || (backToKw pos (keywordEach kws X.env)).any (·.1.isNone)) = false := by rfl) :
    PE X (.Call (.Name x p) [] kws pos) (tCallN 0 m' sp gV E tNil tk) := by
  subst hl
  exact pe_callK0 F hr hg hm hk hb hx hkw hall hks hdb hpl
end
end PD

/-! part D11 -/
set_option Elab.async false
set_option linter.all false
set_option maxRecDepth 100000
set_option maxHeartbeats 4000000
/-! a result all new whose rows are changed; a pair whose second name holds a new list; bodies for every pot; own work -/
namespace PD
open PySem PySem.Spec PyProof.Rows L2

/-- a result that keeps clear of all that lives -/
def tF (C : Fx) (f : Ev Dt) : TE := fun σ H Q => ∃ U ρ P d P', Rel C U σ ρ P H ∧ f ρ P = some (d, P') ∧ ∀ v H', Ext C.W H H' → Rel C U σ ρ P' H' → Rep C.K (Live H) H' d v → Q v H'
section
variable {X : Cx} {C : Fx} {e o : Expr} {es : List Expr} {st st1 st2 st3 : Stmt} {sts : List Stmt} {m : Bool}
theorem Rel.live_mono {U : Addr → Prop} {σ : L2.St} {ρ : En} {P P' : Pt} {H H' : Hp} (R : Rel C U σ ρ P H) (R' : Rel C U σ ρ P' H') (e : Ext C.W H H') : ∀ b, Live H b → Live H' b := fun b l => by
  by_cases hb : C.W b
  · exact ⟨_, R'.pot b hb, fun _ z => by cases z⟩
  · exact l.ext e hb
theorem pf_call {n : Nat} {sem : List Dt → Option Dt} {g : Ev (List Dt)} {E : XK} (h : PE X e (tCall (spF C.K C.T n sem) [] E (tDsm false C g))) : PE X e (tF C (eCall n sem g)) := pe_weak h fun σ H Q ⟨U, ρ, P, d, P', R, q, k⟩ => by
  obtain ⟨ds, q1, hl, q2⟩ := eCall_some q
  refine ⟨U, ρ, P, ds, P', R, q1, fun vs H1 e1 R1 r1 => ?_⟩
  show spF C.K C.T n sem (vs ++ []) H1 Q E
  rw [List.append_nil]
  exact ⟨ds, d, R1.tabs, r1.shrink fun _ z => z.elim, hl, q2, fun v H2 e2 t2 r2 => k v H2 (e1.trans (ext_false e2)) (R1.step (ext_false e2) t2 fun p hp => e2.keep _ _ (R1.pot p hp) (fun z => z) fun _ z => by cases z) (r2.shrink (R.live_mono R1 e1))⟩
theorem Rel.forgetX {U : Addr → Prop} {σ : L2.St} {ρ : En} {P : Pt} {H : Hp} (R : Rel C U σ ρ P H) (i : Nat) (x : Option V) : Rel C U (σ.set i x) (ρ.set i .un) P H where
  u0 := R.u0
  d0 := R.d0
  p0 := R.p0
  dom := R.dom
  since := R.since
  tabs := R.tabs
  pot := R.pot
  len := by simp [R.len]
  sl := fun j => by
    by_cases hj : i = j
    · subst hj
      by_cases hl : i < ρ.length
      · rw [List.getElem?_set_self hl]
        trivial
      · rw [List.getElem?_eq_none (by simpa using hl)]
        trivial
    · rw [List.getElem?_set_ne hj, List.getElem?_set_ne hj]
      exact R.sl j
  ap := fun j k ds es h1 h2 h3 => by
    have nj : i ≠ j := fun e => by
      subst e
      by_cases hl : i < ρ.length
      · rw [List.getElem?_set_self hl] at h1; cases h1
      · rw [List.getElem?_eq_none (by simpa using hl)] at h1; cases h1
    have nk : i ≠ k := fun e => by
      subst e
      by_cases hl : i < ρ.length
      · rw [List.getElem?_set_self hl] at h2; cases h2
      · rw [List.getElem?_eq_none (by simpa using hl)] at h2; cases h2
    rw [List.getElem?_set_ne nj] at h1 h3
    rw [List.getElem?_set_ne nk] at h2 h3
    exact R.ap j k ds es h1 h2 h3

/-! ### name.append(e), as it reads -/
theorem ps_appendR {i : Nat} {v : V} {apos cpos pos : Pos} (ho : PE X o (tVar i)) (he : PE X e (tC v)) (hbase : attributeBase o "append" X.env (eval o X.env) = eval o X.env := by rfl)
    (hfew : ((backTo cpos (starEach [e] X.env)).all (fun x => !x.1) && (backToKw cpos (keywordEach [] X.env)).all (fun x => x.1.isSome)
      && decide ([e].length + ([] : List Keyword).length + (if ([] : List Keyword).isEmpty then 0 else 1) < 30)) = true := by rfl)
    (hline : (apos.endLine == cpos.line) = true := by rfl) (hs : starEach [e] X.env = (false, eval e X.env) :: starEach [] X.env := by rfl)
    (hsw : swapsWith (.Call (.Attribute o "append" apos) [e] [] cpos) none pos.line X.env = pure false := by rfl) :
    PS X (.Expr (.Call (.Attribute o "append" apos) [e] [] cpos) pos) (fun D σ H => ∃ l xs, σ[i]? = some (some (.ref l)) ∧ H l = some (.lst xs) ∧ xs.length < sizeLine ∧ D.nx σ (upd H l (.lst (xs ++ [v])))) :=
  ps_weak (ps_expr (pe_bm PySem.F.plainAttrs_list PySem.F.slot_list_append PySem.F.type_list_append mt_append ho (pa_cons he pa_nil hs) hbase hfew hline hs rfl) hsw) fun D σ H ⟨l, xs, hl, hh, hz, q⟩ =>
    ⟨.ref l, hl, .inl ⟨rfl, xs, .inl (.inl hh)⟩, l, xs, v, rfl, rfl, hh, hz, q⟩

/-! ### told = f(..); a test that holds; for row in told: row.append(v) -/
/-- rows of texts, with room for as many more -/
def rowsOk (ds : List Dt) : Bool := ds.all fun d => match d with
  | .list es => decide (es.length + ds.length < sizeLine) && es.all fun x => match x with
    | .str _ => true
    | _ => false
  | _ => false
def RowsAt (H0 : Hp) (a : Addr) (ds : List Dt) (xs : List V) (H' : Hp) (n : Nat) : Prop := ∀ (j : Nat) (d : Dt), ds[j]? = some d → ∃ (es : List Dt) (l : Addr) (ys : List V), d = .list es ∧ es.length + ds.length < sizeLine ∧ xs[j]? = some (.ref l) ∧ l ≠ a ∧ ¬ Live H0 l ∧ H' l = some (.lst ys) ∧ ys.length ≤ es.length + n
def sTold (i r : Nat) (f : Ev Dt) (c : Ev Bool) : Sv := fun ρ P => match f ρ P with
  | some (.list ds, P1) => (match c (ρ.set i (.sh (.list ds))) P1 with
    | some (false, P2) => if rowsOk ds = true ∧ i < ρ.length ∧ r < ρ.length then some (.nx, (ρ.set i .un).set r .un, P2) else none
    | _ => none)
  | _ => none
theorem psd_told {i r : Nat} {f : Ev Dt} {c : Ev Bool} {g : Sv} {v : V} {tb : TS} (hir : i ≠ r) (hK : X.K = C.K) (h1 : PS X st1 (tAsg (tF C f) (gName i))) (h2 : PS X st2 (tIfS (tT C c) tb tNext))
    (h3 : PS X st3 (tFor (iList X.K (tVar i)) (gName r) (fun D σ H => ∃ l xs, σ[r]? = some (some (.ref l)) ∧ H l = some (.lst xs) ∧ xs.length < sizeLine ∧ D.nx σ (upd H l (.lst (xs ++ [v]))))))
    (h4 : PSs X sts (tS C g)) : PSs X (st1 :: st2 :: st3 :: sts) (tS C (sSeq (sTold i r f c) g)) :=
  pss_weak (pss_cons h1 (pss_cons h2 (pss_cons h3 h4))) fun D σ H ⟨U, ρ, P, fl, ρ', P', R, q, k⟩ => by
    unfold sSeq sTold at q
    cases e1 : f ρ P with
    | none => rw [e1] at q; cases q
    | some x =>
      obtain ⟨d, P1⟩ := x
      rw [e1] at q
      cases d with
      | list ds =>
        dsimp only at q
        cases e2 : c (ρ.set i (.sh (.list ds))) P1 with
        | none => rw [e2] at q; cases q
        | some y =>
          obtain ⟨b, P2⟩ := y
          rw [e2] at q
          cases b with
          | true => cases q
          | false =>
            dsimp only at q
            by_cases hro' : rowsOk ds = true ∧ i < ρ.length ∧ r < ρ.length
            · rw [if_pos hro'] at q
              dsimp only at q
              refine ⟨U, ρ, P, _, P1, R, e1, fun w H1 x1 R1 r1 => ?_⟩
              have R1' := R1.set i (r1.shrink R.dom)
              obtain ⟨hro, hii, hrr⟩ := hro'
              have hrl : r < σ.length ∧ i < σ.length := ⟨by rw [R.len]; exact hrr, by rw [R.len]; exact hii⟩
              refine ⟨U, _, P1, false, P2, R1', e2, fun H2 x2 R2 => ?_⟩
              refine iteF ?_
              -- what stands behind the test
              have r2 : Rep C.K (Live H) H2 (.list ds) w := r1.keep x2 fun b hb => R.dom b (R.w b hb)
              obtain ⟨a, xs, rfl, ⟨ha, nla⟩, rr⟩ := r2
              have s1 : (σ.set i (some (.ref a)))[i]? = some (some (.ref a)) := List.getElem?_set_self hrl.2
              refine ⟨.ref a, s1, a, rfl, ⟨xs, .inl (.inl ha)⟩, ?_⟩
              have x12 : Ext C.W H H2 := x1.trans x2
              have row : RowsAt H a ds xs H2 0 := fun j d hd => by
                obtain ⟨x, hx, rx⟩ := rr.at hd
                have ok := List.all_eq_true.mp hro d (List.mem_of_getElem? hd)
                cases d with
                | list es =>
                  obtain ⟨o1, o2⟩ := Bool.and_eq_true_iff.mp ok
                  obtain ⟨l, ys, rfl, ⟨hl, nl⟩, rs⟩ := rx
                  refine ⟨es, l, ys, rfl, of_decide_eq_true o1, hx, fun z => ?_, nl, hl, by rw [rs.length]; exact Nat.le_refl _⟩
                  subst z
                  rw [hl] at ha
                  cases ha
                  obtain ⟨d', hd', rd'⟩ := rs.at' hx
                  have ok' := List.all_eq_true.mp o2 d' (List.mem_of_getElem? hd')
                  cases d' with
                  | str s => cases (show V.ref l = .str s from rd')
                  | _ => cases ok'
                | _ => cases ok
              have hlen := rr.length
              refine ⟨fun n m' σ' H' => m' = ds.length - n ∧ n ≤ ds.length ∧ (∃ y, σ' = (σ.set i (some (.ref a))).set r y) ∧ Ext C.W H H' ∧ Tabs C.T H' ∧ (∀ p, C.pot = some p → H' p = some (.lst [.int P2.1, .int P2.2])) ∧ H' a = some (.lst xs) ∧ RowsAt H a ds xs H' n,
                ⟨ds.length, by simp, Nat.zero_le _, ⟨(σ.set i (some (.ref a)))[r]'(by simpa using hrl.1), by rw [List.set_getElem_self]⟩, x12, R2.tabs, R2.pot, ha, row⟩, ?_⟩
              rintro n m' σ' H' ⟨rfl, hn, ⟨y, rfl⟩, X', T', P'', A', W'⟩
              by_cases hlt : n < ds.length
              · obtain ⟨es, l, ys, h1, h2, h3, h4, h5, h6, h7⟩ := W' n ds[n] (by simp [hlt])
                refine .inr ⟨⟨xs, .ref l, .inl (.inl A'), h3⟩, fun σ3 H3 => ∃ m3, m3 < ds.length - n ∧ (m3 = ds.length - (n + 1) ∧ n + 1 ≤ ds.length ∧ (∃ y, σ3 = (σ.set i (some (.ref a))).set r y) ∧ Ext C.W H H3 ∧ Tabs C.T H3 ∧ (∀ p, C.pot = some p → H3 p = some (.lst [.int P2.1, .int P2.2])) ∧ H3 a = some (.lst xs) ∧ RowsAt H a ds xs H3 (n + 1)), fun σ3 H3 h => h, fun x H3 ⟨eH, hx⟩ => ?_⟩
                subst eH
                have hx := hx xs (.inl (.inl A'))
                rw [h3] at hx
                cases hx
                have npot : ∀ p, C.W p → p ≠ l := fun p hp z => h5 (z ▸ R.dom p (R.w p hp))
                refine ⟨l, ys, by rw [List.set_set]; exact List.getElem?_set_self (by simpa using hrl.1), h6, by omega, ds.length - (n + 1), by omega, rfl, hlt, ⟨some (.ref l), by rw [List.set_set]⟩, ?_, ?_, ?_, ?_, ?_⟩
                · refine ⟨fun b o hb nb t => ?_, fun b ps hb => ?_⟩
                  · by_cases hbl : b = l
                    · subst hbl; exact absurd ⟨o, hb, t⟩ h5
                    · rw [upd_ne hbl]; exact X'.keep b o hb nb t
                  · obtain ⟨ps', e'⟩ := X'.tbl b ps hb
                    exact ⟨ps', by rw [upd_ne (ne_of e' h6 fun z => by cases z)]; exact e'⟩
                · intro p hp
                  refine (T' p hp).keep (fun o h => ?_) fun c q h => by rw [upd_ne (ne_of h h6 fun z => by unfold LamX.CodeO at z; cases z)]; exact h
                  obtain ⟨ps, e'⟩ := (T' p hp).tbl
                  rw [upd_ne (ne_of e' h6 fun z => by cases z)]; exact h
                · intro p hp
                  rw [upd_ne (npot p hp)]; exact P'' p hp
                · rw [upd_ne (Ne.symm h4)]; exact A'
                · intro j d hd
                  obtain ⟨es', l', ys', g1, g2, g3, g4, g5, g6, g7⟩ := W' j d hd
                  by_cases hll : l' = l
                  · subst hll
                    rw [h6] at g6
                    cases g6
                    exact ⟨es', l', _, g1, g2, g3, g4, g5, upd_same, by rw [List.length_append, List.length_singleton]; omega⟩
                  · exact ⟨es', l', ys', g1, g2, g3, g4, g5, by rw [upd_ne hll]; exact g6, by omega⟩
              · have en : n = ds.length := by omega
                refine .inl ⟨⟨xs, .inl (.inl A'), by omega⟩, U, _, P2, fl, ρ', P', ((R.step X' T' P'').forgetX i (some (.ref a))).forgetX r y, q, k.left (.of X' R.w)⟩
            · rw [if_neg hro'] at q
              cases q
      | _ => cases q

/-- name = [..], the other statement of the model -/
theorem psd_setLc {own : List Nat} {it : Ev (List Dt)} {tgt : Tgt} {test : Ev Bool} {elt : Ev Dt} {m2 : Bool} {i : Nat} (h : PS X st (tAsg (tLc (tI false m C it) (tG m C own tgt) (tT C test) (tDm m2 C elt) own) (gName i))) : PS X st (tS C (sSetN m2 i (eComp own it tgt test elt))) := psd_setN (ps_weak h fun D σ H q => lc_imp q)

/-! ### a, b = x, [..] by way of a tuple -/
theorem psd_parO2 {i j : Nat} {f : Ev Dt} {g : Ev (List Dt)} {st : Stmt} {K : PySem.W.Frag} (h : PS X st (tAsg (tTup (tCons (tD C f) (tCons (tLst (tDs C g)) tNil))) (gTup K 2 (gNames [i, j])))) : PS X st (tS C (sParO i j f g)) := ps_weak h fun D σ H ⟨U, ρ, P, fl, ρ', P', R, q, k⟩ => by
  unfold sParO at q
  cases e1 : f ρ P with
  | none => rw [e1] at q; cases q
  | some x =>
    obtain ⟨d, P1⟩ := x
    rw [e1] at q
    dsimp only at q
    cases e2 : g ρ P1 with
    | none => rw [e2] at q; cases q
    | some y =>
      obtain ⟨ds, P2⟩ := y
      rw [e2] at q
      obtain ⟨hl, e3⟩ := ite_some q
      cases e3
      refine ⟨U, ρ, P, d, P1, R, e1, fun v H1 x1 R1 r1 => ⟨U, ρ, P1, ds, _, R1, e2, fun vs H2 x2 R2 r2 => ⟨by rw [r2.length]; exact hl, fun p hp => ⟨show (2:Nat) ≤ sizeLine by decide, fun z hz => ⟨z, _, rfl, .inl (.inl upd_same), rfl, _, _, rfl, _, _, rfl, rfl, ?_⟩⟩⟩⟩⟩
      obtain ⟨nW, n0⟩ := newD R2 hp
      have sm := same_upd (o := HO.tup [v, V.ref p]) hz
      have R3 : Rel C (And1 U p) σ ρ P' (upd (upd H2 p (.lst vs)) z (.tup [v, .ref p])) := (R2.grow hp).same sm
      have rv : Rep C.K (And1 U p) (upd (upd H2 p (.lst vs)) z (.tup [v, .ref p])) d v := ((r1.keep x2 R1.w).grow hp).keep (.of (W := fun _ => False) sm) fun _ z => z.elim
      have R4 := R3.set i rv
      refine k (And1 U p) _ _ ((Left.of (x1.trans x2) R.w).trans ⟨(Ext.of (same_upd hp)).trans (.of sm), fun b z => z.elim .inl fun q => .inr (by rw [q]; exact hp), R2.w⟩) ?_
      refine R4.setOw j (sm _ _ upd_same) (.inr rfl) n0 ((r2.grow hp).keep (.of (W := fun _ => False) sm) fun _ z => z.elim) fun m es _ hm => ?_
      by_cases hmi : i = m
      · subst hmi
        by_cases hl : i < ρ.length
        · rw [List.getElem?_set_self hl] at hm; cases hm
        · rw [List.getElem?_eq_none (by simpa using hl)] at hm; cases hm
      · rw [List.getElem?_set_ne hmi] at hm ⊢
        exact no_ow' R2 hp m es hm

/-! ### the pot's maker; a body whose pot comes first -/
def spN (K : PySem.W.Frag) (T : List TbT) (n : Nat) (g : Sv) : Sp := fun vs H Q _ => ∃ (a : Addr) (ns : List Int) (i : Int) (d : Dt), vs = [.ref a, .int i] ∧ Tabs T H ∧ SqL K H a (ns.map V.int) ∧ resD (g (.vw (.list (ns.map .int)) :: .sh (.int i) :: List.replicate (n - 2) .un) (0, 0)) = some d ∧ d ≠ .none ∧
  ∀ v H', Ext (fun _ => False) H H' → Tabs T H' → Rep K (Live H) H' d v → Q v H'
theorem spN_len {K T n g} : ∀ vs H Q E, spN K T n g vs H Q E → vs.length = 2 := fun vs H Q E ⟨a, ns, i, d, e, _⟩ => by rw [e]; rfl
theorem reps_ints {K : PySem.W.Frag} {U : Addr → Prop} {H : Hp} : ∀ ns : List Int, Reps K U H (ns.map .int) (ns.map V.int)
  | [] => rfl
  | i :: ns => ⟨_, _, rfl, rfl, reps_ints ns⟩
theorem read_bodyN {K : PySem.W.Frag} {T : List TbT} {N : List Str} {g : Sv} {vs : List V} {H : Hp} {Q : VK} {E : XK} (hn : 2 ≤ N.length) (h : spN K T N.length g vs H Q E) : ∃ U0, tS ⟨K, T, U0, none, H⟩ g { nx := fun _ H' => Q .non H', rt := Q } (L2.start N vs) H := by
  obtain ⟨a, ns, i, d, rfl, ht, sq, q, nd, k⟩ := h
  have R : Rel ⟨K, T, Live H, none, H⟩ (Live H) (L2.start N [.ref a, .int i]) (.vw (.list (ns.map .int)) :: .sh (.int i) :: List.replicate (N.length - 2) .un) (0, 0) H := by
    refine ⟨fun _ h => h, fun _ h => h, fun p h => (by cases h), fun _ h => h, .refl, ht, fun p h => (by cases h), by simp [L2.start], fun j => ?_, fun i j es fs h1 h2 h3 => ?_⟩
    · match j with
      | 0 => exact ⟨_, rfl, a, _, rfl, sq.elim (fun z => .inl ⟨z, fun z => by cases z⟩) .inr, reps_ints ns⟩
      | 1 => exact ⟨_, rfl, rfl⟩
      | j + 2 =>
        have e1 : (DV.vw (.list (ns.map .int)) :: .sh (.int i) :: List.replicate (N.length - 2) DV.un)[j + 2]? = (List.replicate (N.length - 2) DV.un)[j]? := rfl
        rw [e1, List.getElem?_replicate]
        split <;> trivial
    · match i with
      | 0 => cases h1
      | 1 => cases h1
      | i + 2 =>
        have h1 : (List.replicate (N.length - 2) DV.un)[i]? = some (.ow es) := h1
        rw [List.getElem?_replicate] at h1
        split at h1 <;> cases h1
  cases e : g (.vw (.list (ns.map .int)) :: .sh (.int i) :: List.replicate (N.length - 2) .un) (0, 0) with
  | none => rw [e] at q; cases q
  | some x =>
    obtain ⟨fl, ρ', P'⟩ := x
    rw [e] at q
    have toE : ∀ {U' : Addr → Prop} {σ' : L2.St} {H' : Hp}, Rel ⟨K, T, Live H, none, H⟩ U' σ' ρ' P' H' → Ext (fun _ => False) H H' := fun R' => R'.since.mono fun b z => by cases z
    cases fl with
    | rt d' =>
      cases q
      exact ⟨Live H, Live H, _, _, _, _, _, R, e, fun U' σ' v H' l R' r' => k v H' (toE R') R'.tabs (r'.shrink R'.u0)⟩
    | nx =>
      cases q
      exact absurd rfl nd
    | bk => cases q
    | ct => cases q
theorem pss_any {α : Type} {t : α → TS} (h : ∀ a, PSs X sts (t a)) : PSs X sts (fun D σ H => ∃ a, t a D σ H) := ⟨fun pins s σ H D I ⟨a, q⟩ => (h a).run pins s σ H D I q⟩
end
end PD

/-! part D12 -/
set_option Elab.async false
set_option linter.all false
set_option maxRecDepth 100000
set_option maxHeartbeats 4000000
/-! a def's call at one known place; a law row's end there (so that what is known of the place may be used); own work -/
namespace PD
open PySem PySem.Spec PyProof.Rows L2

theorem runAt {CX : CXT} {P : Program} {w : World} {K : PySem.W.Frag} {mg : Str → Option Value} {base : Heap} {k : Nat} {f : Addr} {x qual : Str} {params : Arguments} {body : List Stmt} {scope : Scope} {dvs : List V} {kws : List (Str × V)} {fd : FuncData} {N ps : List Str}
    {A : Around} {outer : List Env} {s : Shared} {H : Hp} {args : Args} {us : List Value} {vs : List V} {Q : VK} {E : XK}
    (F : FunD K x qual params body scope dvs kws f fd) (S : FnScope N ps scope) (hr : Room (k + 1) A) (e0 : Env0 P w K mg base A outer s H) (hb : BindsTo s fd args (ps.zip us)) (r : Vals vs us) (hl : vs.length = ps.length)
    (hbody : ∀ cdv : Value, Room k (A.deeper (envOfC qual scope s.heap.objs.size f cdv)) → ∃ t, PSs (cxOf CX P w K mg base N qual scope f cdv A outer s H E) body t ∧ t { nx := fun _ H' => Q .non H', rt := Q } (start N vs) H) :
    codeAny (model P w) A (.call (.ref f) args) (CR CX outer P w H s Q E) s := by
  obtain ⟨oc, od, dV, kV, doc, pm, an, cdv, ct, osl, rfl, lk, hcd, _, _⟩ := F.ex
  have grow := fun b o (e : base.get? b = some o) => (e0.bs b o e).1
  have KX : K.In s.heap := e0.mod.kin.keeps grow
  have lim : s.heap.NoLimit := e0.mod.nolimit.keeps grow
  refine codeAny_call_function hr.depth (KX _ _ lk) rfl S.co S.gen rfl (PySem.W.codeRec_of KX hcd) (hb _ _ _ _ ?_)
  refine wpAny_newFunctionEnv_cells S.kind (fun y hy => (S.par y.1 (List.of_mem_zip hy).1).elim .inl fun q => .inr ⟨q, PySem.W.cellsFrom_some _ _ _ (.inl q)⟩) fun env he s1 x => ?_
  subst he
  refine ⟨lim.keeps x.toInCall.keep, codeAny_func ?_⟩
  obtain ⟨t, ht, hq⟩ := hbody cdv (hr.deeper _)
  refine wpAny_mono (ht.run [] s1 (start N vs) H _ (inv_start S hr.hd e0 hl r x) hq) (fun fl s' hs => ?_) fun e s' hs => hs
  cases fl with
  | ret u => obtain ⟨v, σ', H', J, rv, q⟩ := hs; exact ⟨v, H', J.os, J.bare, J.base, J.hok, rv, q⟩
  | next => obtain ⟨σ', H', J, q⟩ := hs; exact ⟨V.non, H', J.os, J.bare, J.base, J.hok, rfl, q⟩
  | brk => obtain ⟨_, _, _, q⟩ := hs; exact q.elim
  | cont => obtain ⟨_, _, _, q⟩ := hs; exact q.elim

open Classical in
/-- the abstract heap at a law's call: the script locked (unless the module's own), the tables empty -/
noncomputable def hp0 (K : PySem.W.Frag) (a : Addr) (vs : List Value) (ns : List Int) (ts : List Addr) : Hp := fun b =>
  if b ∈ ts then some (.tbl #[]) else if b = a ∧ K.lookup a = none then some (.frz { cls := .type "list", data := .seq vs.toArray } (.lst (ns.map V.int))) else none
theorem law_callA {P : Program} {w : World} {K : PySem.W.Frag} {mg mb : Str → Option Value} {CX : CXT} {fa a : Addr} {cs : List (Addr × Addr)} {s₁ : Shared} {vs : List Value} {ns : List Int}
    (KX : K.In s₁.heap) (hns : s₁.heap.Ns mainGlobals mg) (hb : s₁.heap.Ns builtinsNs mb) (hbb : ∀ x : Str, x ≠ "__name__" → mb x = bootBuiltins x) (hlim : s₁.heap.NoLimit) (hg : s₁.gens = #[])
    (hT : ∀ p ∈ cs, s₁.heap.get? p.2 = some { cls := .none, data := .fields #[] }) (nT : ∀ p ∈ cs, K.lookup p.2 = none) (C : ∀ p ∈ cs, PySem.W.CodeHd s₁.heap p.1 p.2)
    (hbm : ∃ (bm : Addr) (ob : Obj), mg "__builtins__" = some (.ref bm) ∧ bm ≠ builtinsNs ∧ s₁.heap.get? bm = some ob ∧ ob.cls = .type "module" ∧ ob.dict = some builtinsNs ∧ ob.data = .plain)
    (ha : s₁.heap.get? a = some { cls := .type "list", data := .seq vs.toArray }) (hi : IntsAre vs ns) (hl : ns.length ≤ sizeLine)
    (F : ∀ (base : Heap) (H : Hp), K.In base → base.Ns mainGlobals mg → (∀ p ∈ cs, LamX.TabB base mg p.1 p.2) → Env0 P w K mg base callerA [] s₁ H → (∀ p ∈ cs, H p.2 = some (.tbl #[])) → SqL K H a (ns.map V.int) →
      codeAny (model P w) callerA (.call (.ref fa) ⟨[.ref a], []⟩) (CR CX [] P w H s₁ (fun v _ => v = .bl true) fun _ _ _ => False) s₁)
    (hCX : ∀ H e s', CX [] H s₁ (fun _ _ _ => False) e s' → False) :
    codeAny (model P w) callerA (.call (.ref fa) ⟨[.ref a], []⟩) (fun r s' => r = .ok (.ret (.bool true)) ∧ OldK s₁.heap s'.heap ∧ s'.os = s₁.os ∧ AllBare s'.gens) s₁ := by
  have rv := vals_ints hi
  have lenV := hi.length
  -- a table is told by what stands there
  have isT : ∀ b : Addr, b ∈ cs.map (·.2) → ∃ p ∈ cs, p.2 = b ∧ s₁.heap.get? b = some { cls := .none, data := .fields #[] } := fun b hb => by
    obtain ⟨p, hp, e⟩ := List.mem_map.mp hb
    exact ⟨p, hp, e, by rw [← e]; exact hT p hp⟩
  have memT : ∀ p ∈ cs, p.2 ∈ cs.map (·.2) := fun p hp => List.mem_map.mpr ⟨p, hp, rfl⟩
  have aT : a ∉ cs.map (·.2) := fun z => by
    obtain ⟨_, _, _, q⟩ := isT a z
    rw [ha] at q
    cases (show Data.seq vs.toArray _ = Data.fields #[] from congrArg Obj.data (Option.some.inj q))
  obtain ⟨H, eH⟩ : ∃ H, H = hp0 K a vs ns (cs.map (·.2)) := ⟨_, rfl⟩
  have hIn : ∀ {b}, b ∈ cs.map (·.2) → H b = some (.tbl #[]) := fun {b} h => by rw [eH]; exact if_pos h
  have hOut : ∀ {b o}, H b = some o → (b ∈ cs.map (·.2) ∧ o = .tbl #[]) ∨ (b = a ∧ K.lookup a = none ∧ o = .frz { cls := .type "list", data := .seq vs.toArray } (.lst (ns.map V.int))) := fun {b o} h => by
    rw [eH] at h
    unfold hp0 at h
    split at h
    · cases h; exact .inl ⟨by assumption, rfl⟩
    · split at h
      · rename_i z; cases h; exact .inr ⟨z.1, z.2, rfl⟩
      · cases h
  have hS : SqL K H a (ns.map V.int) := by
    cases hk : K.lookup a with
    | some o =>
      have e := KX a o hk
      rw [ha] at e
      cases e
      exact .inr ⟨_, vs.toArray, _, hk, rfl, rfl, rfl, by rw [List.size_toArray, lenV]; exact hl, by simpa using rv⟩
    | none =>
      refine .inl (.inr ⟨{ cls := .type "list", data := .seq vs.toArray }, ?_⟩)
      rw [eH]
      unfold hp0
      rw [if_neg aT, if_pos ⟨rfl, hk⟩]
  have hok : HOk P w H s₁.heap := fun b u z => by
    rcases hOut z with ⟨hb, rfl⟩ | ⟨rfl, hk, rfl⟩
    · obtain ⟨_, _, _, e⟩ := isT b hb
      exact e
    · exact ⟨ha, by rw [List.length_map]; exact hl, vs, _, rv, ha⟩
  -- what is neither a list's record nor a table's is not tracked
  have base_of : ∀ {b : Addr} {o : Obj}, s₁.heap.get? b = some o → (∀ vs n, o.data ≠ .seq vs n) → o.data ≠ .fields #[] → (hidT s₁.heap H).get? b = some o := fun {b o} e h1 h2 => hidT_get e (by
    cases q : H b with
    | none => rfl
    | some u =>
      rcases hOut q with ⟨hb, _⟩ | ⟨rfl, _, _⟩
      · obtain ⟨_, _, _, e'⟩ := isT b hb
        rw [e'] at e; cases e; exact (h2 rfl).elim
      · rw [ha] at e; cases e; exact (h1 _ _ rfl).elim)
  have nsK : ∀ {b : Addr} {m : Str → Option Value}, s₁.heap.Ns b m → (hidT s₁.heap H).Ns b m := fun {b m} ⟨o, es, ep, e, d, r⟩ => ⟨o, es, ep, base_of e (fun vs n z => by rw [d] at z; cases z) (fun z => by rw [d] at z; cases z), d, r⟩
  have hKb : K.In (hidT s₁.heap H) := fun b o e => hidT_get (KX b o e) (by
    cases q : H b with
    | none => rfl
    | some u =>
      rcases hOut q with ⟨hb, _⟩ | ⟨rfl, hk, _⟩
      · obtain ⟨p, hp, ep, _⟩ := isT b hb
        rw [← ep, nT p hp] at e; cases e
      · rw [hk] at e; cases e)
  have hM : L2.Mod K mg (hidT s₁.heap H) := ⟨hKb, nsK hns, ⟨mb, nsK hb, hbb⟩, let ⟨mc, h1, h2⟩ := hlim; ⟨mc, nsK h1, h2⟩⟩
  have TB : ∀ p ∈ cs, LamX.TabB (hidT s₁.heap H) mg p.1 p.2 := fun p hp => by
    have hTp := hT p hp
    refine ⟨?_, ?_, fun z => ?_⟩
    · obtain ⟨o, us, file, tf, flags, tg, inF, text, tt, e1, r1, r2, r3, r4, r5, r6, r7, r8, hne⟩ := C p hp
      exact ⟨o, us, file, tf, flags, tg, inF, text, tt, base_of e1 (fun vs n z => by rw [r2] at z; cases z) (fun z => by rw [r2] at z; cases z; simp at r3), r1, r2, r3, r4, r5, r6, r7, r8, hne⟩
    · obtain ⟨bm, ob, b1, b2, b3, b4, b5, b6⟩ := hbm
      refine ⟨bm, ob, b1, b2, fun q => ?_, fun q => ?_, base_of b3 (fun vs n z => by rw [b6] at z; cases z) (fun z => by rw [b6] at z; cases z), b4, b5, b6⟩
      · obtain ⟨o, es, ep, e, hd, _⟩ := hns
        rw [q, e] at b3; cases b3; rw [hd] at b6; cases b6
      · rw [q, hTp] at b3; cases b3; cases b6
    · obtain ⟨o, es, ep, e, hd, _⟩ := hns
      rw [z, hTp] at e; cases e; cases hd
  have e0 : Env0 P w K mg (hidT s₁.heap H) callerA [] s₁ H := ⟨rfl, hM, fun b o e => of_hidT e, Nat.le_of_eq (hidT_size _ _), trivial, fun b hb => absurd (show b ∈ ([] : List Addr) from hb) (by simp), hok, .of_eq hg⟩
  refine codeAny_mono (F _ H hKb (nsK hns) TB e0 (fun p hp => hIn (memT p hp)) hS) fun r s' h => ?_
  cases r with
  | error e => exact (hCX H e s' h).elim
  | ok fl =>
    cases fl with
    | next => exact False.elim h
    | brk => exact False.elim h
    | cont => exact False.elim h
    | ret u =>
      obtain ⟨v, H', os, bare, un, hok', r', q⟩ := h
      cases (show v = .bl true from q)
      obtain rfl : u = Value.bool true := r'
      have key : ∀ b o, b ∉ cs.map (·.2) → s₁.heap.get? b = some o → s'.heap.get? b = some o := fun b o nb e => by
        cases q : H b with
        | none => exact un.keep b o e q (by intro z; exact absurd (show b ∈ ([] : List Addr) from z) (by simp)) (by simp)
        | some u =>
          rcases hOut q with ⟨z, _⟩ | ⟨_, _, rfl⟩
          · exact absurd z nb
          · obtain ⟨e1, _⟩ := hok b _ q
            obtain ⟨e2, _⟩ := hok' b _ (un.frzs b _ _ q)
            rw [e] at e1; cases e1
            exact e2
      refine ⟨rfl, ⟨fun b o e => ?_, fun b o e => ?_⟩, os, bare⟩
      · by_cases hb : b ∈ cs.map (·.2)
        · obtain ⟨p, hp, rfl, e'⟩ := isT b hb
          obtain ⟨more0, z⟩ := un.tbls p.2 #[] (hIn hb)
          obtain ⟨more, hm⟩ : ∃ more : Array Value, s'.heap.get? p.2 = some { cls := .none, data := .fields more } := ⟨_, hok' p.2 _ z⟩
          rw [e'] at e
          cases e
          exact .inr (.inl ⟨((C p hp).tab (hT p hp)).isCodeTable, rfl, #[], more, rfl, by rw [Array.empty_append]; exact hm⟩)
        · exact .inl (key b o hb e)
      · by_cases hb : b ∈ cs.map (·.2)
        · obtain ⟨more, z⟩ := un.tbls b #[] (hIn hb)
          exact ⟨_, hok' b _ z⟩
        · exact ⟨o, key b o hb e⟩
end PD

/-! part K62H -/
set_option Elab.async false
set_option linter.all false
set_option maxRecDepth 100000
set_option maxHeartbeats 0
namespace Hd
open PySem PySem.Spec PyProof.Rows L2
abbrev pw : Program := PySem.Challenge.pw_allreadings_k62_whole_least_hitting_lots
def top (i : Nat) : Stmt := pw.main.body.getD i (.Pass ⟨0, 0, 0, 0⟩)
abbrev s_is_name : Stmt := top 4
abbrev s_is_rising_lot : Stmt := top 8
abbrev s_lot_within : Stmt := top 9
abbrev s_shares_name : Stmt := top 10
abbrev s_by_size : Stmt := top 11
abbrev s_all_lots : Stmt := top 12
abbrev s_least_of_lots : Stmt := top 13
abbrev s_names_of_family : Stmt := top 14
abbrev s_is_family : Stmt := top 15
abbrev s_hits : Stmt := top 16
abbrev s_thinned_family : Stmt := top 17
abbrev s_least_hitting_plain : Stmt := top 18
abbrev s_grown : Stmt := top 19
abbrev s_least_hitting : Stmt := top 20
abbrev s__law_pot : Stmt := top 22
abbrev s__law_draw : Stmt := top 23
abbrev s__law_pick : Stmt := top 24
abbrev s__law_same : Stmt := top 25
abbrev s__law_names : Stmt := top 26
abbrev s__law_inside : Stmt := top 27
abbrev s__law_all_lots : Stmt := top 28
abbrev s__law_least : Stmt := top 29
abbrev s__law_hits : Stmt := top 30
abbrev s__law_is_name : Stmt := top 31
abbrev s__law_is_family : Stmt := top 32
abbrev s__law_bent : Stmt := top 33
abbrev s__law_great : Stmt := top 34
abbrev s_law : Stmt := top 35
def d_is_name : He.DefD := ⟨("is_name", none), "is_name", "is_name", defArgs s_is_name, defBody s_is_name, defScope s_is_name, [], []⟩
def d_is_rising_lot : He.DefD := ⟨("is_rising_lot", none), "is_rising_lot", "is_rising_lot", defArgs s_is_rising_lot, defBody s_is_rising_lot, defScope s_is_rising_lot, [], []⟩
def d_lot_within : He.DefD := ⟨("lot_within", none), "lot_within", "lot_within", defArgs s_lot_within, defBody s_lot_within, defScope s_lot_within, [], []⟩
def d_shares_name : He.DefD := ⟨("shares_name", none), "shares_name", "shares_name", defArgs s_shares_name, defBody s_shares_name, defScope s_shares_name, [], []⟩
def d_by_size : He.DefD := ⟨("by_size", none), "by_size", "by_size", defArgs s_by_size, defBody s_by_size, defScope s_by_size, [], []⟩
def d_all_lots : He.DefD := ⟨("all_lots", none), "all_lots", "all_lots", defArgs s_all_lots, defBody s_all_lots, defScope s_all_lots, [], []⟩
def d_least_of_lots : He.DefD := ⟨("least_of_lots", none), "least_of_lots", "least_of_lots", defArgs s_least_of_lots, defBody s_least_of_lots, defScope s_least_of_lots, [], []⟩
def d_names_of_family : He.DefD := ⟨("names_of_family", none), "names_of_family", "names_of_family", defArgs s_names_of_family, defBody s_names_of_family, defScope s_names_of_family, [], []⟩
def d_is_family : He.DefD := ⟨("is_family", none), "is_family", "is_family", defArgs s_is_family, defBody s_is_family, defScope s_is_family, [], []⟩
def d_hits : He.DefD := ⟨("hits", none), "hits", "hits", defArgs s_hits, defBody s_hits, defScope s_hits, [], []⟩
def d_thinned_family : He.DefD := ⟨("thinned_family", none), "thinned_family", "thinned_family", defArgs s_thinned_family, defBody s_thinned_family, defScope s_thinned_family, [], []⟩
def d_least_hitting_plain : He.DefD := ⟨("least_hitting_plain", none), "least_hitting_plain", "least_hitting_plain", defArgs s_least_hitting_plain, defBody s_least_hitting_plain, defScope s_least_hitting_plain, [], []⟩
def d_grown : He.DefD := ⟨("grown", none), "grown", "grown", defArgs s_grown, defBody s_grown, defScope s_grown, [], []⟩
def d_least_hitting : He.DefD := ⟨("least_hitting", none), "least_hitting", "least_hitting", defArgs s_least_hitting, defBody s_least_hitting, defScope s_least_hitting, [], []⟩
def d__law_pot : He.DefD := ⟨("_law_pot", none), "_law_pot", "_law_pot", defArgs s__law_pot, defBody s__law_pot, defScope s__law_pot, [], []⟩
def d__law_draw : He.DefD := ⟨("_law_draw", none), "_law_draw", "_law_draw", defArgs s__law_draw, defBody s__law_draw, defScope s__law_draw, [], []⟩
def d__law_pick : He.DefD := ⟨("_law_pick", none), "_law_pick", "_law_pick", defArgs s__law_pick, defBody s__law_pick, defScope s__law_pick, [], []⟩
def d__law_same : He.DefD := ⟨("_law_same", none), "_law_same", "_law_same", defArgs s__law_same, defBody s__law_same, defScope s__law_same, [], []⟩
def d__law_names : He.DefD := ⟨("_law_names", none), "_law_names", "_law_names", defArgs s__law_names, defBody s__law_names, defScope s__law_names, [], []⟩
def d__law_inside : He.DefD := ⟨("_law_inside", none), "_law_inside", "_law_inside", defArgs s__law_inside, defBody s__law_inside, defScope s__law_inside, [], []⟩
def d__law_all_lots : He.DefD := ⟨("_law_all_lots", none), "_law_all_lots", "_law_all_lots", defArgs s__law_all_lots, defBody s__law_all_lots, defScope s__law_all_lots, [], []⟩
def d__law_least : He.DefD := ⟨("_law_least", none), "_law_least", "_law_least", defArgs s__law_least, defBody s__law_least, defScope s__law_least, [], []⟩
def d__law_hits : He.DefD := ⟨("_law_hits", none), "_law_hits", "_law_hits", defArgs s__law_hits, defBody s__law_hits, defScope s__law_hits, [], []⟩
def d__law_is_name : He.DefD := ⟨("_law_is_name", none), "_law_is_name", "_law_is_name", defArgs s__law_is_name, defBody s__law_is_name, defScope s__law_is_name, [], []⟩
def d__law_is_family : He.DefD := ⟨("_law_is_family", none), "_law_is_family", "_law_is_family", defArgs s__law_is_family, defBody s__law_is_family, defScope s__law_is_family, [], []⟩
def d__law_bent : He.DefD := ⟨("_law_bent", none), "_law_bent", "_law_bent", defArgs s__law_bent, defBody s__law_bent, defScope s__law_bent, [], []⟩
def d__law_great : He.DefD := ⟨("_law_great", none), "_law_great", "_law_great", defArgs s__law_great, defBody s__law_great, defScope s__law_great, [], []⟩
def d_law : He.DefD := ⟨("law", none), "law", "law", defArgs s_law, defBody s_law, defScope s_law, [], []⟩
def fn : List He.DefD := [d_is_name, d_is_rising_lot, d_lot_within, d_shares_name, d_by_size, d_all_lots, d_least_of_lots, d_names_of_family, d_is_family, d_hits, d_thinned_family, d_least_hitting_plain, d_grown, d_least_hitting, d__law_pot, d__law_draw, d__law_pick, d__law_same, d__law_names, d__law_inside, d__law_all_lots, d__law_least, d__law_hits, d__law_is_name, d__law_is_family, d__law_bent, d__law_great, d_law]
def fa : List He.Fa := [.glo "is_name", .glo "is_rising_lot", .glo "lot_within", .glo "shares_name", .glo "by_size", .glo "all_lots", .glo "least_of_lots", .glo "names_of_family", .glo "is_family", .glo "hits", .glo "thinned_family", .glo "least_hitting_plain", .glo "grown", .glo "least_hitting", .glo "_law_pot", .glo "_law_draw", .glo "_law_pick", .glo "_law_same", .glo "_law_names", .glo "_law_inside", .glo "_law_all_lots", .glo "_law_least", .glo "_law_hits", .glo "_law_is_name", .glo "_law_is_family", .glo "_law_bent", .glo "_law_great", .glo "law", .free "abs", .free "all", .free "any", .free "bool", .free "divmod", .free "int", .free "isinstance", .free "len", .free "list", .free "max", .free "range", .free "repr", .free "sorted", .free "str", .free "tuple", .free "zip", .str "LETTERS" "abcdefghijklmnopqrstuvwxyz", .str "DIGITS" "0123456789", .int "MOST_NAME" 8, .int "MOST_LOTS" 300, .int "MOST_NAMES" 10]
def tf : List He.Defn := [("is_rising_lot", none), ("lot_within", none), ("shares_name", none), ("by_size", none), ("least_of_lots", none), ("is_family", none), ("hits", none)]
def loose : List Str := (["LETTERS", "DIGITS", "MOST_NAME", "is_name", "MOST_LOTS", "MOST_NAMES", "is_rising_lot", "lot_within", "shares_name", "by_size", "all_lots", "least_of_lots", "names_of_family", "is_family", "hits", "thinned_family", "least_hitting_plain", "grown", "least_hitting", "_law_pot", "_law_draw", "_law_pick", "_law_same", "_law_names", "_law_inside", "_law_all_lots", "_law_least", "_law_hits", "_law_is_name", "_law_is_family"] : List Str) ++ (["_law_bent", "_law_great"] : List Str)
/-- the tables of lambdas are none of the others -/
def ex (K : PySem.W.Frag) : Bool := ((He.cT K ("by_size", none)).2 != (He.cT K ("is_rising_lot", none)).2) && ((He.cT K ("by_size", none)).2 != (He.cT K ("lot_within", none)).2) && ((He.cT K ("by_size", none)).2 != (He.cT K ("shares_name", none)).2) && ((He.cT K ("by_size", none)).2 != (He.cT K ("least_of_lots", none)).2) && ((He.cT K ("by_size", none)).2 != (He.cT K ("is_family", none)).2) && ((He.cT K ("by_size", none)).2 != (He.cT K ("hits", none)).2)
abbrev R : PySem.W.OpenRow := PySem.W.OpenLaw.row PySem.Challenge.rw_allreadings_k62_whole_least_hitting_lots
abbrev hk : PySem.W.Hook := He.hookX 4 fa fn [] tf ex
def ob (s : PySem.W.SharedT) : He.AlX := He.obsX 4 fa fn [] tf ex (HandSHeadRun.getT s)
theorem ob_eq (s : PySem.W.SharedT) : ob s = hk.obs s.abs := He.obsX_eq (HandSHeadRun.getT_eq s)
theorem run (w : World) : HandSHeadRun.RunEq R (PySem.W.view R.prog [35]) hk ob 3000 loose w := by
  intro os
  kernel_rfl
end Hd

/-! part W62g -/
set_option Elab.async false
set_option linter.all false
set_option maxRecDepth 100000
set_option maxHeartbeats 4000000
/-! the walk of law k62's defs; printed by prn.py, own work -/
namespace W62
open PySem PySem.Spec PyProof.Rows L2 PD
abbrev P : Program := Hd.pw
/-- what is known of the module -/
structure G (K : PySem.W.Frag) (mg : Str → Option Value) where
  f_is_name : Addr
  d_is_name : FuncData
  F_is_name : FunD K "is_name" "is_name" (defArgs Hd.s_is_name) (defBody Hd.s_is_name) (defScope Hd.s_is_name) [] [] f_is_name d_is_name
  g_is_name : mg "is_name" = some (.ref f_is_name)
  f_is_rising_lot : Addr
  d_is_rising_lot : FuncData
  F_is_rising_lot : FunD K "is_rising_lot" "is_rising_lot" (defArgs Hd.s_is_rising_lot) (defBody Hd.s_is_rising_lot) (defScope Hd.s_is_rising_lot) [] [] f_is_rising_lot d_is_rising_lot
  g_is_rising_lot : mg "is_rising_lot" = some (.ref f_is_rising_lot)
  f_lot_within : Addr
  d_lot_within : FuncData
  F_lot_within : FunD K "lot_within" "lot_within" (defArgs Hd.s_lot_within) (defBody Hd.s_lot_within) (defScope Hd.s_lot_within) [] [] f_lot_within d_lot_within
  g_lot_within : mg "lot_within" = some (.ref f_lot_within)
  f_shares_name : Addr
  d_shares_name : FuncData
  F_shares_name : FunD K "shares_name" "shares_name" (defArgs Hd.s_shares_name) (defBody Hd.s_shares_name) (defScope Hd.s_shares_name) [] [] f_shares_name d_shares_name
  g_shares_name : mg "shares_name" = some (.ref f_shares_name)
  f_by_size : Addr
  d_by_size : FuncData
  F_by_size : FunD K "by_size" "by_size" (defArgs Hd.s_by_size) (defBody Hd.s_by_size) (defScope Hd.s_by_size) [] [] f_by_size d_by_size
  g_by_size : mg "by_size" = some (.ref f_by_size)
  f_all_lots : Addr
  d_all_lots : FuncData
  F_all_lots : FunD K "all_lots" "all_lots" (defArgs Hd.s_all_lots) (defBody Hd.s_all_lots) (defScope Hd.s_all_lots) [] [] f_all_lots d_all_lots
  g_all_lots : mg "all_lots" = some (.ref f_all_lots)
  f_least_of_lots : Addr
  d_least_of_lots : FuncData
  F_least_of_lots : FunD K "least_of_lots" "least_of_lots" (defArgs Hd.s_least_of_lots) (defBody Hd.s_least_of_lots) (defScope Hd.s_least_of_lots) [] [] f_least_of_lots d_least_of_lots
  g_least_of_lots : mg "least_of_lots" = some (.ref f_least_of_lots)
  f_names_of_family : Addr
  d_names_of_family : FuncData
  F_names_of_family : FunD K "names_of_family" "names_of_family" (defArgs Hd.s_names_of_family) (defBody Hd.s_names_of_family) (defScope Hd.s_names_of_family) [] [] f_names_of_family d_names_of_family
  g_names_of_family : mg "names_of_family" = some (.ref f_names_of_family)
  f_is_family : Addr
  d_is_family : FuncData
  F_is_family : FunD K "is_family" "is_family" (defArgs Hd.s_is_family) (defBody Hd.s_is_family) (defScope Hd.s_is_family) [] [] f_is_family d_is_family
  g_is_family : mg "is_family" = some (.ref f_is_family)
  f_hits : Addr
  d_hits : FuncData
  F_hits : FunD K "hits" "hits" (defArgs Hd.s_hits) (defBody Hd.s_hits) (defScope Hd.s_hits) [] [] f_hits d_hits
  g_hits : mg "hits" = some (.ref f_hits)
  f_thinned_family : Addr
  d_thinned_family : FuncData
  F_thinned_family : FunD K "thinned_family" "thinned_family" (defArgs Hd.s_thinned_family) (defBody Hd.s_thinned_family) (defScope Hd.s_thinned_family) [] [] f_thinned_family d_thinned_family
  g_thinned_family : mg "thinned_family" = some (.ref f_thinned_family)
  f_least_hitting_plain : Addr
  d_least_hitting_plain : FuncData
  F_least_hitting_plain : FunD K "least_hitting_plain" "least_hitting_plain" (defArgs Hd.s_least_hitting_plain) (defBody Hd.s_least_hitting_plain) (defScope Hd.s_least_hitting_plain) [] [] f_least_hitting_plain d_least_hitting_plain
  g_least_hitting_plain : mg "least_hitting_plain" = some (.ref f_least_hitting_plain)
  f_grown : Addr
  d_grown : FuncData
  F_grown : FunD K "grown" "grown" (defArgs Hd.s_grown) (defBody Hd.s_grown) (defScope Hd.s_grown) [] [] f_grown d_grown
  g_grown : mg "grown" = some (.ref f_grown)
  f_least_hitting : Addr
  d_least_hitting : FuncData
  F_least_hitting : FunD K "least_hitting" "least_hitting" (defArgs Hd.s_least_hitting) (defBody Hd.s_least_hitting) (defScope Hd.s_least_hitting) [] [] f_least_hitting d_least_hitting
  g_least_hitting : mg "least_hitting" = some (.ref f_least_hitting)
  f__law_pot : Addr
  d__law_pot : FuncData
  F__law_pot : FunD K "_law_pot" "_law_pot" (defArgs Hd.s__law_pot) (defBody Hd.s__law_pot) (defScope Hd.s__law_pot) [] [] f__law_pot d__law_pot
  g__law_pot : mg "_law_pot" = some (.ref f__law_pot)
  f__law_draw : Addr
  d__law_draw : FuncData
  F__law_draw : FunD K "_law_draw" "_law_draw" (defArgs Hd.s__law_draw) (defBody Hd.s__law_draw) (defScope Hd.s__law_draw) [] [] f__law_draw d__law_draw
  g__law_draw : mg "_law_draw" = some (.ref f__law_draw)
  f__law_pick : Addr
  d__law_pick : FuncData
  F__law_pick : FunD K "_law_pick" "_law_pick" (defArgs Hd.s__law_pick) (defBody Hd.s__law_pick) (defScope Hd.s__law_pick) [] [] f__law_pick d__law_pick
  g__law_pick : mg "_law_pick" = some (.ref f__law_pick)
  f__law_same : Addr
  d__law_same : FuncData
  F__law_same : FunD K "_law_same" "_law_same" (defArgs Hd.s__law_same) (defBody Hd.s__law_same) (defScope Hd.s__law_same) [] [] f__law_same d__law_same
  g__law_same : mg "_law_same" = some (.ref f__law_same)
  f__law_names : Addr
  d__law_names : FuncData
  F__law_names : FunD K "_law_names" "_law_names" (defArgs Hd.s__law_names) (defBody Hd.s__law_names) (defScope Hd.s__law_names) [] [] f__law_names d__law_names
  g__law_names : mg "_law_names" = some (.ref f__law_names)
  f__law_inside : Addr
  d__law_inside : FuncData
  F__law_inside : FunD K "_law_inside" "_law_inside" (defArgs Hd.s__law_inside) (defBody Hd.s__law_inside) (defScope Hd.s__law_inside) [] [] f__law_inside d__law_inside
  g__law_inside : mg "_law_inside" = some (.ref f__law_inside)
  f__law_all_lots : Addr
  d__law_all_lots : FuncData
  F__law_all_lots : FunD K "_law_all_lots" "_law_all_lots" (defArgs Hd.s__law_all_lots) (defBody Hd.s__law_all_lots) (defScope Hd.s__law_all_lots) [] [] f__law_all_lots d__law_all_lots
  g__law_all_lots : mg "_law_all_lots" = some (.ref f__law_all_lots)
  f__law_least : Addr
  d__law_least : FuncData
  F__law_least : FunD K "_law_least" "_law_least" (defArgs Hd.s__law_least) (defBody Hd.s__law_least) (defScope Hd.s__law_least) [] [] f__law_least d__law_least
  g__law_least : mg "_law_least" = some (.ref f__law_least)
  f__law_hits : Addr
  d__law_hits : FuncData
  F__law_hits : FunD K "_law_hits" "_law_hits" (defArgs Hd.s__law_hits) (defBody Hd.s__law_hits) (defScope Hd.s__law_hits) [] [] f__law_hits d__law_hits
  g__law_hits : mg "_law_hits" = some (.ref f__law_hits)
  f__law_is_name : Addr
  d__law_is_name : FuncData
  F__law_is_name : FunD K "_law_is_name" "_law_is_name" (defArgs Hd.s__law_is_name) (defBody Hd.s__law_is_name) (defScope Hd.s__law_is_name) [] [] f__law_is_name d__law_is_name
  g__law_is_name : mg "_law_is_name" = some (.ref f__law_is_name)
  f__law_is_family : Addr
  d__law_is_family : FuncData
  F__law_is_family : FunD K "_law_is_family" "_law_is_family" (defArgs Hd.s__law_is_family) (defBody Hd.s__law_is_family) (defScope Hd.s__law_is_family) [] [] f__law_is_family d__law_is_family
  g__law_is_family : mg "_law_is_family" = some (.ref f__law_is_family)
  f__law_bent : Addr
  d__law_bent : FuncData
  F__law_bent : FunD K "_law_bent" "_law_bent" (defArgs Hd.s__law_bent) (defBody Hd.s__law_bent) (defScope Hd.s__law_bent) [] [] f__law_bent d__law_bent
  g__law_bent : mg "_law_bent" = some (.ref f__law_bent)
  f__law_great : Addr
  d__law_great : FuncData
  F__law_great : FunD K "_law_great" "_law_great" (defArgs Hd.s__law_great) (defBody Hd.s__law_great) (defScope Hd.s__law_great) [] [] f__law_great d__law_great
  g__law_great : mg "_law_great" = some (.ref f__law_great)
  f_law : Addr
  d_law : FuncData
  F_law : FunD K "law" "law" (defArgs Hd.s_law) (defBody Hd.s_law) (defScope Hd.s_law) [] [] f_law d_law
  g_law : mg "law" = some (.ref f_law)
  c_is_rising_lot : Addr
  P_is_rising_lot : Addr
  C_is_rising_lot : d_is_rising_lot.code = .ref c_is_rising_lot
  c_lot_within : Addr
  P_lot_within : Addr
  C_lot_within : d_lot_within.code = .ref c_lot_within
  c_shares_name : Addr
  P_shares_name : Addr
  C_shares_name : d_shares_name.code = .ref c_shares_name
  c_by_size : Addr
  P_by_size : Addr
  C_by_size : d_by_size.code = .ref c_by_size
  c_least_of_lots : Addr
  P_least_of_lots : Addr
  C_least_of_lots : d_least_of_lots.code = .ref c_least_of_lots
  c_is_family : Addr
  P_is_family : Addr
  C_is_family : d_is_family.code = .ref c_is_family
  c_hits : Addr
  P_hits : Addr
  C_hits : d_hits.code = .ref c_hits
  n_by_size_is_rising_lot : P_by_size ≠ P_is_rising_lot
  n_by_size_lot_within : P_by_size ≠ P_lot_within
  n_by_size_shares_name : P_by_size ≠ P_shares_name
  n_by_size_least_of_lots : P_by_size ≠ P_least_of_lots
  n_by_size_is_family : P_by_size ≠ P_is_family
  n_by_size_hits : P_by_size ≠ P_hits
  m_abs : mg "abs" = none
  m_all : mg "all" = none
  m_any : mg "any" = none
  m_bool : mg "bool" = none
  m_divmod : mg "divmod" = none
  m_int : mg "int" = none
  m_isinstance : mg "isinstance" = none
  m_len : mg "len" = none
  m_list : mg "list" = none
  m_max : mg "max" = none
  m_range : mg "range" = none
  m_repr : mg "repr" = none
  m_sorted : mg "sorted" = none
  m_str : mg "str" = none
  m_tuple : mg "tuple" = none
  m_zip : mg "zip" = none
  k_LETTERS : ∃ t, mg "LETTERS" = some (.str "abcdefghijklmnopqrstuvwxyz" t)
  k_DIGITS : ∃ t, mg "DIGITS" = some (.str "0123456789" t)
  k_MOST_NAME : ∃ t, mg "MOST_NAME" = some (.int 8 t)
  k_MOST_LOTS : ∃ t, mg "MOST_LOTS" = some (.int 300 t)
  k_MOST_NAMES : ∃ t, mg "MOST_NAMES" = some (.int 10 t)
def G.T {K : PySem.W.Frag} {mg : Str → Option Value} (E : G K mg) : List TbT := [(E.P_is_rising_lot, none), (E.P_lot_within, none), (E.P_shares_name, none), (E.P_by_size, some (("by_size" : Str) ++ ".<locals>." ++ "<lambda>")), (E.P_least_of_lots, none), (E.P_is_family, none), (E.P_hits, none)]
structure GB {K : PySem.W.Frag} {mg : Str → Option Value} (E : G K mg) (base : Heap) : Prop where
  t_is_rising_lot : GxR.TabB base mg E.c_is_rising_lot E.P_is_rising_lot
  t_lot_within : GxR.TabB base mg E.c_lot_within E.P_lot_within
  t_shares_name : GxR.TabB base mg E.c_shares_name E.P_shares_name
  t_by_size : LamX.TabB base mg E.c_by_size E.P_by_size
  t_least_of_lots : GxR.TabB base mg E.c_least_of_lots E.P_least_of_lots
  t_is_family : GxR.TabB base mg E.c_is_family E.P_is_family
  t_hits : GxR.TabB base mg E.c_hits E.P_hits
section
variable {w : World} {K : PySem.W.Frag} {mg : Str → Option Value} {base : Heap}
theorem G.tm_is_rising_lot (E : G K mg) : (E.P_is_rising_lot, none) ∈ E.T := by simp [G.T]
theorem G.tu_is_rising_lot (E : G K mg) : ∀ p ∈ E.T, p.1 = E.P_is_rising_lot → p.2 = none := by
  intro p hp he
  simp only [G.T, List.mem_cons, List.not_mem_nil, or_false] at hp
  rcases hp with rfl | rfl | rfl | rfl | rfl | rfl | rfl
  · rfl
  · rfl
  · rfl
  · exact absurd he (E.n_by_size_is_rising_lot)
  · rfl
  · rfl
  · rfl
theorem G.tm_lot_within (E : G K mg) : (E.P_lot_within, none) ∈ E.T := by simp [G.T]
theorem G.tu_lot_within (E : G K mg) : ∀ p ∈ E.T, p.1 = E.P_lot_within → p.2 = none := by
  intro p hp he
  simp only [G.T, List.mem_cons, List.not_mem_nil, or_false] at hp
  rcases hp with rfl | rfl | rfl | rfl | rfl | rfl | rfl
  · rfl
  · rfl
  · rfl
  · exact absurd he (E.n_by_size_lot_within)
  · rfl
  · rfl
  · rfl
theorem G.tm_shares_name (E : G K mg) : (E.P_shares_name, none) ∈ E.T := by simp [G.T]
theorem G.tu_shares_name (E : G K mg) : ∀ p ∈ E.T, p.1 = E.P_shares_name → p.2 = none := by
  intro p hp he
  simp only [G.T, List.mem_cons, List.not_mem_nil, or_false] at hp
  rcases hp with rfl | rfl | rfl | rfl | rfl | rfl | rfl
  · rfl
  · rfl
  · rfl
  · exact absurd he (E.n_by_size_shares_name)
  · rfl
  · rfl
  · rfl
theorem G.tm_by_size (E : G K mg) : (E.P_by_size, some (("by_size" : Str) ++ ".<locals>." ++ "<lambda>")) ∈ E.T := by simp [G.T]
theorem G.tu_by_size (E : G K mg) : ∀ p ∈ E.T, p.1 = E.P_by_size → p.2 = some (("by_size" : Str) ++ ".<locals>." ++ "<lambda>") := by
  intro p hp he
  simp only [G.T, List.mem_cons, List.not_mem_nil, or_false] at hp
  rcases hp with rfl | rfl | rfl | rfl | rfl | rfl | rfl
  · exact absurd he (Ne.symm E.n_by_size_is_rising_lot)
  · exact absurd he (Ne.symm E.n_by_size_lot_within)
  · exact absurd he (Ne.symm E.n_by_size_shares_name)
  · rfl
  · exact absurd he (Ne.symm E.n_by_size_least_of_lots)
  · exact absurd he (Ne.symm E.n_by_size_is_family)
  · exact absurd he (Ne.symm E.n_by_size_hits)
theorem G.tm_least_of_lots (E : G K mg) : (E.P_least_of_lots, none) ∈ E.T := by simp [G.T]
theorem G.tu_least_of_lots (E : G K mg) : ∀ p ∈ E.T, p.1 = E.P_least_of_lots → p.2 = none := by
  intro p hp he
  simp only [G.T, List.mem_cons, List.not_mem_nil, or_false] at hp
  rcases hp with rfl | rfl | rfl | rfl | rfl | rfl | rfl
  · rfl
  · rfl
  · rfl
  · exact absurd he (E.n_by_size_least_of_lots)
  · rfl
  · rfl
  · rfl
theorem G.tm_is_family (E : G K mg) : (E.P_is_family, none) ∈ E.T := by simp [G.T]
theorem G.tu_is_family (E : G K mg) : ∀ p ∈ E.T, p.1 = E.P_is_family → p.2 = none := by
  intro p hp he
  simp only [G.T, List.mem_cons, List.not_mem_nil, or_false] at hp
  rcases hp with rfl | rfl | rfl | rfl | rfl | rfl | rfl
  · rfl
  · rfl
  · rfl
  · exact absurd he (E.n_by_size_is_family)
  · rfl
  · rfl
  · rfl
theorem G.tm_hits (E : G K mg) : (E.P_hits, none) ∈ E.T := by simp [G.T]
theorem G.tu_hits (E : G K mg) : ∀ p ∈ E.T, p.1 = E.P_hits → p.2 = none := by
  intro p hp he
  simp only [G.T, List.mem_cons, List.not_mem_nil, or_false] at hp
  rcases hp with rfl | rfl | rfl | rfl | rfl | rfl | rfl
  · rfl
  · rfl
  · rfl
  · exact absurd he (E.n_by_size_hits)
  · rfl
  · rfl
  · rfl
theorem b_is_name (E : G K mg) : Binds K E.d_is_name ["value"] [] := E.F_is_name.bindsN fun _ _ _ _ _ _ us hl => match us, hl with | [_], _ => rfl
theorem b_is_rising_lot (E : G K mg) : Binds K E.d_is_rising_lot ["value"] [] := E.F_is_rising_lot.bindsN fun _ _ _ _ _ _ us hl => match us, hl with | [_], _ => rfl
theorem b_lot_within (E : G K mg) : Binds K E.d_lot_within ["lot", "other"] [] := E.F_lot_within.bindsN fun _ _ _ _ _ _ us hl => match us, hl with | [_, _], _ => rfl
theorem b_shares_name (E : G K mg) : Binds K E.d_shares_name ["lot", "other"] [] := E.F_shares_name.bindsN fun _ _ _ _ _ _ us hl => match us, hl with | [_, _], _ => rfl
theorem b_by_size (E : G K mg) : Binds K E.d_by_size ["lots"] [] := E.F_by_size.bindsN fun _ _ _ _ _ _ us hl => match us, hl with | [_], _ => rfl
theorem b_all_lots (E : G K mg) : Binds K E.d_all_lots ["names"] [] := E.F_all_lots.bindsN fun _ _ _ _ _ _ us hl => match us, hl with | [_], _ => rfl
theorem b_least_of_lots (E : G K mg) : Binds K E.d_least_of_lots ["lots"] [] := E.F_least_of_lots.bindsN fun _ _ _ _ _ _ us hl => match us, hl with | [_], _ => rfl
theorem b_names_of_family (E : G K mg) : Binds K E.d_names_of_family ["family"] [] := E.F_names_of_family.bindsN fun _ _ _ _ _ _ us hl => match us, hl with | [_], _ => rfl
theorem b_is_family (E : G K mg) : Binds K E.d_is_family ["value"] [] := E.F_is_family.bindsN fun _ _ _ _ _ _ us hl => match us, hl with | [_], _ => rfl
theorem b_hits (E : G K mg) : Binds K E.d_hits ["lot", "family"] [] := E.F_hits.bindsN fun _ _ _ _ _ _ us hl => match us, hl with | [_, _], _ => rfl
theorem b_thinned_family (E : G K mg) : Binds K E.d_thinned_family ["family"] [] := E.F_thinned_family.bindsN fun _ _ _ _ _ _ us hl => match us, hl with | [_], _ => rfl
theorem b_least_hitting_plain (E : G K mg) : Binds K E.d_least_hitting_plain ["family"] [] := E.F_least_hitting_plain.bindsN fun _ _ _ _ _ _ us hl => match us, hl with | [_], _ => rfl
theorem b_grown (E : G K mg) : Binds K E.d_grown ["lot", "other"] [] := E.F_grown.bindsN fun _ _ _ _ _ _ us hl => match us, hl with | [_, _], _ => rfl
theorem b_least_hitting (E : G K mg) : Binds K E.d_least_hitting ["family"] [] := E.F_least_hitting.bindsN fun _ _ _ _ _ _ us hl => match us, hl with | [_], _ => rfl
theorem b__law_pot (E : G K mg) : Binds K E.d__law_pot ["_law_script", "_law_k"] [] := E.F__law_pot.bindsN fun _ _ _ _ _ _ us hl => match us, hl with | [_, _], _ => rfl
theorem b__law_draw (E : G K mg) : Binds K E.d__law_draw ["_law_pot_here", "_law_many"] [] := E.F__law_draw.bindsN fun _ _ _ _ _ _ us hl => match us, hl with | [_, _], _ => rfl
theorem b__law_pick (E : G K mg) : Binds K E.d__law_pick ["_law_pot_here", "_law_some"] [] := E.F__law_pick.bindsN fun _ _ _ _ _ _ us hl => match us, hl with | [_, _], _ => rfl
theorem b__law_same (E : G K mg) : Binds K E.d__law_same ["_law_one", "_law_two"] [] := E.F__law_same.bindsN fun _ _ _ _ _ _ us hl => match us, hl with | [_, _], _ => rfl
theorem b__law_names (E : G K mg) : Binds K E.d__law_names ["_law_pot_here", "_law_many"] [] := E.F__law_names.bindsN fun _ _ _ _ _ _ us hl => match us, hl with | [_, _], _ => rfl
theorem b__law_inside (E : G K mg) : Binds K E.d__law_inside ["_law_one", "_law_lot"] [] := E.F__law_inside.bindsN fun _ _ _ _ _ _ us hl => match us, hl with | [_, _], _ => rfl
theorem b__law_all_lots (E : G K mg) : Binds K E.d__law_all_lots ["_law_names_here"] [] := E.F__law_all_lots.bindsN fun _ _ _ _ _ _ us hl => match us, hl with | [_], _ => rfl
theorem b__law_least (E : G K mg) : Binds K E.d__law_least ["_law_lots"] [] := E.F__law_least.bindsN fun _ _ _ _ _ _ us hl => match us, hl with | [_], _ => rfl
theorem b__law_hits (E : G K mg) : Binds K E.d__law_hits ["_law_lot", "_law_family"] [] := E.F__law_hits.bindsN fun _ _ _ _ _ _ us hl => match us, hl with | [_, _], _ => rfl
theorem b__law_is_name (E : G K mg) : Binds K E.d__law_is_name ["_law_value"] [] := E.F__law_is_name.bindsN fun _ _ _ _ _ _ us hl => match us, hl with | [_], _ => rfl
theorem b__law_is_family (E : G K mg) : Binds K E.d__law_is_family ["_law_value"] [] := E.F__law_is_family.bindsN fun _ _ _ _ _ _ us hl => match us, hl with | [_], _ => rfl
theorem b__law_bent (E : G K mg) : Binds K E.d__law_bent ["_law_pot_here", "_law_family", "_law_names_here"] [] := E.F__law_bent.bindsN fun _ _ _ _ _ _ us hl => match us, hl with | [_, _, _], _ => rfl
theorem b__law_great (E : G K mg) : Binds K E.d__law_great ["_law_pot_here", "_law_family"] [] := E.F__law_great.bindsN fun _ _ _ _ _ _ us hl => match us, hl with | [_, _], _ => rfl
theorem b_law (E : G K mg) : Binds K E.d_law ["_law_script"] [] := E.F_law.bindsN fun _ _ _ _ _ _ us hl => match us, hl with | [_], _ => rfl
theorem bk_is_family (E : G K mg) : KBn K E.d_is_family ["value"] 0 ["value"] (fun us ws => pId us ws) (fun vs zs => pId vs zs) := kbindsN E.F_is_family 0 ["value"] (fun {α} => @pId α) (fun h h' => pId_vals h h') fun _ _ _ _ _ _ us ws l1 l2 => match us, ws, l1, l2 with | [], [_], _, _ => rfl
theorem bk_thinned_family (E : G K mg) : KBn K E.d_thinned_family ["family"] 0 ["family"] (fun us ws => pId us ws) (fun vs zs => pId vs zs) := kbindsN E.F_thinned_family 0 ["family"] (fun {α} => @pId α) (fun h h' => pId_vals h h') fun _ _ _ _ _ _ us ws l1 l2 => match us, ws, l1, l2 with | [], [_], _, _ => rfl
theorem bk_least_hitting (E : G K mg) : KBn K E.d_least_hitting ["family"] 0 ["family"] (fun us ws => pId us ws) (fun vs zs => pId vs zs) := kbindsN E.F_least_hitting 0 ["family"] (fun {α} => @pId α) (fun h h' => pId_vals h h') fun _ _ _ _ _ _ us ws l1 l2 => match us, ws, l1, l2 with | [], [_], _, _ => rfl
theorem bk_hits (E : G K mg) : KBn K E.d_hits ["lot", "family"] 0 ["family", "lot"] (fun us ws => pSwap us ws) (fun vs zs => pSwap vs zs) := kbindsN E.F_hits 0 ["family", "lot"] (fun {α} => @pSwap α) (fun h h' => pSwap_vals h h') fun _ _ _ _ _ _ us ws l1 l2 => match us, ws, l1, l2 with | [], [_, _], _, _ => rfl
theorem bk_least_hitting_plain (E : G K mg) : KBn K E.d_least_hitting_plain ["family"] 0 ["family"] (fun us ws => pId us ws) (fun vs zs => pId vs zs) := kbindsN E.F_least_hitting_plain 0 ["family"] (fun {α} => @pId α) (fun h h' => pId_vals h h') fun _ _ _ _ _ _ us ws l1 l2 => match us, ws, l1, l2 with | [], [_], _, _ => rfl
end
end W62

/-! part W62b -/
set_option Elab.async false
set_option linter.all false
set_option maxRecDepth 100000
set_option maxHeartbeats 4000000
namespace W62
open PySem PySem.Spec PyProof.Rows L2 PD
/-! the pot -/
def drawS (P : Pt) : List Dt → Option (Dt × Pt)
  | [.int m] => if 0 < m ∧ m < 1073741824 ∧ -(2 ^ 64) < P.2 ∧ P.2 < 2 ^ 64 then
      (if 0 < P.1 then some (.int (P.1 % m), (P.1 / m, P.2)) else
        let b := (P.2 * 39373 + 8167) % 2147483587
        some (.int ((b * b % 2147483563 / 19) % m), (P.1, b)))
      else none
  | _ => none
def s__law_draw := drawS
theorem ix_at {K : PySem.W.Frag} {σ : L2.St} {H : Hp} {Q : VK} {p : Addr} {xs : List V} {i : Int} {v : V} (hσ : σ[0]? = some (some (.ref p))) (hp : H p = some (.lst xs)) (hi : atI xs i = some v) (q : Q v H) : tOp (rIxL K) (tVar 0) (tC (.int i)) σ H Q :=
  ⟨_, hσ, p, xs, i, v, rfl, rfl, .inl (.inl hp), hi, q⟩
def N__law_draw : List Str := ["_law_pot_here", "_law_many", "_law_digit"]
theorem sc__law_draw : FnScope N__law_draw ["_law_pot_here", "_law_many"] (defScope Hd.s__law_draw) := ⟨rfl, rfl, rfl, by decide +kernel, rfl, by decide +kernel, by decide +kernel⟩
theorem ext_poke {H : Hp} {p q : Addr} {o : HO} (hq : H q = none) {xs ys : List V} (hp : H p = some (.lst xs)) : Ext (fun b => b = p) H (upd (upd H q o) p (.lst ys)) :=
  ⟨fun b u h n _ => by rw [upd_ne n, upd_ne (ne_of_none h hq)]; exact h, fun b ps h => ⟨ps, by rw [upd_ne (ne_of h hp fun z => by cases z), upd_ne (ne_of_none h hq)]; exact h⟩⟩
theorem ext_poke0 {H : Hp} {p : Addr} {xs ys : List V} (hp : H p = some (.lst xs)) : Ext (fun b => b = p) H (upd H p (.lst ys)) :=
  ⟨fun b u h n _ => by rw [upd_ne n]; exact h, fun b ps h => ⟨ps, by rw [upd_ne (ne_of h hp fun z => by cases z)]; exact h⟩⟩
theorem tabs_poke0 {T : List TbT} {H : Hp} {p : Addr} {xs ys : List V} (hp : H p = some (.lst xs)) (t : Tabs T H) : Tabs T (upd H p (.lst ys)) := fun x hx => (t x hx).keep (fun o h => by
    obtain ⟨ps, e⟩ := (t x hx).tbl
    rw [upd_ne (ne_of e hp fun z => by cases z)]; exact h) fun c q h => by rw [upd_ne (ne_of h hp fun z => by unfold LamX.CodeO at z; cases z)]; exact h
theorem ok__law_draw {w : World} {K : PySem.W.Frag} {mg : Str → Option Value} {base : Heap} (E : G K mg) (B : GB E base) : FnOk P w K mg base C8.CX0 1 E.f__law_draw E.d__law_draw ["_law_pot_here", "_law_many"] (spP K E.T 1 s__law_draw) := by
  refine okN (N := N__law_draw) E.F__law_draw sc__law_draw spP_len fun cdv A outer s H vs Q X0 hr h => ?_
  obtain ⟨U, p, ws, P0, P1, ds, d, rfl, hl, ht, hp, hh, r, hd, q, k⟩ := h
  have e0 : ∃ m, ds = [.int m] := by
    unfold s__law_draw drawS at q
    split at q
    · exact ⟨_, rfl⟩
    · cases q
  obtain ⟨m, rfl⟩ := e0
  obtain ⟨x, t, rfl, rx, rt⟩ := r
  cases (show x = .int m from rx)
  cases (show t = [] from rt)
  have q' : (if 0 < m ∧ m < 1073741824 ∧ -(2 ^ 64) < P0.2 ∧ P0.2 < 2 ^ 64 then
      (if 0 < P0.1 then some (PyData.int (P0.1 % m), (P0.1 / m, P0.2)) else
        some (.int (((P0.2 * 39373 + 8167) % 2147483587 * ((P0.2 * 39373 + 8167) % 2147483587) % 2147483563 / 19) % m), (P0.1, (P0.2 * 39373 + 8167) % 2147483587)))
      else none) = some (d, P1) := q
  split at q'
  case isFalse => cases q'
  rename_i hm
  obtain ⟨h1, h2, h3, h4⟩ := hm
  refine ⟨_, pss_cons (ps_if (pt_cmpR op_gt (pe_ix ix_list (pv' 0) pe_int (fun _ _ => rfl)) pe_int (nomark _))
      (pss_cons (ps_asg (pe_callB call_divmod rfl E.m_divmod (by decide +kernel) (pa_cons (pe_ix ix_list (pv' 0) pe_int (fun _ _ => rfl)) (pa_cons (pv' 1) pa_nil))) (pg_tup rfl (pgs_cons (pg_sub (pv' 0) pe_int set_list) (pgs_cons (pg_name (i := 2) sc__law_draw.nd rfl (Or.inl rfl)) pgs_nil))))
        (pss_one (ps_ret (pv' 2)))) pss_nil)
    (pss_cons (ps_asg (pe_op op_mod (pe_callTy call_int1 rfl E.m_int (by decide +kernel) (pa_cons (pe_op op_add (pe_op op_mul (pe_ix ix_list (pv' 0) pe_int (fun _ _ => rfl)) pe_int) pe_int) pa_nil)) pe_int) (pg_sub (pv' 0) pe_int set_list))
      (pss_one (ps_ret (pe_op op_mod (pe_callTy call_int1 rfl E.m_int (by decide +kernel) (pa_cons (pe_op op_fdiv (pe_op op_mod (pe_callTy call_int1 rfl E.m_int (by decide +kernel) (pa_cons (pe_op op_mul (pe_ix ix_list (pv' 0) pe_int (fun _ _ => rfl)) (pe_ix ix_list (pv' 0) pe_int (fun _ _ => rfl))) pa_nil)) pe_int) pe_int) pa_nil)) (pv' 1))))), ?_⟩
  have hσ : (L2.start N__law_draw [V.ref p, .int m])[0]? = some (some (.ref p)) := rfl
  refine ix_at hσ hh (show atI [V.int P0.1, .int P0.2] 0 = some (.int P0.1) from rfl) ⟨P0.1, 0, rfl, rfl, _, rfl, ?_⟩
  by_cases h0 : 0 < P0.1
  · rw [show decide (0 < P0.1) = true from decide_eq_true h0]
    refine iteT ?_
    rw [if_pos h0] at q'
    cases q'
    refine ix_at hσ hh (show atI [V.int P0.1, .int P0.2] 0 = some (.int P0.1) from rfl) ⟨.int m, rfl, P0.1, m, rfl, ⟨h1, h2⟩, fun z hz => ?_⟩
    have npz : p ≠ z := ne_of_none hh hz
    have hh' : upd H z (.tup [.int (P0.1 / m), .int (P0.1 % m)]) p = some (.lst [.int P0.1, .int P0.2]) := by rw [upd_ne npz]; exact hh
    refine ⟨z, _, rfl, .inl (.inl upd_same), rfl, _, _, rfl, .ref p, rfl, p, _, 0, 0, rfl, rfl, hh', rfl, _, _, rfl, rfl, ?_⟩
    refine ⟨_, rfl, k _ _ (ext_poke hz hh) (tabs_poke0 hh' fun x hx => (ht x hx).same (same_upd hz)) ?_ rfl⟩
    rw [upd_same]
    rfl
  · rw [show decide (0 < P0.1) = false from decide_eq_false h0]
    refine iteF ?_
    rw [if_neg h0] at q'
    cases q'
    generalize hb : (P0.2 * 39373 + 8167) % 2147483587 = b at k
    have b1 : 0 ≤ b := by rw [← hb]; exact Int.emod_nonneg _ (by decide)
    have b2 : b < 2147483587 := by rw [← hb]; exact Int.emod_lt_of_pos _ (by decide)
    refine ix_at hσ hh (show atI [V.int P0.1, .int P0.2] 1 = some (.int P0.2) from rfl) ⟨P0.2, 39373, rfl, rfl, .inl ⟨h3, h4⟩, _, _, rfl, rfl, .inl ⟨_, rfl, _, _, rfl, rfl, (show (0:Int) < 2147483587 by decide), .ref p, rfl, p, _, 1, 1, rfl, rfl, hh, rfl, ?_⟩⟩
    have hp' : upd H p (.lst (([V.int P0.1, .int P0.2] : List V).set 1 (.int ((P0.2 * 39373 + 8167) % 2147483587)))) p = some (.lst [V.int P0.1, .int b]) := by
      rw [upd_same, hb]; rfl
    refine ix_at hσ hp' (show atI [V.int P0.1, .int b] 1 = some (.int b) from rfl) (ix_at hσ hp' (show atI [V.int P0.1, .int b] 1 = some (.int b) from rfl) ⟨b, b, rfl, rfl, .inl ⟨by omega, by omega⟩, .inl ⟨_, rfl, _, _, rfl, rfl, (show (0:Int) < 2147483563 by decide), _, _, rfl, rfl, ⟨show (0:Int) < 19 by decide, show (19:Int) < 1073741824 by decide⟩, .inl ⟨_, rfl, .int m, rfl, _, _, rfl, rfl, h1, ?_⟩⟩⟩)
    exact k _ _ (ext_poke0 hh) (tabs_poke0 hh ht) hp' rfl
def N_is_name : List Str := ["value", "sign"]
theorem sc_is_name : FnScope N_is_name ["value"] (defScope Hd.s_is_name) := ⟨rfl, rfl, rfl, by decide +kernel, rfl, by decide +kernel, by decide +kernel⟩
def g_is_name : Sv := (sSeq (sIf (eOr (eNot (asB (eIsi "str" (vV true 0)))) (eOr (asB (eOp gLt (eFn gLen (eCons (vV true 0) eNil)) (eC (.int 1)))) (asB (eOp gGt (eFn gLen (eCons (vV true 0) eNil)) (eC (.int 8)))))) (sRet (eC (.bool false))) sNil) (sSeq (sIf (asB (eOp gNin (eOp gIx (vV true 0) (eC (.int 0))) (eC (.str "abcdefghijklmnopqrstuvwxyz")))) (sRet (eC (.bool false))) sNil) (sRet (eFn gAll (eCons (eComp [1] (asS (vV true 0)) (gN true 1) eYes (eOrV (eOp gIn (vV true 1) (eC (.str "abcdefghijklmnopqrstuvwxyz"))) (eOp gIn (vV true 1) (eC (.str "0123456789"))))) eNil)))))
def s_is_name := semD 2 g_is_name
theorem ok_is_name {w : World} {K : PySem.W.Frag} {mg : Str → Option Value} {base : Heap} (E : G K mg) (B : GB E base) : FnOk P w K mg base C8.CX0 1 E.f_is_name E.d_is_name ["value"] (spD K E.T 1 s_is_name) := by
  refine okN (N := N_is_name) E.F_is_name sc_is_name spD_len fun cdv A outer s H vs Q X0 hr h => ?_
  obtain ⟨U0, h⟩ := read_body (N := N_is_name) (by decide) h
  exact ⟨tS ⟨K, E.T, U0, none, H⟩ g_is_name, (pssd_cons (psd_if (ps_if (PW.pt (pwd_or (ptd_not (ptd_val (m := true) (pd_isi (t := "str") rfl rfl E.m_isinstance (pv_var (pv' 0)) rfl E.m_str (by decide +kernel)))) (pwd_or (ptd_cmp (m := true) (dd_lt hr) (pv_of (pd_callB cc_len rfl E.m_len (by decide +kernel) (pvs_cons (pv_var (pv' 0)) pvs_nil))) (pv_of (pc_int pe_int)) (nomark _)) (pwd_or1 (ptd_cmp (m := true) (dd_gt hr) (pv_of (pd_callB cc_len rfl E.m_len (by decide +kernel) (pvs_cons (pv_var (pv' 0)) pvs_nil))) (pv_of (pc_int (gint E.k_MOST_NAME))) (nomark _)))))) (pssd_one (psd_ret (ps_ret (pc_bool pe_bl)))) pssd_nil)) (pssd_cons (psd_if (ps_if (ptd_cmp (m := true) (dd_nin hr) (pv_of (pd_ix rfl (pv_var (pv' 0)) (pv_of (pc_int pe_int)))) (pv_of (pc_str (gstr E.k_LETTERS))) (by with_unfolding_all rfl)) (pssd_one (psd_ret (ps_ret (pc_bool pe_bl)))) pssd_nil)) (pssd_one (psd_ret (ps_ret (pd_callB (cc_all rfl) rfl E.m_all (by decide +kernel) (pvs_cons (pv_of (pd_lc (m := true) rfl (pe_lc (own := [("sign", 1)]) rfl sc_is_name.nd (pid_str (px_f (pv_var (pv' 0)))) (blkOk_by (N := N_is_name) (sc := defScope Hd.s_is_name) (by decide +kernel)) (fun _ _ _ _ _ => (pgd_name (pg_name (i := 1) sc_is_name.nd rfl (by first | exact Or.inl rfl | exact Or.inr rfl)) (by decide))) (fun _ _ _ _ _ => pts_no) (fun _ _ _ _ _ => (pd_or (pd_cmp (dd_in hr) (pv_var (pv' 1)) (pv_of (pc_str (gstr E.k_LETTERS))) (by with_unfolding_all rfl)) (pd_one (pd_cmp (dd_in hr) (pv_var (pv' 1)) (pv_of (pc_str (gstr E.k_DIGITS))) (by with_unfolding_all rfl)))))))) pvs_nil))))))), h⟩
def N_is_rising_lot : List Str := ["value", "one", "other", "name"]
theorem sc_is_rising_lot : FnScope N_is_rising_lot ["value"] (defScope Hd.s_is_rising_lot) := ⟨rfl, rfl, rfl, by decide +kernel, rfl, by decide +kernel, by decide +kernel⟩
def g_is_rising_lot : Sv := (sSeq (sIf (eOr (eNot (asB (eIsi "list" (vV true 0)))) (eNot (asB (eGen false [3] (asL (vV true 0)) (gN true 3) eYes (eCall 1 s_is_name (eCons (eV true 3) eNil)))))) (sRet (eC (.bool false))) sNil) (sRet (eGen false [1, 2] (asZ (eCons (vV true 0) (eCons (eSl (vV true 0) (oAt (eC (.int 1))) oNo) eNil))) (gT true [1, 2]) eYes (eOp gLt (vV true 1) (vV true 2)))))
def s_is_rising_lot := semD 4 g_is_rising_lot
theorem ok_is_rising_lot {w : World} {K : PySem.W.Frag} {mg : Str → Option Value} {base : Heap} (E : G K mg) (B : GB E base) : FnOk P w K mg base C8.CX0 3 E.f_is_rising_lot E.d_is_rising_lot ["value"] (spD K E.T 1 s_is_rising_lot) := by
  refine okX (N := N_is_rising_lot) E.F_is_rising_lot E.C_is_rising_lot sc_is_rising_lot spD_len fun A outer s H vs Q X0 hr h => ?_
  obtain ⟨U0, h⟩ := read_body (N := N_is_rising_lot) (by decide) h
  exact ⟨tS ⟨K, E.T, U0, none, H⟩ g_is_rising_lot, (pssd_cons (psd_if (ps_if (PW.pt (pwd_or (ptd_not (ptd_val (m := true) (pd_isi (t := "list") rfl rfl E.m_isinstance (pv_var (pv' 0)) rfl E.m_list (by decide +kernel)))) (pwd_or1 (ptd_not (ptd_val (m := true) (pd_gen (m := true) (m2 := true) (E.tm_is_rising_lot) (E.tu_is_rising_lot) (GX.pe_gall (k := 1) (own := [("name", 3)]) hr sc_is_rising_lot.nd rfl E.m_all (B.t_is_rising_lot) rfl (GX.genS_by (N := N_is_rising_lot) (sc := defScope Hd.s_is_rising_lot) (by decide +kernel)) (pid_list (px_f (pv_var (pv' 0))) rfl) (fun A' _ _ _ _ _ _ hr => (pgd_name (pg_name (i := 3) sc_is_rising_lot.nd rfl (by first | exact Or.inl rfl | exact Or.inr rfl)) (by decide))) (fun A' _ _ _ _ _ _ hr => pts_no) (fun A' _ _ _ _ _ _ hr => (pd_call0 (E := C8.E0) (pe_call (ok_is_name E B) (hr.mono (by decide)) rfl E.g_is_name E.F_is_name.kp (b_is_name E) .nil C8.pass0 (pds_cons (pd_var (pv' 3)) pds_nil))))))))))) (pssd_one (psd_ret (ps_ret (pc_bool pe_bl)))) pssd_nil)) (pssd_one (psd_ret (ps_ret (pd_gen (m := true) (m2 := true) (E.tm_is_rising_lot) (E.tu_is_rising_lot) (GX.pe_gall (k := 1) (own := [("one", 1), ("other", 2)]) hr sc_is_rising_lot.nd rfl E.m_all (B.t_is_rising_lot) rfl (GX.genS_by (N := N_is_rising_lot) (sc := defScope Hd.s_is_rising_lot) (by decide +kernel)) (pid_zip rfl rfl E.m_zip (pxs_f (pvs_cons (pv_var (pv' 0)) (pvs_cons (pv_of (pd_sl rfl (pv_var (pv' 0)) (pod_at (m := true) (pv_of (pc_int pe_int))) pod_no)) pvs_nil)))) (fun A' _ _ _ _ _ _ hr => (pgd_tup rfl rfl (pg_tup rfl (pgs_cons (pg_name (i := 1) sc_is_rising_lot.nd rfl (by first | exact Or.inl rfl | exact Or.inr rfl)) (pgs_cons (pg_name (i := 2) sc_is_rising_lot.nd rfl (by first | exact Or.inl rfl | exact Or.inr rfl)) pgs_nil))) (by decide))) (fun A' _ _ _ _ _ _ hr => pts_no) (fun A' _ _ _ _ _ _ hr => (pd_cmp (dd_lt hr) (pv_var (pv' 1)) (pv_var (pv' 2)) (nomark _))))))))), h⟩
def N_lot_within : List Str := ["lot", "other", "name"]
theorem sc_lot_within : FnScope N_lot_within ["lot", "other"] (defScope Hd.s_lot_within) := ⟨rfl, rfl, rfl, by decide +kernel, rfl, by decide +kernel, by decide +kernel⟩
def g_lot_within : Sv := (sRet (eGen false [2] (asL (vV true 0)) (gN true 2) eYes (eOp gIn (vV true 2) (vV true 1))))
def s_lot_within := semD 3 g_lot_within
theorem ok_lot_within {w : World} {K : PySem.W.Frag} {mg : Str → Option Value} {base : Heap} (E : G K mg) (B : GB E base) : FnOk P w K mg base C8.CX0 2 E.f_lot_within E.d_lot_within ["lot", "other"] (spD K E.T 2 s_lot_within) := by
  refine okX (N := N_lot_within) E.F_lot_within E.C_lot_within sc_lot_within spD_len fun A outer s H vs Q X0 hr h => ?_
  obtain ⟨U0, h⟩ := read_body (N := N_lot_within) (by decide) h
  exact ⟨tS ⟨K, E.T, U0, none, H⟩ g_lot_within, (pssd_one (psd_ret (ps_ret (pd_gen (m := true) (m2 := true) (E.tm_lot_within) (E.tu_lot_within) (GX.pe_gall (k := 0) (own := [("name", 2)]) hr sc_lot_within.nd rfl E.m_all (B.t_lot_within) rfl (GX.genS_by (N := N_lot_within) (sc := defScope Hd.s_lot_within) (by decide +kernel)) (pid_list (px_f (pv_var (pv' 0))) rfl) (fun A' _ _ _ _ _ _ hr => (pgd_name (pg_name (i := 2) sc_lot_within.nd rfl (by first | exact Or.inl rfl | exact Or.inr rfl)) (by decide))) (fun A' _ _ _ _ _ _ hr => pts_no) (fun A' _ _ _ _ _ _ hr => (pd_cmp (dd_in hr) (pv_var (pv' 2)) (pv_var (pv' 1)) (by with_unfolding_all rfl)))))))), h⟩
def N_shares_name : List Str := ["lot", "other", "name"]
theorem sc_shares_name : FnScope N_shares_name ["lot", "other"] (defScope Hd.s_shares_name) := ⟨rfl, rfl, rfl, by decide +kernel, rfl, by decide +kernel, by decide +kernel⟩
def g_shares_name : Sv := (sRet (eGen true [2] (asL (vV true 0)) (gN true 2) eYes (eOp gIn (vV true 2) (vV true 1))))
def s_shares_name := semD 3 g_shares_name
theorem ok_shares_name {w : World} {K : PySem.W.Frag} {mg : Str → Option Value} {base : Heap} (E : G K mg) (B : GB E base) : FnOk P w K mg base C8.CX0 2 E.f_shares_name E.d_shares_name ["lot", "other"] (spD K E.T 2 s_shares_name) := by
  refine okX (N := N_shares_name) E.F_shares_name E.C_shares_name sc_shares_name spD_len fun A outer s H vs Q X0 hr h => ?_
  obtain ⟨U0, h⟩ := read_body (N := N_shares_name) (by decide) h
  exact ⟨tS ⟨K, E.T, U0, none, H⟩ g_shares_name, (pssd_one (psd_ret (ps_ret (pd_gen (m := true) (m2 := true) (E.tm_shares_name) (E.tu_shares_name) (GX.pe_gany (k := 0) (own := [("name", 2)]) hr sc_shares_name.nd rfl E.m_any (B.t_shares_name) rfl (GX.genS_by (N := N_shares_name) (sc := defScope Hd.s_shares_name) (by decide +kernel)) (pid_list (px_f (pv_var (pv' 0))) rfl) (fun A' _ _ _ _ _ _ hr => (pgd_name (pg_name (i := 2) sc_shares_name.nd rfl (by first | exact Or.inl rfl | exact Or.inr rfl)) (by decide))) (fun A' _ _ _ _ _ _ hr => pts_no) (fun A' _ _ _ _ _ _ hr => (pd_cmp (dd_in hr) (pv_var (pv' 2)) (pv_var (pv' 1)) (by with_unfolding_all rfl)))))))), h⟩
def N_by_size : List Str := ["lots"]
theorem sc_by_size : FnScope N_by_size ["lots"] (defScope Hd.s_by_size) := ⟨rfl, rfl, rfl, by decide +kernel, rfl, by decide +kernel, by decide +kernel⟩
theorem sc_by_size_lam : FnScope ["one"] ["one"] { kind := .function, names := [("one", .local), ("len", .globalImplicit)], isGenerator := false, isCoroutine := false } := ⟨rfl, rfl, rfl, by decide +kernel, rfl, by decide +kernel, by decide +kernel⟩
def g_by_size : Sv := (sRet (eSortK (lamSem 1 (eTup (eCons (eFn gLen (eCons (vV true 0) eNil)) (eCons (eV true 0) eNil)))) (vV true 0)))
def s_by_size := semD 1 g_by_size
theorem ok_by_size {w : World} {K : PySem.W.Frag} {mg : Str → Option Value} {base : Heap} (E : G K mg) (B : GB E base) : FnOk P w K mg base C8.CX0 3 E.f_by_size E.d_by_size ["lots"] (spD K E.T 1 s_by_size) := by
  refine okX (N := N_by_size) E.F_by_size E.C_by_size sc_by_size spD_len fun A outer s H vs Q X0 hr h => ?_
  obtain ⟨U0, h⟩ := read_body (N := N_by_size) (by decide) h
  exact ⟨tS ⟨K, E.T, U0, none, H⟩ g_by_size, (pssd_one (psd_ret (ps_ret (pd_sortLam (N := ["one"]) (y := "one") (k := 0) hr rfl rfl E.m_sorted (pv_var (pv' 0)) (B.t_by_size) rfl E.tm_by_size E.tu_by_size rfl rfl (by decide +kernel) sc_by_size_lam (fun _ _ _ _ _ => rfl) (fun A outer s H f c' U0 hr => (pd_tup (pds_cons (pd_callB cc_len rfl E.m_len (by decide +kernel) (pvs_cons (pv_var (pv' 0)) pvs_nil)) (pds_cons (pd_var (pv' 0)) pds_nil)))))))), h⟩
def N_all_lots : List Str := ["names", "lots", "name", "lot"]
theorem sc_all_lots : FnScope N_all_lots ["names"] (defScope Hd.s_all_lots) := ⟨rfl, rfl, rfl, by decide +kernel, rfl, by decide +kernel, by decide +kernel⟩
def g_all_lots : Sv := (sSeq (sSetN true 1 (eLst (eCons (eLst eNil) eNil))) (sSeq (sFor (asL (eV true 0)) (gN true 2) (sSetN true 1 (eOp gAdd (vV true 1) (eComp [3] (asL (vV true 1)) (gN true 3) eYes (eOp gAdd (vV true 3) (eLst (eCons (eV true 2) eNil))))))) (sRet (eCall 1 s_by_size (eCons (eV true 1) eNil)))))
def s_all_lots := semD 4 g_all_lots
theorem ok_all_lots {w : World} {K : PySem.W.Frag} {mg : Str → Option Value} {base : Heap} (E : G K mg) (B : GB E base) : FnOk P w K mg base C8.CX0 4 E.f_all_lots E.d_all_lots ["names"] (spD K E.T 1 s_all_lots) := by
  refine okN (N := N_all_lots) E.F_all_lots sc_all_lots spD_len fun cdv A outer s H vs Q X0 hr h => ?_
  obtain ⟨U0, h⟩ := read_body (N := N_all_lots) (by decide) h
  exact ⟨tS ⟨K, E.T, U0, none, H⟩ g_all_lots, (pssd_cons (psd_setN (ps_set (i := 1) sc_all_lots.nd rfl (by first | exact Or.inl rfl | exact Or.inr rfl) (pd_lst (pds_cons (pd_lst pds_nil) pds_nil)))) (pssd_cons (psd_for (m := true) (own := [2]) (ps_for PassesOwn.never rfl (pid_list (px_t (pd_var (pv' 0))) rfl) (pgd_name (pg_name (i := 2) sc_all_lots.nd rfl (by first | exact Or.inl rfl | exact Or.inr rfl)) (by decide)) (pssd_one (psd_setN (ps_set (i := 1) sc_all_lots.nd rfl (by first | exact Or.inl rfl | exact Or.inr rfl) (pd_op dd_add (pv_var (pv' 1)) (pv_of (pd_lc (m := true) rfl (pe_lc (own := [("lot", 3)]) rfl sc_all_lots.nd (pid_list (px_f (pv_var (pv' 1))) rfl) (blkOk_by (N := N_all_lots) (sc := defScope Hd.s_all_lots) (by decide +kernel)) (fun _ _ _ _ _ => (pgd_name (pg_name (i := 3) sc_all_lots.nd rfl (by first | exact Or.inl rfl | exact Or.inr rfl)) (by decide))) (fun _ _ _ _ _ => pts_no) (fun _ _ _ _ _ => (pd_op dd_add (pv_var (pv' 3)) (pv_of (pd_lst (pds_cons (pd_var (pv' 2)) pds_nil)))))))))))))) (pssd_one (psd_ret (ps_ret (pd_call0 (E := C8.E0) (pe_call (ok_by_size E B) (hr.mono (by decide)) rfl E.g_by_size E.F_by_size.kp (b_by_size E) .nil C8.pass0 (pds_cons (pd_var (pv' 1)) pds_nil)))))))), h⟩
def N_least_of_lots : List Str := ["lots", "kept", "lot", "one"]
theorem sc_least_of_lots : FnScope N_least_of_lots ["lots"] (defScope Hd.s_least_of_lots) := ⟨rfl, rfl, rfl, by decide +kernel, rfl, by decide +kernel, by decide +kernel⟩
def g_least_of_lots : Sv := (sSeq (sNew 1 eNil) (sSeq (sFor (asL (eCall 1 s_by_size (eCons (eV false 0) eNil))) (gN false 2) (sIf (eNot (asB (eGen true [3] (asL (vV true 1)) (gN true 3) eYes (eCall 2 s_lot_within (eCons (eV false 3) (eCons (eV false 2) eNil)))))) (sApp 1 (eFn gList (eCons (eFl (vV false 2)) eNil))) sNil)) (sRet (eFn gSorted (eCons (vV true 1) eNil)))))
def s_least_of_lots := semF 4 g_least_of_lots
theorem ok_least_of_lots {w : World} {K : PySem.W.Frag} {mg : Str → Option Value} {base : Heap} (E : G K mg) (B : GB E base) : FnOk P w K mg base C8.CX0 4 E.f_least_of_lots E.d_least_of_lots ["lots"] (spF K E.T 1 s_least_of_lots) := by
  refine okX (N := N_least_of_lots) E.F_least_of_lots E.C_least_of_lots sc_least_of_lots spF_len fun A outer s H vs Q X0 hr h => ?_
  obtain ⟨U0, h⟩ := read_bodyF (N := N_least_of_lots) (by decide) h
  exact ⟨tS ⟨K, E.T, U0, none, H⟩ g_least_of_lots, (pssd_cons (psd_new (ps_set (i := 1) sc_least_of_lots.nd rfl (by first | exact Or.inl rfl | exact Or.inr rfl) (pe_lst pds_nil))) (pssd_cons (psd_for (m := false) (own := [2]) (ps_for PassesOwn.never rfl (pid_list (px_t (pd_call0 (E := C8.E0) (pe_call (ok_by_size E B) (hr.mono (by decide)) rfl E.g_by_size E.F_by_size.kp (b_by_size E) .nil C8.pass0 (pds_cons (pd_var (pv' 0)) pds_nil)))) rfl) (pgd_name (pg_name (i := 2) sc_least_of_lots.nd rfl (by first | exact Or.inl rfl | exact Or.inr rfl)) (by decide)) (pssd_one (psd_if (ps_if (ptd_not (ptd_val (m := false) (pl_of (pd_gen (m := true) (m2 := false) (E.tm_least_of_lots) (E.tu_least_of_lots) (GX.pe_gany (k := 2) (own := [("one", 3)]) hr sc_least_of_lots.nd rfl E.m_any (B.t_least_of_lots) rfl (GX.genS_by (N := N_least_of_lots) (sc := defScope Hd.s_least_of_lots) (by decide +kernel)) (pid_list (px_f (pv_var (pv' 1))) rfl) (fun A' _ _ _ _ _ _ hr => (pgd_name (pg_name (i := 3) sc_least_of_lots.nd rfl (by first | exact Or.inl rfl | exact Or.inr rfl)) (by decide))) (fun A' _ _ _ _ _ _ hr => pts_no) (fun A' _ _ _ _ _ _ hr => (pd_call0 (E := C8.E0) (pe_call (ok_lot_within E B) (hr.mono (by decide)) rfl E.g_lot_within E.F_lot_within.kp (b_lot_within E) .nil C8.pass0 (pds_cons (pd_var (pv' 3)) (pds_cons (pd_var (pv' 2)) pds_nil)))))))))) (pssd_one (psd_append rfl (pv' 1) (pd_callTy cc_list rfl E.m_list (by decide +kernel) (pvs_cons (pv_flat (pv_var (pv' 2))) pvs_nil)))) pssd_nil))))) (pssd_one (psd_ret (ps_ret (pd_callB (cc_sorted hr) rfl E.m_sorted (by decide +kernel) (pvs_cons (pv_var (pv' 1)) pvs_nil))))))), h⟩
def N_names_of_family : List Str := ["family", "lot", "name"]
theorem sc_names_of_family : FnScope N_names_of_family ["family"] (defScope Hd.s_names_of_family) := ⟨rfl, rfl, rfl, by decide +kernel, rfl, by decide +kernel, by decide +kernel⟩
def g_names_of_family : Sv := (sRet (eSortSet2 [1, 2] (asL (vV true 0)) (gN true 1) eYes (asL (eV true 1)) [2] (gN true 2) eYes (eV true 2)))
def s_names_of_family := semD 3 g_names_of_family
theorem ok_names_of_family {w : World} {K : PySem.W.Frag} {mg : Str → Option Value} {base : Heap} (E : G K mg) (B : GB E base) : FnOk P w K mg base C8.CX0 1 E.f_names_of_family E.d_names_of_family ["family"] (spD K E.T 1 s_names_of_family) := by
  refine okN (N := N_names_of_family) E.F_names_of_family sc_names_of_family spD_len fun cdv A outer s H vs Q X0 hr h => ?_
  obtain ⟨U0, h⟩ := read_body (N := N_names_of_family) (by decide) h
  exact ⟨tS ⟨K, E.T, U0, none, H⟩ g_names_of_family, (pssd_one (psd_ret (ps_ret (pd_sortSet2 (m1 := true) (m2 := true) (m3 := true) (pe_callB (cr_sortSS rfl hr) rfl E.m_sorted (by decide +kernel) (pa_cons (pe_sc2 (own := [("lot", 1), ("name", 2)]) rfl sc_names_of_family.nd (pid_list (px_f (pv_var (pv' 0))) rfl) (blkOk_by (N := N_names_of_family) (sc := defScope Hd.s_names_of_family) (by decide +kernel)) (by decide) (fun _ _ _ _ _ => (pgd_name (pg_name (i := 1) sc_names_of_family.nd rfl (by first | exact Or.inl rfl | exact Or.inr rfl)) (by decide))) (fun _ _ _ _ _ => pts_no) (fun _ _ _ _ _ => (pid_list (px_t (pd_var (pv' 1))) rfl)) (fun _ _ _ _ _ => (pgd_name (pg_name (i := 2) sc_names_of_family.nd rfl (by first | exact Or.inl rfl | exact Or.inr rfl)) (by decide))) (fun _ _ _ _ _ => pts_no) (fun _ _ _ _ _ => (pd_var (pv' 2)))) pa_nil)))))), h⟩
def N_is_family : List Str := ["value", "lot"]
theorem sc_is_family : FnScope N_is_family ["value"] (defScope Hd.s_is_family) := ⟨rfl, rfl, rfl, by decide +kernel, rfl, by decide +kernel, by decide +kernel⟩
def g_is_family : Sv := (sSeq (sIf (eOr (eNot (asB (eIsi "list" (vV true 0)))) (asB (eOp gGt (eFn gLen (eCons (vV true 0) eNil)) (eC (.int 300))))) (sRet (eC (.bool false))) sNil) (sSeq (sIf (eNot (asB (eGen false [1] (asL (vV true 0)) (gN true 1) eYes (eCall 1 s_is_rising_lot (eCons (eV true 1) eNil))))) (sRet (eC (.bool false))) sNil) (sRet (eOp gLe (eFn gLen (eCons (eCall 1 s_names_of_family (eCons (eV true 0) eNil)) eNil)) (eC (.int 10))))))
def s_is_family := semD 2 g_is_family
theorem ok_is_family {w : World} {K : PySem.W.Frag} {mg : Str → Option Value} {base : Heap} (E : G K mg) (B : GB E base) : FnOk P w K mg base C8.CX0 5 E.f_is_family E.d_is_family ["value"] (spD K E.T 1 s_is_family) := by
  refine okX (N := N_is_family) E.F_is_family E.C_is_family sc_is_family spD_len fun A outer s H vs Q X0 hr h => ?_
  obtain ⟨U0, h⟩ := read_body (N := N_is_family) (by decide) h
  exact ⟨tS ⟨K, E.T, U0, none, H⟩ g_is_family, (pssd_cons (psd_if (ps_if (PW.pt (pwd_or (ptd_not (ptd_val (m := true) (pd_isi (t := "list") rfl rfl E.m_isinstance (pv_var (pv' 0)) rfl E.m_list (by decide +kernel)))) (pwd_or1 (ptd_cmp (m := true) (dd_gt hr) (pv_of (pd_callB cc_len rfl E.m_len (by decide +kernel) (pvs_cons (pv_var (pv' 0)) pvs_nil))) (pv_of (pc_int (gint E.k_MOST_LOTS))) (nomark _))))) (pssd_one (psd_ret (ps_ret (pc_bool pe_bl)))) pssd_nil)) (pssd_cons (psd_if (ps_if (ptd_not (ptd_val (m := true) (pd_gen (m := true) (m2 := true) (E.tm_is_family) (E.tu_is_family) (GX.pe_gall (k := 3) (own := [("lot", 1)]) hr sc_is_family.nd rfl E.m_all (B.t_is_family) rfl (GX.genS_by (N := N_is_family) (sc := defScope Hd.s_is_family) (by decide +kernel)) (pid_list (px_f (pv_var (pv' 0))) rfl) (fun A' _ _ _ _ _ _ hr => (pgd_name (pg_name (i := 1) sc_is_family.nd rfl (by first | exact Or.inl rfl | exact Or.inr rfl)) (by decide))) (fun A' _ _ _ _ _ _ hr => pts_no) (fun A' _ _ _ _ _ _ hr => (pd_call0 (E := C8.E0) (pe_call (ok_is_rising_lot E B) (hr.mono (by decide)) rfl E.g_is_rising_lot E.F_is_rising_lot.kp (b_is_rising_lot E) .nil C8.pass0 (pds_cons (pd_var (pv' 1)) pds_nil)))))))) (pssd_one (psd_ret (ps_ret (pc_bool pe_bl)))) pssd_nil)) (pssd_one (psd_ret (ps_ret (pd_cmp (dd_le hr) (pv_of (pd_callB cc_len rfl E.m_len (by decide +kernel) (pvs_cons (pv_of (pd_call0 (E := C8.E0) (pe_call (ok_names_of_family E B) (hr.mono (by decide)) rfl E.g_names_of_family E.F_names_of_family.kp (b_names_of_family E) .nil C8.pass0 (pds_cons (pd_var (pv' 0)) pds_nil)))) pvs_nil))) (pv_of (pc_int (gint E.k_MOST_NAMES))) (nomark _))))))), h⟩
def N_hits : List Str := ["lot", "family", "one"]
theorem sc_hits : FnScope N_hits ["lot", "family"] (defScope Hd.s_hits) := ⟨rfl, rfl, rfl, by decide +kernel, rfl, by decide +kernel, by decide +kernel⟩
def g_hits : Sv := (sRet (eGen false [2] (asL (vV true 1)) (gN true 2) eYes (eCall 2 s_shares_name (eCons (eV true 0) (eCons (eV true 2) eNil)))))
def s_hits := semD 3 g_hits
theorem ok_hits {w : World} {K : PySem.W.Frag} {mg : Str → Option Value} {base : Heap} (E : G K mg) (B : GB E base) : FnOk P w K mg base C8.CX0 4 E.f_hits E.d_hits ["lot", "family"] (spD K E.T 2 s_hits) := by
  refine okX (N := N_hits) E.F_hits E.C_hits sc_hits spD_len fun A outer s H vs Q X0 hr h => ?_
  obtain ⟨U0, h⟩ := read_body (N := N_hits) (by decide) h
  exact ⟨tS ⟨K, E.T, U0, none, H⟩ g_hits, (pssd_one (psd_ret (ps_ret (pd_gen (m := true) (m2 := true) (E.tm_hits) (E.tu_hits) (GX.pe_gall (k := 2) (own := [("one", 2)]) hr sc_hits.nd rfl E.m_all (B.t_hits) rfl (GX.genS_by (N := N_hits) (sc := defScope Hd.s_hits) (by decide +kernel)) (pid_list (px_f (pv_var (pv' 1))) rfl) (fun A' _ _ _ _ _ _ hr => (pgd_name (pg_name (i := 2) sc_hits.nd rfl (by first | exact Or.inl rfl | exact Or.inr rfl)) (by decide))) (fun A' _ _ _ _ _ _ hr => pts_no) (fun A' _ _ _ _ _ _ hr => (pd_call0 (E := C8.E0) (pe_call (ok_shares_name E B) (hr.mono (by decide)) rfl E.g_shares_name E.F_shares_name.kp (b_shares_name E) .nil C8.pass0 (pds_cons (pd_var (pv' 0)) (pds_cons (pd_var (pv' 2)) pds_nil)))))))))), h⟩
def N_thinned_family : List Str := ["family"]
theorem sc_thinned_family : FnScope N_thinned_family ["family"] (defScope Hd.s_thinned_family) := ⟨rfl, rfl, rfl, by decide +kernel, rfl, by decide +kernel, by decide +kernel⟩
def g_thinned_family : Sv := (sRet (eCall 1 s_least_of_lots (eCons (eV true 0) eNil)))
def s_thinned_family := semD 1 g_thinned_family
theorem ok_thinned_family {w : World} {K : PySem.W.Frag} {mg : Str → Option Value} {base : Heap} (E : G K mg) (B : GB E base) : FnOk P w K mg base C8.CX0 5 E.f_thinned_family E.d_thinned_family ["family"] (spD K E.T 1 s_thinned_family) := by
  refine okN (N := N_thinned_family) E.F_thinned_family sc_thinned_family spD_len fun cdv A outer s H vs Q X0 hr h => ?_
  obtain ⟨U0, h⟩ := read_body (N := N_thinned_family) (by decide) h
  exact ⟨tS ⟨K, E.T, U0, none, H⟩ g_thinned_family, (pssd_one (psd_ret (ps_ret (pd_callF (E := C8.E0) (pe_call (ok_least_of_lots E B) (hr.mono (by decide)) rfl E.g_least_of_lots E.F_least_of_lots.kp (b_least_of_lots E) .nil C8.pass0 (pds_cons (pl_of (pd_var (pv' 0))) pds_nil)))))), h⟩
def N_least_hitting_plain : List Str := ["family", "lot"]
theorem sc_least_hitting_plain : FnScope N_least_hitting_plain ["family"] (defScope Hd.s_least_hitting_plain) := ⟨rfl, rfl, rfl, by decide +kernel, rfl, by decide +kernel, by decide +kernel⟩
def g_least_hitting_plain : Sv := (sRet (eCall 1 s_least_of_lots (eCons (eComp [1] (asL (eCall 1 s_all_lots (eCons (eCall 1 s_names_of_family (eCons (eV true 0) eNil)) eNil))) (gN true 1) (asB (eCall 2 s_hits (eCons (eV true 1) (eCons (eV true 0) eNil)))) (eV true 1)) eNil)))
def s_least_hitting_plain := semD 2 g_least_hitting_plain
theorem ok_least_hitting_plain {w : World} {K : PySem.W.Frag} {mg : Str → Option Value} {base : Heap} (E : G K mg) (B : GB E base) : FnOk P w K mg base C8.CX0 5 E.f_least_hitting_plain E.d_least_hitting_plain ["family"] (spD K E.T 1 s_least_hitting_plain) := by
  refine okN (N := N_least_hitting_plain) E.F_least_hitting_plain sc_least_hitting_plain spD_len fun cdv A outer s H vs Q X0 hr h => ?_
  obtain ⟨U0, h⟩ := read_body (N := N_least_hitting_plain) (by decide) h
  exact ⟨tS ⟨K, E.T, U0, none, H⟩ g_least_hitting_plain, (pssd_one (psd_ret (ps_ret (pd_callF (E := C8.E0) (pe_call (ok_least_of_lots E B) (hr.mono (by decide)) rfl E.g_least_of_lots E.F_least_of_lots.kp (b_least_of_lots E) .nil C8.pass0 (pds_cons (pl_of (pd_lc (m := true) rfl (pe_lc (own := [("lot", 1)]) rfl sc_least_hitting_plain.nd (pid_list (px_f (pv_of (pd_call0 (E := C8.E0) (pe_call (ok_all_lots E B) (hr.mono (by decide)) rfl E.g_all_lots E.F_all_lots.kp (b_all_lots E) .nil C8.pass0 (pds_cons (pd_call0 (E := C8.E0) (pe_call (ok_names_of_family E B) (hr.mono (by decide)) rfl E.g_names_of_family E.F_names_of_family.kp (b_names_of_family E) .nil C8.pass0 (pds_cons (pd_var (pv' 0)) pds_nil))) pds_nil))))) rfl) (blkOk_by (N := N_least_hitting_plain) (sc := defScope Hd.s_least_hitting_plain) (by decide +kernel)) (fun _ _ _ _ _ => (pgd_name (pg_name (i := 1) sc_least_hitting_plain.nd rfl (by first | exact Or.inl rfl | exact Or.inr rfl)) (by decide))) (fun _ _ _ _ _ => (ptsd_one (ptd_val (m := true) (pd_call0 (E := C8.E0) (pe_call (ok_hits E B) (hr.mono (by decide)) rfl E.g_hits E.F_hits.kp (b_hits E) .nil C8.pass0 (pds_cons (pd_var (pv' 1)) (pds_cons (pd_var (pv' 0)) pds_nil))))))) (fun _ _ _ _ _ => (pd_var (pv' 1)))))) pds_nil)))))), h⟩
def N_grown : List Str := ["lot", "other", "name"]
theorem sc_grown : FnScope N_grown ["lot", "other"] (defScope Hd.s_grown) := ⟨rfl, rfl, rfl, by decide +kernel, rfl, by decide +kernel, by decide +kernel⟩
def g_grown : Sv := (sSeq (sIf (asB (eCall 2 s_shares_name (eCons (eV true 0) (eCons (eV true 1) eNil)))) (sRet (eLst (eCons (eV true 0) eNil))) sNil) (sRet (eComp [2] (asL (vV true 1)) (gN true 2) eYes (eFn gSorted (eCons (eOp gAdd (vV true 0) (eLst (eCons (eV true 2) eNil))) eNil)))))
def s_grown := semD 3 g_grown
theorem ok_grown {w : World} {K : PySem.W.Frag} {mg : Str → Option Value} {base : Heap} (E : G K mg) (B : GB E base) : FnOk P w K mg base C8.CX0 3 E.f_grown E.d_grown ["lot", "other"] (spD K E.T 2 s_grown) := by
  refine okN (N := N_grown) E.F_grown sc_grown spD_len fun cdv A outer s H vs Q X0 hr h => ?_
  obtain ⟨U0, h⟩ := read_body (N := N_grown) (by decide) h
  exact ⟨tS ⟨K, E.T, U0, none, H⟩ g_grown, (pssd_cons (psd_if (ps_if (ptd_val (m := true) (pd_call0 (E := C8.E0) (pe_call (ok_shares_name E B) (hr.mono (by decide)) rfl E.g_shares_name E.F_shares_name.kp (b_shares_name E) .nil C8.pass0 (pds_cons (pd_var (pv' 0)) (pds_cons (pd_var (pv' 1)) pds_nil))))) (pssd_one (psd_ret (ps_ret (pd_lst (pds_cons (pd_var (pv' 0)) pds_nil))))) pssd_nil)) (pssd_one (psd_ret (ps_ret (pd_lc (m := true) rfl (pe_lc (own := [("name", 2)]) rfl sc_grown.nd (pid_list (px_f (pv_var (pv' 1))) rfl) (blkOk_by (N := N_grown) (sc := defScope Hd.s_grown) (by decide +kernel)) (fun _ _ _ _ _ => (pgd_name (pg_name (i := 2) sc_grown.nd rfl (by first | exact Or.inl rfl | exact Or.inr rfl)) (by decide))) (fun _ _ _ _ _ => pts_no) (fun _ _ _ _ _ => (pd_callB (cc_sorted hr) rfl E.m_sorted (by decide +kernel) (pvs_cons (pv_of (pd_op dd_add (pv_var (pv' 0)) (pv_of (pd_lst (pds_cons (pd_var (pv' 2)) pds_nil))))) pvs_nil))))))))), h⟩
def N_least_hitting : List Str := ["family", "found", "lot", "made", "one"]
theorem sc_least_hitting : FnScope N_least_hitting ["family"] (defScope Hd.s_least_hitting) := ⟨rfl, rfl, rfl, by decide +kernel, rfl, by decide +kernel, by decide +kernel⟩
def g_least_hitting : Sv := (sSeq (sSetN true 1 (eLst (eCons (eLst eNil) eNil))) (sSeq (sFor (asL (eV false 0)) (gN false 2) (sSeq (sSetN false 3 (eLst eNil)) (sSeq (sFor (asL (eV true 1)) (gN true 4) (sSetN false 3 (eOp gAdd (vV false 3) (eCall 2 s_grown (eCons (eV false 4) (eCons (eV false 2) eNil)))))) (sSetN true 1 (eCall 1 s_least_of_lots (eCons (eV false 3) eNil)))))) (sRet (eV true 1))))
def s_least_hitting := semF 5 g_least_hitting
theorem ok_least_hitting {w : World} {K : PySem.W.Frag} {mg : Str → Option Value} {base : Heap} (E : G K mg) (B : GB E base) : FnOk P w K mg base C8.CX0 5 E.f_least_hitting E.d_least_hitting ["family"] (spF K E.T 1 s_least_hitting) := by
  refine okN (N := N_least_hitting) E.F_least_hitting sc_least_hitting spF_len fun cdv A outer s H vs Q X0 hr h => ?_
  obtain ⟨U0, h⟩ := read_bodyF (N := N_least_hitting) (by decide) h
  exact ⟨tS ⟨K, E.T, U0, none, H⟩ g_least_hitting, (pssd_cons (psd_setN (ps_set (i := 1) sc_least_hitting.nd rfl (by first | exact Or.inl rfl | exact Or.inr rfl) (pd_lst (pds_cons (pd_lst pds_nil) pds_nil)))) (pssd_cons (psd_for (m := false) (own := [2]) (ps_for PassesOwn.never rfl (pid_list (px_t (pd_var (pv' 0))) rfl) (pgd_name (pg_name (i := 2) sc_least_hitting.nd rfl (by first | exact Or.inl rfl | exact Or.inr rfl)) (by decide)) (pssd_cons (psd_setN (ps_set (i := 3) sc_least_hitting.nd rfl (by first | exact Or.inl rfl | exact Or.inr rfl) (pd_lst pds_nil))) (pssd_cons (psd_for (m := true) (own := [4]) (ps_for PassesOwn.never rfl (pid_list (px_t (pd_var (pv' 1))) rfl) (pgd_name (pg_name (i := 4) sc_least_hitting.nd rfl (by first | exact Or.inl rfl | exact Or.inr rfl)) (by decide)) (pssd_one (psd_setN (ps_set (i := 3) sc_least_hitting.nd rfl (by first | exact Or.inl rfl | exact Or.inr rfl) (pd_op dd_add (pv_var (pv' 3)) (pv_of (pd_call0 (E := C8.E0) (pe_call (ok_grown E B) (hr.mono (by decide)) rfl E.g_grown E.F_grown.kp (b_grown E) .nil C8.pass0 (pds_cons (pd_var (pv' 4)) (pds_cons (pd_var (pv' 2)) pds_nil))))))))))) (pssd_one (psd_setN (ps_set (i := 1) sc_least_hitting.nd rfl (by first | exact Or.inl rfl | exact Or.inr rfl) (pd_callF (E := C8.E0) (pe_call (ok_least_of_lots E B) (hr.mono (by decide)) rfl E.g_least_of_lots E.F_least_of_lots.kp (b_least_of_lots E) .nil C8.pass0 (pds_cons (pd_var (pv' 3)) pds_nil)))))))))) (pssd_one (psd_ret (ps_ret (pd_var (pv' 1))))))), h⟩
def N__law_pot : List Str := ["_law_script", "_law_k", "_law_cell"]
theorem sc__law_pot : FnScope N__law_pot ["_law_script", "_law_k"] (defScope Hd.s__law_pot) := ⟨rfl, rfl, rfl, by decide +kernel, rfl, by decide +kernel, by decide +kernel⟩
def g__law_pot : Sv := (sSeq (sSetN true 2 (eIf (asB (eOp gLt (vV true 1) (eFn gLen (eCons (vV true 0) eNil)))) (eFn gAbs (eCons (eOp gIx (vV true 0) (vV true 1)) eNil)) (eOp gAdd (eOp gMul (eC (.int 607)) (vV true 1)) (eC (.int 571))))) (sRet (eLst (eCons (eFn gMax (eCons (eC (.int 0)) (eCons (eOp gSub (vV true 2) (eOp gPow (eC (.int 10)) (eC (.int 18)))) eNil))) (eCons (eOp gAdd (eOp gMod (eFn gInt (eCons (eOp gAdd (eOp gAdd (eOp gMul (eOp gMod (eFn gInt (eCons (vV true 2) eNil)) (eC (.int 2147483549))) (eC (.int 48271))) (eOp gMul (eC (.int 8167)) (vV true 1))) (eC (.int 31))) eNil)) (eC (.int 2147483563))) (eC (.int 1))) eNil)))))
theorem ok__law_pot {w : World} {K : PySem.W.Frag} {mg : Str → Option Value} {base : Heap} (E : G K mg) (B : GB E base) : FnOk P w K mg base C8.CX0 1 E.f__law_pot E.d__law_pot ["_law_script", "_law_k"] (spN K E.T N__law_pot.length g__law_pot) := by
  refine okN (N := N__law_pot) E.F__law_pot sc__law_pot spN_len fun cdv A outer s H vs Q X0 hr h => ?_
  obtain ⟨U0, h⟩ := read_bodyN (N := N__law_pot) (by decide) h
  exact ⟨tS ⟨K, E.T, U0, none, H⟩ g__law_pot, (pssd_cons (psd_setN (ps_set (i := 2) sc__law_pot.nd rfl (by first | exact Or.inl rfl | exact Or.inr rfl) (pd_if (ptd_cmp (m := true) (dd_lt hr) (pv_var (pv' 1)) (pv_of (pd_callB cc_len rfl E.m_len (by decide +kernel) (pvs_cons (pv_var (pv' 0)) pvs_nil))) (nomark _)) (pd_callB cc_abs rfl E.m_abs (by decide +kernel) (pvs_cons (pv_of (pd_ix rfl (pv_var (pv' 0)) (pv_var (pv' 1)))) pvs_nil)) (pd_op dd_add (pv_of (pd_op dd_mul (pv_of (pc_int pe_int)) (pv_var (pv' 1)))) (pv_of (pc_int pe_int)))))) (pssd_one (psd_ret (ps_ret (pd_lst (pds_cons (pd_callB (cc_max rfl) rfl E.m_max (by decide +kernel) (pvs_cons (pv_of (pc_int pe_int)) (pvs_cons (pv_of (pd_op dd_sub (pv_var (pv' 2)) (pv_of (pd_op dd_pow (pv_of (pc_int pe_int)) (pv_of (pc_int pe_int)))))) pvs_nil))) (pds_cons (pd_op dd_add (pv_of (pd_op dd_mod (pv_of (pd_callTy cc_int rfl E.m_int (by decide +kernel) (pvs_cons (pv_of (pd_op dd_add (pv_of (pd_op dd_add (pv_of (pd_op dd_mul (pv_of (pd_op dd_mod (pv_of (pd_callTy cc_int rfl E.m_int (by decide +kernel) (pvs_cons (pv_var (pv' 2)) pvs_nil))) (pv_of (pc_int pe_int)))) (pv_of (pc_int pe_int)))) (pv_of (pd_op dd_mul (pv_of (pc_int pe_int)) (pv_var (pv' 1)))))) (pv_of (pc_int pe_int)))) pvs_nil))) (pv_of (pc_int pe_int)))) (pv_of (pc_int pe_int))) pds_nil))))))), h⟩
def N__law_pick : List Str := ["_law_pot_here", "_law_some"]
theorem sc__law_pick : FnScope N__law_pick ["_law_pot_here", "_law_some"] (defScope Hd.s__law_pick) := ⟨rfl, rfl, rfl, by decide +kernel, rfl, by decide +kernel, by decide +kernel⟩
def g__law_pick : Sv := (sRet (eOp gIx (vV true 1) (eCallP 1 0 s__law_draw (eCons (eFn gLen (eCons (vV true 1) eNil)) eNil))))
def s__law_pick := semPV 2 g__law_pick
theorem ok__law_pick {w : World} {K : PySem.W.Frag} {mg : Str → Option Value} {base : Heap} (E : G K mg) (B : GB E base) : FnOk P w K mg base C8.CX0 2 E.f__law_pick E.d__law_pick ["_law_pot_here", "_law_some"] (spPv K E.T 1 s__law_pick) := by
  refine okN (N := N__law_pick) E.F__law_pick sc__law_pick spPv_len fun cdv A outer s H vs Q X0 hr h => ?_
  obtain ⟨U0, p0, h⟩ := read_bodyPV (N := N__law_pick) (by decide) h
  exact ⟨tS ⟨K, E.T, U0, some p0, H⟩ g__law_pick, (pssd_one (psd_ret (ps_ret (pd_ix rfl (pv_var (pv' 1)) (pv_of (pd_callP (E := C8.E0) (pe_call (ok__law_draw E B) (hr.mono (by decide)) rfl E.g__law_draw E.F__law_draw.kp (b__law_draw E) .nil C8.pass0 (pa_cons (pv' 0) (pds_cons (pd_callB cc_len rfl E.m_len (by decide +kernel) (pvs_cons (pv_var (pv' 1)) pvs_nil)) pds_nil))))))))), h⟩
def N__law_same : List Str := ["_law_one", "_law_two", "_law_a", "_law_b"]
theorem sc__law_same : FnScope N__law_same ["_law_one", "_law_two"] (defScope Hd.s__law_same) := ⟨rfl, rfl, rfl, by decide +kernel, rfl, by decide +kernel, by decide +kernel⟩
def g__law_same (s : List Dt → Option Dt) : Sv := (sSeq (sIf (asB (eOp gNe (eIsi "list" (vV true 0)) (eIsi "list" (vV true 1)))) (sRet (eC (.bool false))) sNil) (sSeq (sIf (asB (eOp gNe (eIsi "tuple" (vV true 0)) (eIsi "tuple" (vV true 1)))) (sRet (eC (.bool false))) sNil) (sSeq (sIf (asB (eOp gNe (eIsi "bool" (vV true 0)) (eIsi "bool" (vV true 1)))) (sRet (eC (.bool false))) sNil) (sSeq (sIf (eOr (asB (eIsi "list" (vV true 1))) (asB (eIsi "tuple" (vV true 1)))) (sRet (eAndV (eOp gEq (eFn gLen (eCons (vV true 0) eNil)) (eFn gLen (eCons (vV true 1) eNil))) (eFn gAll (eCons (eComp [2, 3] (asZ (eCons (vV true 0) (eCons (vV true 1) eNil))) (gT true [2, 3]) eYes (eCall 2 s (eCons (eV true 2) (eCons (eV true 3) eNil)))) eNil)))) sNil) (sRet (eOp gEq (vV true 0) (vV true 1)))))))
def s__law_same : Nat → List Dt → Option Dt
  | 0 => fun _ => none
  | n + 1 => semD 4 (g__law_same (s__law_same n))
theorem ok__law_same {w : World} {K : PySem.W.Frag} {mg : Str → Option Value} {base : Heap} (E : G K mg) (B : GB E base) : ∀ n : Nat, FnOk P w K mg base C8.CX0 (n + 1) E.f__law_same E.d__law_same ["_law_one", "_law_two"] (spD K E.T 2 (s__law_same n))
  | 0 => okN (N := N__law_same) E.F__law_same sc__law_same spD_len fun cdv A outer s H vs Q X0 hr h => by
    obtain ⟨U, ds, d, _, _, _, _, q, _⟩ := h
    cases q
  | n + 1 => by
    have ih := ok__law_same (w := w) E B n
    refine okN (N := N__law_same) E.F__law_same sc__law_same spD_len fun cdv A outer s0 H vs Q X0 hr h => ?_
    obtain ⟨U0, h⟩ := read_body (N := N__law_same) (by decide) h
    exact ⟨tS ⟨K, E.T, U0, none, H⟩ (g__law_same (s__law_same n)), (pssd_cons (psd_if (ps_if (ptd_cmp (m := true) (dd_ne hr) (pv_of (pd_isi (t := "list") rfl rfl E.m_isinstance (pv_var (pv' 0)) rfl E.m_list (by decide +kernel))) (pv_of (pd_isi (t := "list") rfl rfl E.m_isinstance (pv_var (pv' 1)) rfl E.m_list (by decide +kernel))) (nomark _)) (pssd_one (psd_ret (ps_ret (pc_bool pe_bl)))) pssd_nil)) (pssd_cons (psd_if (ps_if (ptd_cmp (m := true) (dd_ne hr) (pv_of (pd_isi (t := "tuple") rfl rfl E.m_isinstance (pv_var (pv' 0)) rfl E.m_tuple (by decide +kernel))) (pv_of (pd_isi (t := "tuple") rfl rfl E.m_isinstance (pv_var (pv' 1)) rfl E.m_tuple (by decide +kernel))) (nomark _)) (pssd_one (psd_ret (ps_ret (pc_bool pe_bl)))) pssd_nil)) (pssd_cons (psd_if (ps_if (ptd_cmp (m := true) (dd_ne hr) (pv_of (pd_isi (t := "bool") rfl rfl E.m_isinstance (pv_var (pv' 0)) rfl E.m_bool (by decide +kernel))) (pv_of (pd_isi (t := "bool") rfl rfl E.m_isinstance (pv_var (pv' 1)) rfl E.m_bool (by decide +kernel))) (nomark _)) (pssd_one (psd_ret (ps_ret (pc_bool pe_bl)))) pssd_nil)) (pssd_cons (psd_if (ps_if (PW.pt (pwd_or (ptd_val (m := true) (pd_isi (t := "list") rfl rfl E.m_isinstance (pv_var (pv' 1)) rfl E.m_list (by decide +kernel))) (pwd_or1 (ptd_val (m := true) (pd_isi (t := "tuple") rfl rfl E.m_isinstance (pv_var (pv' 1)) rfl E.m_tuple (by decide +kernel)))))) (pssd_one (psd_ret (ps_ret (pd_and (pd_cmp (dd_eq hr) (pv_of (pd_callB cc_len rfl E.m_len (by decide +kernel) (pvs_cons (pv_var (pv' 0)) pvs_nil))) (pv_of (pd_callB cc_len rfl E.m_len (by decide +kernel) (pvs_cons (pv_var (pv' 1)) pvs_nil))) (nomark _)) (pd_one (pd_callB (cc_all rfl) rfl E.m_all (by decide +kernel) (pvs_cons (pv_of (pd_lc (m := true) rfl (pe_lc (own := [("_law_a", 2), ("_law_b", 3)]) rfl sc__law_same.nd (pid_zip rfl rfl E.m_zip (pxs_f (pvs_cons (pv_var (pv' 0)) (pvs_cons (pv_var (pv' 1)) pvs_nil)))) (blkOk_by (N := N__law_same) (sc := defScope Hd.s__law_same) (by decide +kernel)) (fun _ _ _ _ _ => (pgd_tup rfl rfl (pg_tup rfl (pgs_cons (pg_name (i := 2) sc__law_same.nd rfl (by first | exact Or.inl rfl | exact Or.inr rfl)) (pgs_cons (pg_name (i := 3) sc__law_same.nd rfl (by first | exact Or.inl rfl | exact Or.inr rfl)) pgs_nil))) (by decide))) (fun _ _ _ _ _ => pts_no) (fun _ _ _ _ _ => (pd_call0 (E := C8.E0) (pe_call ih hr rfl E.g__law_same E.F__law_same.kp (b__law_same E) .nil C8.pass0 (pds_cons (pd_var (pv' 2)) (pds_cons (pd_var (pv' 3)) pds_nil)))))))) pvs_nil))))))) pssd_nil)) (pssd_one (psd_ret (ps_ret (pd_cmp (dd_eq hr) (pv_var (pv' 0)) (pv_var (pv' 1)) (nomark _))))))))), h⟩
def N__law_names : List Str := ["_law_pot_here", "_law_many", "_law_signs", "_law_stem", "_law_names_here", "_law_k", "_law_at", "_law_first", "_law_by", "_law_loose", "_law_more", "_law_x"]
theorem sc__law_names : FnScope N__law_names ["_law_pot_here", "_law_many"] (defScope Hd.s__law_names) := ⟨rfl, rfl, rfl, by decide +kernel, rfl, by decide +kernel, by decide +kernel⟩
def g__law_names : Sv := (sSeq (sSetN true 2 (eC (.str "abcdefghijklmnopqrstuvwxyz"))) (sSeq (sSetN true 3 (eJoin (eC (.str "")) (eComp [11] (asR1 (eCons (eOp gAdd (eC (.int 1)) (eCallP 1 0 s__law_draw (eCons (eC (.int 5)) eNil))) eNil)) (gN true 11) eYes (eCallP 1 0 s__law_pick (eCons (vV true 2) eNil))))) (sSeq (sPar 6 7 (eCons (eCallP 1 0 s__law_draw (eCons (eOp gAdd (eFn gLen (eCons (vV true 3) eNil)) (eC (.int 1))) eNil)) (eCons (eCallP 1 0 s__law_draw (eCons (eC (.int 26)) eNil)) eNil))) (sSeq (sPar 8 9 (eCons (eCallP 1 0 s__law_pick (eCons (eLst (eCons (eC (.int 1)) (eCons (eC (.int 3)) (eCons (eC (.int 5)) (eCons (eC (.int 7)) (eCons (eC (.int 11)) (eCons (eC (.int 17)) (eCons (eC (.int 25)) eNil)))))))) eNil)) (eCons (eCallP 1 0 s__law_draw (eCons (eC (.int 2)) eNil)) eNil))) (sSeq (sNew 4 eNil) (sSeq (sFor (asR1 (eCons (eV true 1) eNil)) (gN true 5) (sSeq (sSetN true 10 (eIf (asB (eOp gEq (vV true 9) (eC (.int 1)))) (eCallP 1 0 s__law_pick (eCons (eLst (eCons (eC (.str "")) (eCons (eC (.str "0")) (eCons (eC (.str "9")) (eCons (eC (.str "zz")) eNil))))) eNil)) (eC (.str "")))) (sApp 4 (eOp gAdd (eOp gAdd (eOp gAdd (eSl (vV true 3) oNo (oAt (vV true 6))) (eOp gIx (vV true 2) (eOp gMod (eFn gInt (eCons (eOp gAdd (vV true 7) (eOp gMul (vV true 8) (vV true 5))) eNil)) (eC (.int 26))))) (eSl (vV true 3) (oAt (vV true 6)) oNo)) (vV true 10))))) (sFrz 4 (sRet (eV true 4)))))))))
def s__law_names := semP 12 g__law_names
theorem ok__law_names {w : World} {K : PySem.W.Frag} {mg : Str → Option Value} {base : Heap} (E : G K mg) (B : GB E base) : FnOk P w K mg base C8.CX0 3 E.f__law_names E.d__law_names ["_law_pot_here", "_law_many"] (spP K E.T 1 s__law_names) := by
  refine okN (N := N__law_names) E.F__law_names sc__law_names spP_len fun cdv A outer s H vs Q X0 hr h => ?_
  obtain ⟨U0, p0, h⟩ := read_bodyP (N := N__law_names) (by decide) h
  exact ⟨tS ⟨K, E.T, U0, some p0, H⟩ g__law_names, (pssd_cons (psd_setN (ps_set (i := 2) sc__law_names.nd rfl (by first | exact Or.inl rfl | exact Or.inr rfl) (pc_str pe_str))) (pssd_cons (psd_setN (ps_set (i := 3) sc__law_names.nd rfl (by first | exact Or.inl rfl | exact Or.inr rfl) (pd_join rfl (pv_of (pc_str pe_str)) (pv_of (pd_lc (m := true) rfl (pe_lc (own := [("_law_x", 11)]) rfl sc__law_names.nd (pid_range1 rfl E.m_range (pds_cons (pd_op dd_add (pv_of (pc_int pe_int)) (pv_of (pd_callP (E := C8.E0) (pe_call (ok__law_draw E B) (hr.mono (by decide)) rfl E.g__law_draw E.F__law_draw.kp (b__law_draw E) .nil C8.pass0 (pa_cons (pv' 0) (pds_cons (pc_int pe_int) pds_nil)))))) pds_nil)) (blkOk_by (N := N__law_names) (sc := defScope Hd.s__law_names) (by decide +kernel)) (fun _ _ _ _ _ => (pgd_name (pg_name (i := 11) sc__law_names.nd rfl (by first | exact Or.inl rfl | exact Or.inr rfl)) (by decide))) (fun _ _ _ _ _ => pts_no) (fun _ _ _ _ _ => (pd_callPV (E := C8.E0) (pe_call (ok__law_pick E B) (hr.mono (by decide)) rfl E.g__law_pick E.F__law_pick.kp (b__law_pick E) .nil C8.pass0 (pa_cons (pv' 0) (pvs_cons (pv_var (pv' 2)) pvs_nil))))))))))) (pssd_cons (psd_par (ps_par (i := 6) (j := 7) rfl sc__law_names.nd rfl rfl (by decide) rfl rfl (pds_cons (pd_callP (E := C8.E0) (pe_call (ok__law_draw E B) (hr.mono (by decide)) rfl E.g__law_draw E.F__law_draw.kp (b__law_draw E) .nil C8.pass0 (pa_cons (pv' 0) (pds_cons (pd_op dd_add (pv_of (pd_callB cc_len rfl E.m_len (by decide +kernel) (pvs_cons (pv_var (pv' 3)) pvs_nil))) (pv_of (pc_int pe_int))) pds_nil)))) (pds_cons (pd_callP (E := C8.E0) (pe_call (ok__law_draw E B) (hr.mono (by decide)) rfl E.g__law_draw E.F__law_draw.kp (b__law_draw E) .nil C8.pass0 (pa_cons (pv' 0) (pds_cons (pc_int pe_int) pds_nil)))) pds_nil)) rfl)) (pssd_cons (psd_par (ps_par (i := 8) (j := 9) rfl sc__law_names.nd rfl rfl (by decide) rfl rfl (pds_cons (pd_callPV (E := C8.E0) (pe_call (ok__law_pick E B) (hr.mono (by decide)) rfl E.g__law_pick E.F__law_pick.kp (b__law_pick E) .nil C8.pass0 (pa_cons (pv' 0) (pvs_cons (pv_of (pd_lst (pds_cons (pc_int pe_int) (pds_cons (pc_int pe_int) (pds_cons (pc_int pe_int) (pds_cons (pc_int pe_int) (pds_cons (pc_int pe_int) (pds_cons (pc_int pe_int) (pds_cons (pc_int pe_int) pds_nil))))))))) pvs_nil)))) (pds_cons (pd_callP (E := C8.E0) (pe_call (ok__law_draw E B) (hr.mono (by decide)) rfl E.g__law_draw E.F__law_draw.kp (b__law_draw E) .nil C8.pass0 (pa_cons (pv' 0) (pds_cons (pc_int pe_int) pds_nil)))) pds_nil)) rfl)) (pssd_cons (psd_new (ps_set (i := 4) sc__law_names.nd rfl (by first | exact Or.inl rfl | exact Or.inr rfl) (pe_lst pds_nil))) (pssd_cons (psd_for (m := true) (own := [5]) (ps_for PassesOwn.never rfl (pid_range1 rfl E.m_range (pds_cons (pd_var (pv' 1)) pds_nil)) (pgd_name (pg_name (i := 5) sc__law_names.nd rfl (by first | exact Or.inl rfl | exact Or.inr rfl)) (by decide)) (pssd_cons (psd_setN (ps_set (i := 10) sc__law_names.nd rfl (by first | exact Or.inl rfl | exact Or.inr rfl) (pd_if (ptd_cmp (m := true) (dd_eq hr) (pv_var (pv' 9)) (pv_of (pc_int pe_int)) (nomark _)) (pd_callPV (E := C8.E0) (pe_call (ok__law_pick E B) (hr.mono (by decide)) rfl E.g__law_pick E.F__law_pick.kp (b__law_pick E) .nil C8.pass0 (pa_cons (pv' 0) (pvs_cons (pv_of (pd_lst (pds_cons (pc_str pe_str) (pds_cons (pc_str pe_str) (pds_cons (pc_str pe_str) (pds_cons (pc_str pe_str) pds_nil)))))) pvs_nil)))) (pc_str pe_str)))) (pssd_one (psd_append rfl (pv' 4) (pd_op dd_add (pv_of (pd_op dd_add (pv_of (pd_op dd_add (pv_of (pd_sl rfl (pv_var (pv' 3)) pod_no (pod_at (m := true) (pv_var (pv' 6))))) (pv_of (pd_ix rfl (pv_var (pv' 2)) (pv_of (pd_op dd_mod (pv_of (pd_callTy cc_int rfl E.m_int (by decide +kernel) (pvs_cons (pv_of (pd_op dd_add (pv_var (pv' 7)) (pv_of (pd_op dd_mul (pv_var (pv' 8)) (pv_var (pv' 5)))))) pvs_nil))) (pv_of (pc_int pe_int)))))))) (pv_of (pd_sl rfl (pv_var (pv' 3)) (pod_at (m := true) (pv_var (pv' 6))) pod_no)))) (pv_var (pv' 10)))))))) (pssd_one (psd_frz (i := 4) (psd_ret (ps_ret (pd_var (pv' 4)))))))))))), h⟩
def N__law_inside : List Str := ["_law_one", "_law_lot", "_law_x"]
theorem sc__law_inside : FnScope N__law_inside ["_law_one", "_law_lot"] (defScope Hd.s__law_inside) := ⟨rfl, rfl, rfl, by decide +kernel, rfl, by decide +kernel, by decide +kernel⟩
def g__law_inside : Sv := (sRet (eFn gAll (eCons (eComp [2] (asL (vV true 0)) (gN true 2) eYes (eOp gIn (vV true 2) (vV true 1))) eNil)))
def s__law_inside := semD 3 g__law_inside
theorem ok__law_inside {w : World} {K : PySem.W.Frag} {mg : Str → Option Value} {base : Heap} (E : G K mg) (B : GB E base) : FnOk P w K mg base C8.CX0 1 E.f__law_inside E.d__law_inside ["_law_one", "_law_lot"] (spD K E.T 2 s__law_inside) := by
  refine okN (N := N__law_inside) E.F__law_inside sc__law_inside spD_len fun cdv A outer s H vs Q X0 hr h => ?_
  obtain ⟨U0, h⟩ := read_body (N := N__law_inside) (by decide) h
  exact ⟨tS ⟨K, E.T, U0, none, H⟩ g__law_inside, (pssd_one (psd_ret (ps_ret (pd_callB (cc_all rfl) rfl E.m_all (by decide +kernel) (pvs_cons (pv_of (pd_lc (m := true) rfl (pe_lc (own := [("_law_x", 2)]) rfl sc__law_inside.nd (pid_list (px_f (pv_var (pv' 0))) rfl) (blkOk_by (N := N__law_inside) (sc := defScope Hd.s__law_inside) (by decide +kernel)) (fun _ _ _ _ _ => (pgd_name (pg_name (i := 2) sc__law_inside.nd rfl (by first | exact Or.inl rfl | exact Or.inr rfl)) (by decide))) (fun _ _ _ _ _ => pts_no) (fun _ _ _ _ _ => (pd_cmp (dd_in hr) (pv_var (pv' 2)) (pv_var (pv' 1)) (by with_unfolding_all rfl)))))) pvs_nil))))), h⟩
def N__law_all_lots : List Str := ["_law_names_here", "_law_lots", "_law_name", "_law_lot"]
theorem sc__law_all_lots : FnScope N__law_all_lots ["_law_names_here"] (defScope Hd.s__law_all_lots) := ⟨rfl, rfl, rfl, by decide +kernel, rfl, by decide +kernel, by decide +kernel⟩
def g__law_all_lots : Sv := (sSeq (sSetN true 1 (eLst (eCons (eLst eNil) eNil))) (sSeq (sFor (asL (eV true 0)) (gN true 2) (sSetN true 1 (eOp gAdd (vV true 1) (eComp [3] (asL (vV true 1)) (gN true 3) eYes (eOp gAdd (vV true 3) (eLst (eCons (eV true 2) eNil))))))) (sRet (eV true 1))))
def s__law_all_lots := semD 4 g__law_all_lots
theorem ok__law_all_lots {w : World} {K : PySem.W.Frag} {mg : Str → Option Value} {base : Heap} (E : G K mg) (B : GB E base) : FnOk P w K mg base C8.CX0 1 E.f__law_all_lots E.d__law_all_lots ["_law_names_here"] (spD K E.T 1 s__law_all_lots) := by
  refine okN (N := N__law_all_lots) E.F__law_all_lots sc__law_all_lots spD_len fun cdv A outer s H vs Q X0 hr h => ?_
  obtain ⟨U0, h⟩ := read_body (N := N__law_all_lots) (by decide) h
  exact ⟨tS ⟨K, E.T, U0, none, H⟩ g__law_all_lots, (pssd_cons (psd_setN (ps_set (i := 1) sc__law_all_lots.nd rfl (by first | exact Or.inl rfl | exact Or.inr rfl) (pd_lst (pds_cons (pd_lst pds_nil) pds_nil)))) (pssd_cons (psd_for (m := true) (own := [2]) (ps_for PassesOwn.never rfl (pid_list (px_t (pd_var (pv' 0))) rfl) (pgd_name (pg_name (i := 2) sc__law_all_lots.nd rfl (by first | exact Or.inl rfl | exact Or.inr rfl)) (by decide)) (pssd_one (psd_setN (ps_set (i := 1) sc__law_all_lots.nd rfl (by first | exact Or.inl rfl | exact Or.inr rfl) (pd_op dd_add (pv_var (pv' 1)) (pv_of (pd_lc (m := true) rfl (pe_lc (own := [("_law_lot", 3)]) rfl sc__law_all_lots.nd (pid_list (px_f (pv_var (pv' 1))) rfl) (blkOk_by (N := N__law_all_lots) (sc := defScope Hd.s__law_all_lots) (by decide +kernel)) (fun _ _ _ _ _ => (pgd_name (pg_name (i := 3) sc__law_all_lots.nd rfl (by first | exact Or.inl rfl | exact Or.inr rfl)) (by decide))) (fun _ _ _ _ _ => pts_no) (fun _ _ _ _ _ => (pd_op dd_add (pv_var (pv' 3)) (pv_of (pd_lst (pds_cons (pd_var (pv' 2)) pds_nil)))))))))))))) (pssd_one (psd_ret (ps_ret (pd_var (pv' 1))))))), h⟩
def N__law_least : List Str := ["_law_lots", "_law_kept", "_law_many", "_law_lot", "_law_one"]
theorem sc__law_least : FnScope N__law_least ["_law_lots"] (defScope Hd.s__law_least) := ⟨rfl, rfl, rfl, by decide +kernel, rfl, by decide +kernel, by decide +kernel⟩
def g__law_least : Sv := (sSeq (sNew 1 eNil) (sSeq (sFor (asL (eFn gSorted (eCons (eComp [3] (asL (vV true 0)) (gN true 3) eYes (eTup (eCons (eFn gLen (eCons (vV true 3) eNil)) (eCons (eV true 3) eNil)))) eNil))) (gT true [2, 3]) (sIf (eNot (asB (eFn gAny (eCons (eComp [4] (asL (vV true 1)) (gN true 4) eYes (eCall 2 s__law_inside (eCons (eV true 4) (eCons (eV true 3) eNil)))) eNil)))) (sApp 1 (eV true 3)) sNil)) (sRet (eFn gSorted (eCons (vV true 1) eNil)))))
def s__law_least := semD 5 g__law_least
theorem ok__law_least {w : World} {K : PySem.W.Frag} {mg : Str → Option Value} {base : Heap} (E : G K mg) (B : GB E base) : FnOk P w K mg base C8.CX0 2 E.f__law_least E.d__law_least ["_law_lots"] (spD K E.T 1 s__law_least) := by
  refine okN (N := N__law_least) E.F__law_least sc__law_least spD_len fun cdv A outer s H vs Q X0 hr h => ?_
  obtain ⟨U0, h⟩ := read_body (N := N__law_least) (by decide) h
  exact ⟨tS ⟨K, E.T, U0, none, H⟩ g__law_least, (pssd_cons (psd_new (ps_set (i := 1) sc__law_least.nd rfl (by first | exact Or.inl rfl | exact Or.inr rfl) (pe_lst pds_nil))) (pssd_cons (psd_for (m := true) (own := [2, 3]) (ps_for PassesOwn.never rfl (pid_list (px_t (pd_callB (cc_sorted hr) rfl E.m_sorted (by decide +kernel) (pvs_cons (pv_of (pd_lc (m := true) rfl (pe_lc (own := [("_law_lot", 3)]) rfl sc__law_least.nd (pid_list (px_f (pv_var (pv' 0))) rfl) (blkOk_by (N := N__law_least) (sc := defScope Hd.s__law_least) (by decide +kernel)) (fun _ _ _ _ _ => (pgd_name (pg_name (i := 3) sc__law_least.nd rfl (by first | exact Or.inl rfl | exact Or.inr rfl)) (by decide))) (fun _ _ _ _ _ => pts_no) (fun _ _ _ _ _ => (pd_tup (pds_cons (pd_callB cc_len rfl E.m_len (by decide +kernel) (pvs_cons (pv_var (pv' 3)) pvs_nil)) (pds_cons (pd_var (pv' 3)) pds_nil))))))) pvs_nil))) rfl) (pgd_tup rfl rfl (pg_tup rfl (pgs_cons (pg_name (i := 2) sc__law_least.nd rfl (by first | exact Or.inl rfl | exact Or.inr rfl)) (pgs_cons (pg_name (i := 3) sc__law_least.nd rfl (by first | exact Or.inl rfl | exact Or.inr rfl)) pgs_nil))) (by decide)) (pssd_one (psd_if (ps_if (ptd_not (ptd_val (m := true) (pd_callB (cc_any rfl) rfl E.m_any (by decide +kernel) (pvs_cons (pv_of (pd_lc (m := true) rfl (pe_lc (own := [("_law_one", 4)]) rfl sc__law_least.nd (pid_list (px_f (pv_var (pv' 1))) rfl) (blkOk_by (N := N__law_least) (sc := defScope Hd.s__law_least) (by decide +kernel)) (fun _ _ _ _ _ => (pgd_name (pg_name (i := 4) sc__law_least.nd rfl (by first | exact Or.inl rfl | exact Or.inr rfl)) (by decide))) (fun _ _ _ _ _ => pts_no) (fun _ _ _ _ _ => (pd_call0 (E := C8.E0) (pe_call (ok__law_inside E B) (hr.mono (by decide)) rfl E.g__law_inside E.F__law_inside.kp (b__law_inside E) .nil C8.pass0 (pds_cons (pd_var (pv' 4)) (pds_cons (pd_var (pv' 3)) pds_nil)))))))) pvs_nil)))) (pssd_one (psd_append rfl (pv' 1) (pd_var (pv' 3)))) pssd_nil))))) (pssd_one (psd_ret (ps_ret (pd_callB (cc_sorted hr) rfl E.m_sorted (by decide +kernel) (pvs_cons (pv_var (pv' 1)) pvs_nil))))))), h⟩
def N__law_hits : List Str := ["_law_lot", "_law_family", "_law_one", "_law_x"]
theorem sc__law_hits : FnScope N__law_hits ["_law_lot", "_law_family"] (defScope Hd.s__law_hits) := ⟨rfl, rfl, rfl, by decide +kernel, rfl, by decide +kernel, by decide +kernel⟩
def g__law_hits : Sv := (sRet (eFn gAll (eCons (eComp [2] (asL (vV true 1)) (gN true 2) eYes (eFn gAny (eCons (eComp [3] (asL (vV true 0)) (gN true 3) eYes (eOp gIn (vV true 3) (vV true 2))) eNil))) eNil)))
def s__law_hits := semD 4 g__law_hits
theorem ok__law_hits {w : World} {K : PySem.W.Frag} {mg : Str → Option Value} {base : Heap} (E : G K mg) (B : GB E base) : FnOk P w K mg base C8.CX0 1 E.f__law_hits E.d__law_hits ["_law_lot", "_law_family"] (spD K E.T 2 s__law_hits) := by
  refine okN (N := N__law_hits) E.F__law_hits sc__law_hits spD_len fun cdv A outer s H vs Q X0 hr h => ?_
  obtain ⟨U0, h⟩ := read_body (N := N__law_hits) (by decide) h
  exact ⟨tS ⟨K, E.T, U0, none, H⟩ g__law_hits, (pssd_one (psd_ret (ps_ret (pd_callB (cc_all rfl) rfl E.m_all (by decide +kernel) (pvs_cons (pv_of (pd_lc (m := true) rfl (pe_lc (own := [("_law_one", 2)]) rfl sc__law_hits.nd (pid_list (px_f (pv_var (pv' 1))) rfl) (blkOk_by (N := N__law_hits) (sc := defScope Hd.s__law_hits) (by decide +kernel)) (fun _ _ _ _ _ => (pgd_name (pg_name (i := 2) sc__law_hits.nd rfl (by first | exact Or.inl rfl | exact Or.inr rfl)) (by decide))) (fun _ _ _ _ _ => pts_no) (fun _ _ _ _ _ => (pd_callB (cc_any rfl) rfl E.m_any (by decide +kernel) (pvs_cons (pv_of (pd_lc (m := true) rfl (pe_lc (own := [("_law_x", 3)]) rfl sc__law_hits.nd (pid_list (px_f (pv_var (pv' 0))) rfl) (blkOk_by (by kernel_rfl)) (fun _ _ _ _ _ => (pgd_name (pg_name (i := 3) sc__law_hits.nd rfl (by first | exact Or.inl rfl | exact Or.inr rfl)) (by decide))) (fun _ _ _ _ _ => pts_no) (fun _ _ _ _ _ => (pd_cmp (dd_in hr) (pv_var (pv' 3)) (pv_var (pv' 2)) (by with_unfolding_all rfl)))))) pvs_nil)))))) pvs_nil))))), h⟩
def N__law_is_name : List Str := ["_law_value", "_law_x"]
theorem sc__law_is_name : FnScope N__law_is_name ["_law_value"] (defScope Hd.s__law_is_name) := ⟨rfl, rfl, rfl, by decide +kernel, rfl, by decide +kernel, by decide +kernel⟩
def g__law_is_name : Sv := (sSeq (sIf (eOr (eNot (asB (eIsi "str" (vV true 0)))) (eOr (asB (eOp gLt (eFn gLen (eCons (vV true 0) eNil)) (eC (.int 1)))) (asB (eOp gGt (eFn gLen (eCons (vV true 0) eNil)) (eC (.int 8)))))) (sRet (eC (.bool false))) sNil) (sSeq (sIf (asB (eOp gNin (eOp gIx (vV true 0) (eC (.int 0))) (eC (.str "abcdefghijklmnopqrstuvwxyz")))) (sRet (eC (.bool false))) sNil) (sRet (eFn gAll (eCons (eComp [1] (asS (vV true 0)) (gN true 1) eYes (eOp gIn (vV true 1) (eC (.str "abcdefghijklmnopqrstuvwxyz0123456789")))) eNil)))))
def s__law_is_name := semD 2 g__law_is_name
theorem ok__law_is_name {w : World} {K : PySem.W.Frag} {mg : Str → Option Value} {base : Heap} (E : G K mg) (B : GB E base) : FnOk P w K mg base C8.CX0 1 E.f__law_is_name E.d__law_is_name ["_law_value"] (spD K E.T 1 s__law_is_name) := by
  refine okN (N := N__law_is_name) E.F__law_is_name sc__law_is_name spD_len fun cdv A outer s H vs Q X0 hr h => ?_
  obtain ⟨U0, h⟩ := read_body (N := N__law_is_name) (by decide) h
  exact ⟨tS ⟨K, E.T, U0, none, H⟩ g__law_is_name, (pssd_cons (psd_if (ps_if (PW.pt (pwd_or (ptd_not (ptd_val (m := true) (pd_isi (t := "str") rfl rfl E.m_isinstance (pv_var (pv' 0)) rfl E.m_str (by decide +kernel)))) (pwd_or (ptd_cmp (m := true) (dd_lt hr) (pv_of (pd_callB cc_len rfl E.m_len (by decide +kernel) (pvs_cons (pv_var (pv' 0)) pvs_nil))) (pv_of (pc_int pe_int)) (nomark _)) (pwd_or1 (ptd_cmp (m := true) (dd_gt hr) (pv_of (pd_callB cc_len rfl E.m_len (by decide +kernel) (pvs_cons (pv_var (pv' 0)) pvs_nil))) (pv_of (pc_int pe_int)) (nomark _)))))) (pssd_one (psd_ret (ps_ret (pc_bool pe_bl)))) pssd_nil)) (pssd_cons (psd_if (ps_if (ptd_cmp (m := true) (dd_nin hr) (pv_of (pd_ix rfl (pv_var (pv' 0)) (pv_of (pc_int pe_int)))) (pv_of (pc_str pe_str)) (by with_unfolding_all rfl)) (pssd_one (psd_ret (ps_ret (pc_bool pe_bl)))) pssd_nil)) (pssd_one (psd_ret (ps_ret (pd_callB (cc_all rfl) rfl E.m_all (by decide +kernel) (pvs_cons (pv_of (pd_lc (m := true) rfl (pe_lc (own := [("_law_x", 1)]) rfl sc__law_is_name.nd (pid_str (px_f (pv_var (pv' 0)))) (blkOk_by (N := N__law_is_name) (sc := defScope Hd.s__law_is_name) (by decide +kernel)) (fun _ _ _ _ _ => (pgd_name (pg_name (i := 1) sc__law_is_name.nd rfl (by first | exact Or.inl rfl | exact Or.inr rfl)) (by decide))) (fun _ _ _ _ _ => pts_no) (fun _ _ _ _ _ => (pd_cmp (dd_in hr) (pv_var (pv' 1)) (pv_of (pc_str pe_str)) (by with_unfolding_all rfl)))))) pvs_nil))))))), h⟩
def N__law_is_family : List Str := ["_law_value", "_law_names_here", "_law_lot", "_law_at", "_law_x"]
theorem sc__law_is_family : FnScope N__law_is_family ["_law_value"] (defScope Hd.s__law_is_family) := ⟨rfl, rfl, rfl, by decide +kernel, rfl, by decide +kernel, by decide +kernel⟩
def g__law_is_family : Sv := (sSeq (sIf (eOr (eNot (asB (eIsi "list" (vV true 0)))) (asB (eOp gGt (eFn gLen (eCons (vV true 0) eNil)) (eC (.int 300))))) (sRet (eC (.bool false))) sNil) (sSeq (sSetN true 1 (eLst eNil)) (sSeq (sFor (asL (eV true 0)) (gN true 2) (sSeq (sIf (eOr (eNot (asB (eIsi "list" (vV true 2)))) (eNot (asB (eFn gAll (eCons (eComp [4] (asL (vV true 2)) (gN true 4) eYes (eCall 1 s__law_is_name (eCons (eV true 4) eNil))) eNil))))) (sRet (eC (.bool false))) sNil) (sSeq (sIf (asB (eFn gAny (eCons (eComp [3] (asR1 (eCons (eOp gSub (eFn gLen (eCons (vV true 2) eNil)) (eC (.int 1))) eNil)) (gN true 3) eYes (eOp gGe (eOp gIx (vV true 2) (vV true 3)) (eOp gIx (vV true 2) (eOp gAdd (vV true 3) (eC (.int 1)))))) eNil))) (sRet (eC (.bool false))) sNil) (sSetN true 1 (eOp gAdd (vV true 1) (eComp [4] (asL (vV true 2)) (gN true 4) (asB (eOp gNin (vV true 4) (vV true 1))) (eV true 4))))))) (sRet (eOp gLe (eFn gLen (eCons (vV true 1) eNil)) (eC (.int 10)))))))
def s__law_is_family := semD 5 g__law_is_family
theorem ok__law_is_family {w : World} {K : PySem.W.Frag} {mg : Str → Option Value} {base : Heap} (E : G K mg) (B : GB E base) : FnOk P w K mg base C8.CX0 2 E.f__law_is_family E.d__law_is_family ["_law_value"] (spD K E.T 1 s__law_is_family) := by
  refine okN (N := N__law_is_family) E.F__law_is_family sc__law_is_family spD_len fun cdv A outer s H vs Q X0 hr h => ?_
  obtain ⟨U0, h⟩ := read_body (N := N__law_is_family) (by decide) h
  exact ⟨tS ⟨K, E.T, U0, none, H⟩ g__law_is_family, (pssd_cons (psd_if (ps_if (PW.pt (pwd_or (ptd_not (ptd_val (m := true) (pd_isi (t := "list") rfl rfl E.m_isinstance (pv_var (pv' 0)) rfl E.m_list (by decide +kernel)))) (pwd_or1 (ptd_cmp (m := true) (dd_gt hr) (pv_of (pd_callB cc_len rfl E.m_len (by decide +kernel) (pvs_cons (pv_var (pv' 0)) pvs_nil))) (pv_of (pc_int pe_int)) (nomark _))))) (pssd_one (psd_ret (ps_ret (pc_bool pe_bl)))) pssd_nil)) (pssd_cons (psd_setN (ps_set (i := 1) sc__law_is_family.nd rfl (by first | exact Or.inl rfl | exact Or.inr rfl) (pd_lst pds_nil))) (pssd_cons (psd_for (m := true) (own := [2]) (ps_for PassesOwn.never rfl (pid_list (px_t (pd_var (pv' 0))) rfl) (pgd_name (pg_name (i := 2) sc__law_is_family.nd rfl (by first | exact Or.inl rfl | exact Or.inr rfl)) (by decide)) (pssd_cons (psd_if (ps_if (PW.pt (pwd_or (ptd_not (ptd_val (m := true) (pd_isi (t := "list") rfl rfl E.m_isinstance (pv_var (pv' 2)) rfl E.m_list (by decide +kernel)))) (pwd_or1 (ptd_not (ptd_val (m := true) (pd_callB (cc_all rfl) rfl E.m_all (by decide +kernel) (pvs_cons (pv_of (pd_lc (m := true) rfl (pe_lc (own := [("_law_x", 4)]) rfl sc__law_is_family.nd (pid_list (px_f (pv_var (pv' 2))) rfl) (blkOk_by (N := N__law_is_family) (sc := defScope Hd.s__law_is_family) (by decide +kernel)) (fun _ _ _ _ _ => (pgd_name (pg_name (i := 4) sc__law_is_family.nd rfl (by first | exact Or.inl rfl | exact Or.inr rfl)) (by decide))) (fun _ _ _ _ _ => pts_no) (fun _ _ _ _ _ => (pd_call0 (E := C8.E0) (pe_call (ok__law_is_name E B) (hr.mono (by decide)) rfl E.g__law_is_name E.F__law_is_name.kp (b__law_is_name E) .nil C8.pass0 (pds_cons (pd_var (pv' 4)) pds_nil))))))) pvs_nil))))))) (pssd_one (psd_ret (ps_ret (pc_bool pe_bl)))) pssd_nil)) (pssd_cons (psd_if (ps_if (ptd_val (m := true) (pd_callB (cc_any rfl) rfl E.m_any (by decide +kernel) (pvs_cons (pv_of (pd_lc (m := true) rfl (pe_lc (own := [("_law_at", 3)]) rfl sc__law_is_family.nd (pid_range1 rfl E.m_range (pds_cons (pd_op dd_sub (pv_of (pd_callB cc_len rfl E.m_len (by decide +kernel) (pvs_cons (pv_var (pv' 2)) pvs_nil))) (pv_of (pc_int pe_int))) pds_nil)) (blkOk_by (N := N__law_is_family) (sc := defScope Hd.s__law_is_family) (by decide +kernel)) (fun _ _ _ _ _ => (pgd_name (pg_name (i := 3) sc__law_is_family.nd rfl (by first | exact Or.inl rfl | exact Or.inr rfl)) (by decide))) (fun _ _ _ _ _ => pts_no) (fun _ _ _ _ _ => (pd_cmp (dd_ge hr) (pv_of (pd_ix rfl (pv_var (pv' 2)) (pv_var (pv' 3)))) (pv_of (pd_ix rfl (pv_var (pv' 2)) (pv_of (pd_op dd_add (pv_var (pv' 3)) (pv_of (pc_int pe_int)))))) (nomark _)))))) pvs_nil))) (pssd_one (psd_ret (ps_ret (pc_bool pe_bl)))) pssd_nil)) (pssd_one (psd_setN (ps_set (i := 1) sc__law_is_family.nd rfl (by first | exact Or.inl rfl | exact Or.inr rfl) (pd_op dd_add (pv_var (pv' 1)) (pv_of (pd_lc (m := true) rfl (pe_lc (own := [("_law_x", 4)]) rfl sc__law_is_family.nd (pid_list (px_f (pv_var (pv' 2))) rfl) (blkOk_by (N := N__law_is_family) (sc := defScope Hd.s__law_is_family) (by decide +kernel)) (fun _ _ _ _ _ => (pgd_name (pg_name (i := 4) sc__law_is_family.nd rfl (by first | exact Or.inl rfl | exact Or.inr rfl)) (by decide))) (fun _ _ _ _ _ => (ptsd_one (ptd_cmp (m := true) (dd_nin hr) (pv_var (pv' 4)) (pv_var (pv' 1)) (by with_unfolding_all rfl)))) (fun _ _ _ _ _ => (pd_var (pv' 4)))))))))))))) (pssd_one (psd_ret (ps_ret (pd_cmp (dd_le hr) (pv_of (pd_callB cc_len rfl E.m_len (by decide +kernel) (pvs_cons (pv_var (pv' 1)) pvs_nil))) (pv_of (pc_int pe_int)) (nomark _)))))))), h⟩
def N__law_bent : List Str := ["_law_pot_here", "_law_family", "_law_names_here", "_law_lot", "_law_values", "_law_name", "_law_more", "_law_x"]
theorem sc__law_bent : FnScope N__law_bent ["_law_pot_here", "_law_family", "_law_names_here"] (defScope Hd.s__law_bent) := ⟨rfl, rfl, rfl, by decide +kernel, rfl, by decide +kernel, by decide +kernel⟩
def g__law_bent : Sv := (sSeq (sSetN true 3 (eIf (asB (eOp gNe (vV true 1) (eLst eNil))) (eOp gIx (vV true 1) (eNeg (eC (.int 1)))) (eLst eNil))) (sSeq (sNew 4 (eCons (eC .none) (eCons (eC (.bool true)) (eCons (eC (.int 3)) (eCons (eC (.str "")) (eCons (eTup eNil) (eCons (eFn gTuple (eCons (vV true 1) eNil)) (eCons (eLst (eCons (eC .none) eNil)) (eCons (eLst (eCons (eOp gIx (vV true 2) (eC (.int 0))) eNil)) (eCons (eOp gAdd (vV true 1) (eLst (eCons (eTup eNil) eNil))) eNil)))))))))) (sSeq (sOwn 4 (eCat (vV true 4) (eLst (eCons (eOp gAdd (vV true 1) (eLst (eCons (eFn gTuple (eCons (vV true 3) eNil)) eNil))) (eCons (eOp gAdd (vV true 1) (eLst (eCons (eOp gAdd (vV true 3) (eSl (vV true 3) (oAt (eNeg (eC (.int 1)))) oNo)) eNil))) (eCons (eLst (eCons (eRev (vV true 3)) eNil)) eNil)))))) (sSeq (sFor (asL (eLst (eCons (eC (.str "")) (eCons (eC (.str "9a")) (eCons (eC (.str "a_")) (eCons (eC (.str "Ab")) (eCons (eC (.str "a b")) (eCons (eC (.str "abcdefghi")) (eCons (eC (.str "abcdefgh")) (eCons (eC (.str "z9")) (eCons (eC (.int 1)) (eCons (eC .none) (eCons (eLst (eCons (eC (.str "a")) eNil)) eNil))))))))))))) (gN true 5) (sApp 4 (eOp gAdd (vV true 1) (eLst (eCons (eLst (eCons (eV true 5) eNil)) eNil))))) (sSeq (sSetN true 6 (eCallP 1 0 s__law_names (eCons (eC (.int 11)) eNil))) (sSeq (sOwn 4 (eCat (vV true 4) (eLst (eCons (eComp [7] (asL (vV true 6)) (gN true 7) eYes (eLst (eCons (eV true 7) eNil))) (eCons (eComp [7] (asL (eSl (vV true 6) oNo (oAt (eC (.int 10))))) (gN true 7) eYes (eLst (eCons (eV true 7) eNil))) (eCons (eLst (eCons (eFn gSorted (eCons (vV true 6) eNil)) eNil)) eNil)))))) (sSeq (sOwn 4 (eCat (vV true 4) (eLst (eCons (eLst (eCons (eSl (eFn gSorted (eCons (vV true 6) eNil)) oNo (oAt (eC (.int 10)))) eNil)) (eCons (eLst (eCons (eRev (eFn gSorted (eCons (vV true 6) eNil))) eNil)) (eCons (eRev (vV true 1)) (eCons (eLst (eCons (eLst eNil) (eCons (eLst eNil) eNil))) eNil))))))) (sFrz 4 (sRet (eV true 4))))))))))
def s__law_bent := semP 8 g__law_bent
theorem ok__law_bent {w : World} {K : PySem.W.Frag} {mg : Str → Option Value} {base : Heap} (E : G K mg) (B : GB E base) : FnOk P w K mg base C8.CX0 4 E.f__law_bent E.d__law_bent ["_law_pot_here", "_law_family", "_law_names_here"] (spP K E.T 2 s__law_bent) := by
  refine okN (N := N__law_bent) E.F__law_bent sc__law_bent spP_len fun cdv A outer s H vs Q X0 hr h => ?_
  obtain ⟨U0, p0, h⟩ := read_bodyP (N := N__law_bent) (by decide) h
  exact ⟨tS ⟨K, E.T, U0, some p0, H⟩ g__law_bent, (pssd_cons (psd_setN (ps_set (i := 3) sc__law_bent.nd rfl (by first | exact Or.inl rfl | exact Or.inr rfl) (pd_if (ptd_cmp (m := true) (dd_ne hr) (pv_var (pv' 1)) (pv_of (pd_lst pds_nil)) (nomark _)) (pd_ix rfl (pv_var (pv' 1)) (pv_of (pd_neg (pv_of (pc_int pe_int))))) (pd_lst pds_nil)))) (pssd_cons (psd_new (ps_set (i := 4) sc__law_bent.nd rfl (by first | exact Or.inl rfl | exact Or.inr rfl) (pe_lst (pds_cons (pc_none pe_non) (pds_cons (pc_bool pe_bl) (pds_cons (pc_int pe_int) (pds_cons (pc_str pe_str) (pds_cons (pd_tup pds_nil) (pds_cons (pd_callTy cc_tuple rfl E.m_tuple (by decide +kernel) (pvs_cons (pv_var (pv' 1)) pvs_nil)) (pds_cons (pd_lst (pds_cons (pc_none pe_non) pds_nil)) (pds_cons (pd_lst (pds_cons (pd_ix rfl (pv_var (pv' 2)) (pv_of (pc_int pe_int))) pds_nil)) (pds_cons (pd_op dd_add (pv_var (pv' 1)) (pv_of (pd_lst (pds_cons (pd_tup pds_nil) pds_nil)))) pds_nil)))))))))))) (pssd_cons (psd_own (ps_set (i := 4) sc__law_bent.nd rfl (by first | exact Or.inl rfl | exact Or.inr rfl) (pn_cat rfl (pv_var (pv' 4)) (pv_of (pd_lst (pds_cons (pd_op dd_add (pv_var (pv' 1)) (pv_of (pd_lst (pds_cons (pd_callTy cc_tuple rfl E.m_tuple (by decide +kernel) (pvs_cons (pv_var (pv' 3)) pvs_nil)) pds_nil)))) (pds_cons (pd_op dd_add (pv_var (pv' 1)) (pv_of (pd_lst (pds_cons (pd_op dd_add (pv_var (pv' 3)) (pv_of (pd_sl rfl (pv_var (pv' 3)) (pod_at (m := true) (pv_of (pd_neg (pv_of (pc_int pe_int))))) pod_no))) pds_nil)))) (pds_cons (pd_lst (pds_cons (pd_rev rfl (pv_var (pv' 3))) pds_nil)) pds_nil)))))))) (pssd_cons (psd_for (m := true) (own := [5]) (ps_for PassesOwn.never rfl (pid_list (px_t (pd_lst (pds_cons (pc_str pe_str) (pds_cons (pc_str pe_str) (pds_cons (pc_str pe_str) (pds_cons (pc_str pe_str) (pds_cons (pc_str pe_str) (pds_cons (pc_str pe_str) (pds_cons (pc_str pe_str) (pds_cons (pc_str pe_str) (pds_cons (pc_int pe_int) (pds_cons (pc_none pe_non) (pds_cons (pd_lst (pds_cons (pc_str pe_str) pds_nil)) pds_nil))))))))))))) rfl) (pgd_name (pg_name (i := 5) sc__law_bent.nd rfl (by first | exact Or.inl rfl | exact Or.inr rfl)) (by decide)) (pssd_one (psd_append rfl (pv' 4) (pd_op dd_add (pv_var (pv' 1)) (pv_of (pd_lst (pds_cons (pd_lst (pds_cons (pd_var (pv' 5)) pds_nil)) pds_nil)))))))) (pssd_cons (psd_setN (ps_set (i := 6) sc__law_bent.nd rfl (by first | exact Or.inl rfl | exact Or.inr rfl) (pd_callP (E := C8.E0) (pe_call (ok__law_names E B) (hr.mono (by decide)) rfl E.g__law_names E.F__law_names.kp (b__law_names E) .nil C8.pass0 (pa_cons (pv' 0) (pds_cons (pc_int pe_int) pds_nil)))))) (pssd_cons (psd_own (ps_set (i := 4) sc__law_bent.nd rfl (by first | exact Or.inl rfl | exact Or.inr rfl) (pn_cat rfl (pv_var (pv' 4)) (pv_of (pd_lst (pds_cons (pd_lc (m := true) rfl (pe_lc (own := [("_law_x", 7)]) rfl sc__law_bent.nd (pid_list (px_f (pv_var (pv' 6))) rfl) (blkOk_by (N := N__law_bent) (sc := defScope Hd.s__law_bent) (by decide +kernel)) (fun _ _ _ _ _ => (pgd_name (pg_name (i := 7) sc__law_bent.nd rfl (by first | exact Or.inl rfl | exact Or.inr rfl)) (by decide))) (fun _ _ _ _ _ => pts_no) (fun _ _ _ _ _ => (pd_lst (pds_cons (pd_var (pv' 7)) pds_nil))))) (pds_cons (pd_lc (m := true) rfl (pe_lc (own := [("_law_x", 7)]) rfl sc__law_bent.nd (pid_list (px_f (pv_of (pd_sl rfl (pv_var (pv' 6)) pod_no (pod_at (m := true) (pv_of (pc_int pe_int)))))) rfl) (blkOk_by (N := N__law_bent) (sc := defScope Hd.s__law_bent) (by decide +kernel)) (fun _ _ _ _ _ => (pgd_name (pg_name (i := 7) sc__law_bent.nd rfl (by first | exact Or.inl rfl | exact Or.inr rfl)) (by decide))) (fun _ _ _ _ _ => pts_no) (fun _ _ _ _ _ => (pd_lst (pds_cons (pd_var (pv' 7)) pds_nil))))) (pds_cons (pd_lst (pds_cons (pd_callB (cc_sorted hr) rfl E.m_sorted (by decide +kernel) (pvs_cons (pv_var (pv' 6)) pvs_nil)) pds_nil)) pds_nil)))))))) (pssd_cons (psd_own (ps_set (i := 4) sc__law_bent.nd rfl (by first | exact Or.inl rfl | exact Or.inr rfl) (pn_cat rfl (pv_var (pv' 4)) (pv_of (pd_lst (pds_cons (pd_lst (pds_cons (pd_sl rfl (pv_of (pd_callB (cc_sorted hr) rfl E.m_sorted (by decide +kernel) (pvs_cons (pv_var (pv' 6)) pvs_nil))) pod_no (pod_at (m := true) (pv_of (pc_int pe_int)))) pds_nil)) (pds_cons (pd_lst (pds_cons (pd_rev rfl (pv_of (pd_callB (cc_sorted hr) rfl E.m_sorted (by decide +kernel) (pvs_cons (pv_var (pv' 6)) pvs_nil)))) pds_nil)) (pds_cons (pd_rev rfl (pv_var (pv' 1))) (pds_cons (pd_lst (pds_cons (pd_lst pds_nil) (pds_cons (pd_lst pds_nil) pds_nil))) pds_nil))))))))) (pssd_one (psd_frz (i := 4) (psd_ret (ps_ret (pd_var (pv' 4))))))))))))), h⟩
def N__law_great : List Str := ["_law_pot_here", "_law_family", "_law_whole", "_law_turn", "_law_due"]
theorem sc__law_great : FnScope N__law_great ["_law_pot_here", "_law_family"] (defScope Hd.s__law_great) := ⟨rfl, rfl, rfl, by decide +kernel, rfl, by decide +kernel, by decide +kernel⟩
def g__law_great : Sv := (sSeq (sNew 2 eNil) (sSeq (sFor (asR1 (eCons (eC (.int 300)) eNil)) (gN true 3) (sApp 2 (eIf (asB (eOp gNe (vV true 1) (eLst eNil))) (eFn gList (eCons (eCallP 1 0 s__law_pick (eCons (vV true 1) eNil)) eNil)) (eLst eNil)))) (sSeq (sFrz 2 (sIf (eOr (asB (eOp gIsn (eCall 1 s_is_family (eCons (eV true 2) eNil)) (eC (.bool true)))) (asB (eOp gIsn (eCallK 1 s_is_family (fun ds => pId [] ds) (eCons (eOp gAdd (vV true 2) (eLst (eCons (eLst eNil) eNil))) eNil)) (eC (.bool false))))) (sRet (eC (.bool false))) sNil)) (sSeq (sSetN true 4 (eCall 1 s__law_least (eCons (eV true 2) eNil))) (sRet (eCall 2 (s__law_same 12) (eCons (eCall 1 s_thinned_family (eCons (eV true 2) eNil)) (eCons (eV true 4) eNil))))))))
def s__law_great := semP 5 g__law_great
theorem ok__law_great {w : World} {K : PySem.W.Frag} {mg : Str → Option Value} {base : Heap} (E : G K mg) (B : GB E base) : FnOk P w K mg base C8.CX0 14 E.f__law_great E.d__law_great ["_law_pot_here", "_law_family"] (spP K E.T 1 s__law_great) := by
  refine okN (N := N__law_great) E.F__law_great sc__law_great spP_len fun cdv A outer s H vs Q X0 hr h => ?_
  obtain ⟨U0, p0, h⟩ := read_bodyP (N := N__law_great) (by decide) h
  exact ⟨tS ⟨K, E.T, U0, some p0, H⟩ g__law_great, (pssd_cons (psd_new (ps_set (i := 2) sc__law_great.nd rfl (by first | exact Or.inl rfl | exact Or.inr rfl) (pe_lst pds_nil))) (pssd_cons (psd_for (m := true) (own := [3]) (ps_for PassesOwn.never rfl (pid_range1 rfl E.m_range (pds_cons (pc_int pe_int) pds_nil)) (pgd_name (pg_name (i := 3) sc__law_great.nd rfl (by first | exact Or.inl rfl | exact Or.inr rfl)) (by decide)) (pssd_one (psd_append rfl (pv' 2) (pd_if (ptd_cmp (m := true) (dd_ne hr) (pv_var (pv' 1)) (pv_of (pd_lst pds_nil)) (nomark _)) (pd_callTy cc_list rfl E.m_list (by decide +kernel) (pvs_cons (pv_of (pd_callPV (E := C8.E0) (pe_call (ok__law_pick E B) (hr.mono (by decide)) rfl E.g__law_pick E.F__law_pick.kp (b__law_pick E) .nil C8.pass0 (pa_cons (pv' 0) (pvs_cons (pv_var (pv' 1)) pvs_nil))))) pvs_nil)) (pd_lst pds_nil)))))) (pssd_cons (psd_frz (i := 2) (psd_if (ps_if (PW.pt (pwd_or (ptd_cmp (m := true) dd_isn (pv_of (pd_call0 (E := C8.E0) (pe_call (ok_is_family E B) (hr.mono (by decide)) rfl E.g_is_family E.F_is_family.kp (b_is_family E) .nil C8.pass0 (pds_cons (pd_var (pv' 2)) pds_nil)))) (pv_of (pc_bool pe_bl)) (nomark _)) (pwd_or1 (ptd_cmp (m := true) dd_isn (pv_of (pd_callKi (E := C8.E0) (len_cons len_nil) (pe_callKm (ok_is_family E B) (hr.mono (by decide)) rfl E.g_is_family E.F_is_family.kp (bk_is_family E) C8.pass0 (pkd_cons (pd_op dd_add (pv_var (pv' 2)) (pv_of (pd_lst (pds_cons (pd_lst pds_nil) pds_nil)))) pkd_nil)))) (pv_of (pc_bool pe_bl)) (nomark _))))) (pssd_one (psd_ret (ps_ret (pc_bool pe_bl)))) pssd_nil))) (pssd_cons (psd_setN (ps_set (i := 4) sc__law_great.nd rfl (by first | exact Or.inl rfl | exact Or.inr rfl) (pd_call0 (E := C8.E0) (pe_call (ok__law_least E B) (hr.mono (by decide)) rfl E.g__law_least E.F__law_least.kp (b__law_least E) .nil C8.pass0 (pds_cons (pd_var (pv' 2)) pds_nil))))) (pssd_one (psd_ret (ps_ret (pd_call0 (E := C8.E0) (pe_call (ok__law_same E B 12) (hr.mono (by decide)) rfl E.g__law_same E.F__law_same.kp (b__law_same E) .nil C8.pass0 (pds_cons (pd_call0 (E := C8.E0) (pe_call (ok_thinned_family E B) (hr.mono (by decide)) rfl E.g_thinned_family E.F_thinned_family.kp (b_thinned_family E) .nil C8.pass0 (pds_cons (pd_var (pv' 2)) pds_nil))) (pds_cons (pd_var (pv' 4)) pds_nil))))))))))), h⟩
def N_law : List Str := ["_law_script", "_law_pot_here", "_law_many", "_law_turn", "_law_hitting", "_law_due", "_law_value", "_law_told", "_law_row", "_law_names_here", "_law_share", "_law_most", "_law_family", "_law_lot", "_law_kept", "_law_used", "_law_x"]
theorem sc_law : FnScope N_law ["_law_script"] (defScope Hd.s_law) := ⟨rfl, rfl, rfl, by decide +kernel, rfl, by decide +kernel, by decide +kernel⟩
def g_law : Sv := (sSeq (sSetN true 2 (eIf (asB (eOp gEq (eCallP 1 1 s__law_draw (eCons (eC (.int 6)) eNil)) (eC (.int 0)))) (eOp gAdd (eC (.int 6)) (eCallP 1 1 s__law_draw (eCons (eC (.int 5)) eNil))) (eOp gAdd (eC (.int 1)) (eCallP 1 1 s__law_draw (eCons (eC (.int 5)) eNil))))) (sSeq (sSet (eTup (eCons (eCallP 1 1 s__law_names (eCons (eV true 2) eNil)) (eCons (eOp gAdd (eC (.int 2)) (eCallP 1 1 s__law_draw (eCons (eC (.int 2)) eNil))) eNil))) (gT true [9, 10])) (sSeq (sParO 11 12 (eIf (asB (eOp gGt (vV true 2) (eC (.int 5)))) (eC (.int 4)) (eC (.int 7))) eNil) (sSeq (sFor (asR1 (eCons (eCallP 1 1 s__law_draw (eCons (eV true 11) eNil)) eNil)) (gN true 3) (sSeq (sSetN true 13 (eFn gSorted (eCons (eComp [16] (asL (vV true 9)) (gN true 16) (asB (eOp gEq (eCallP 1 1 s__law_draw (eCons (eV true 10) eNil)) (eC (.int 0)))) (eV true 16)) eNil))) (sSeq (sIf (eAnd (asB (eOp gEq (vV true 13) (eLst eNil))) (asB (eOp gGt (eCallP 1 1 s__law_draw (eCons (eC (.int 4)) eNil)) (eC (.int 0))))) (sSetN true 13 (eLst (eCons (eCallP 1 1 s__law_pick (eCons (vV true 9) eNil)) eNil))) sNil) (sApp 12 (eV true 13))))) (sSeq (sIf (eAnd (asB (eOp gNe (vV true 12) (eLst eNil))) (asB (eOp gEq (eCallP 1 1 s__law_draw (eCons (eC (.int 4)) eNil)) (eC (.int 0))))) (sApp 12 (eFn gList (eCons (eCallP 1 1 s__law_pick (eCons (vV true 12) eNil)) eNil))) sNil) (sSeq (sPar 14 15 (eCons (eFn gRepr (eCons (vV true 12) eNil)) (eCons (eFn gSorted (eCons (vV true 9) eNil)) eNil))) (sSeq (sFrz 12 (sSetN true 4 (eComp [13] (asL (eCall 1 s__law_all_lots (eCons (eV true 15) eNil))) (gN true 13) (asB (eCall 2 s__law_hits (eCons (eV true 13) (eCons (eV true 12) eNil)))) (eV true 13)))) (sSeq (sSetN true 5 (eCall 1 s__law_least (eCons (eV true 4) eNil))) (sSeq (sIf (asB (eOp gIsn (eCall 1 s_is_family (eCons (eV true 12) eNil)) (eC (.bool true)))) (sRet (eC (.bool false))) sNil) (sSeq (sFor (asL (eCallP 2 1 s__law_bent (eCons (eV true 12) (eCons (eV true 9) eNil)))) (gN true 6) (sIf (eNot (asB (eCall 2 (s__law_same 12) (eCons (eCall 1 s_is_family (eCons (eV true 6) eNil)) (eCons (eCall 1 s__law_is_family (eCons (eV true 6) eNil)) eNil))))) (sRet (eC (.bool false))) sNil)) (sSeq (sIf (eNot (asB (eCall 2 (s__law_same 12) (eCons (eCallK 1 s_thinned_family (fun ds => pId [] ds) (eCons (eV true 12) eNil)) (eCons (eCall 1 s__law_least (eCons (eV true 12) eNil)) eNil))))) (sRet (eC (.bool false))) sNil) (sSeq (sTold 7 8 (eCall 1 s_least_hitting (eCons (eV true 12) eNil)) (eNot (asB (eCall 2 (s__law_same 12) (eCons (eV true 7) (eCons (eV true 5) eNil)))))) (sSeq (sIf (eNot (asB (eCall 2 (s__law_same 12) (eCons (eCallK 1 s_least_hitting (fun ds => pId [] ds) (eCons (eV true 12) eNil)) (eCons (eV true 5) eNil))))) (sRet (eC (.bool false))) sNil) (sSeq (sIf (eAnd (asB (eOp gLt (vV true 2) (eC (.int 9)))) (eNot (asB (eCall 2 (s__law_same 12) (eCons (eCallK 1 s_least_hitting_plain (fun ds => pId [] ds) (eCons (eV true 12) eNil)) (eCons (eV true 5) eNil)))))) (sRet (eC (.bool false))) sNil) (sSeq (sIf (eAnd (asB (eOp gLt (eFn gLen (eCons (vV true 5) eNil)) (eC (.int 13)))) (eNot (asB (eCall 2 (s__law_same 12) (eCons (eCall 1 s_least_hitting (eCons (eV true 5) eNil)) (eCons (eCall 1 s__law_least (eCons (eV true 12) eNil)) eNil)))))) (sRet (eC (.bool false))) sNil) (sSeq (sFor (asR1 (eCons (eC (.int 4)) eNil)) (gN true 3) (sSeq (sSetN true 13 (eFn gSorted (eCons (eComp [16] (asL (vV true 9)) (gN true 16) (asB (eOp gEq (eCallP 1 1 s__law_draw (eCons (eC (.int 2)) eNil)) (eC (.int 0)))) (eV true 16)) eNil))) (sSeq (sIf (asB (eOp gEq (vV true 3) (eC (.int 0)))) (sSetN true 13 (eFn gSorted (eCons (eOp gAdd (eLst (eCons (eC (.str "q0")) eNil)) (eSl (vV true 13) (oAt (eC (.int 1))) oNo)) eNil))) sNil) (sIf (eNot (asB (eCall 2 (s__law_same 12) (eCons (eCall 2 s_hits (eCons (eV true 13) (eCons (eV true 12) eNil))) (eCons (eCall 2 s__law_hits (eCons (eV true 13) (eCons (eV true 12) eNil))) eNil))))) (sRet (eC (.bool false))) sNil)))) (sSeq (sIf (eNot (asB (eCall 2 (s__law_same 12) (eCons (eCallK 2 s_hits (fun ds => pSwap [] ds) (eCons (eV true 12) (eCons (eLst eNil) eNil))) (eCons (eOp gEq (vV true 12) (eLst eNil)) eNil))))) (sRet (eC (.bool false))) sNil) (sSeq (sIf (eAnd (asB (eOp gEq (eCallP 1 1 s__law_draw (eCons (eC (.int 8)) eNil)) (eC (.int 0)))) (eNot (asB (eCallP 1 1 s__law_great (eCons (eV true 12) eNil))))) (sRet (eC (.bool false))) sNil) (sRet (eOp gEq (eFn gRepr (eCons (vV true 12) eNil)) (vV true 14)))))))))))))))))))))
theorem law_rest {w : World} {K : PySem.W.Frag} {mg : Str → Option Value} {base : Heap} (E : G K mg) (B : GB E base) (X : Cx) (cdv : Value) (A : Around) (outer : List Env) (s0 : Shared) (H : Hp) (Q : XK) (hr : Room 14 (A.deeper (envOfC "law" (defScope Hd.s_law) s0.heap.objs.size E.f_law cdv))) (hgu : A.guards = some []) (C : Fx) (hC : C.K = K ∧ C.T = E.T) : PSs (cxOf C8.CX0 P w K mg base N_law "law" (defScope Hd.s_law) E.f_law cdv A outer s0 H Q).nox ((defBody Hd.s_law).drop 1) (tS C g_law) := by
  obtain ⟨CK, CT, U0, pot, H0⟩ := C
  obtain ⟨e1, e2⟩ := hC
  dsimp only at e1 e2
  subst e1 e2
  exact (pssd_cons (psd_setN (ps_set (i := 2) sc_law.nd rfl (by first | exact Or.inl rfl | exact Or.inr rfl) (pd_if (ptd_cmp (m := true) (dd_eq hr) (pv_of (pd_callP (E := C8.E0) (pe_call (ok__law_draw E B) (hr.mono (by decide)) rfl E.g__law_draw E.F__law_draw.kp (b__law_draw E) .nil C8.pass0 (pa_cons (pv' 1) (pds_cons (pc_int pe_int) pds_nil))))) (pv_of (pc_int pe_int)) (nomark _)) (pd_op dd_add (pv_of (pc_int pe_int)) (pv_of (pd_callP (E := C8.E0) (pe_call (ok__law_draw E B) (hr.mono (by decide)) rfl E.g__law_draw E.F__law_draw.kp (b__law_draw E) .nil C8.pass0 (pa_cons (pv' 1) (pds_cons (pc_int pe_int) pds_nil)))))) (pd_op dd_add (pv_of (pc_int pe_int)) (pv_of (pd_callP (E := C8.E0) (pe_call (ok__law_draw E B) (hr.mono (by decide)) rfl E.g__law_draw E.F__law_draw.kp (b__law_draw E) .nil C8.pass0 (pa_cons (pv' 1) (pds_cons (pc_int pe_int) pds_nil))))))))) (pssd_cons (psd_set (own := [9, 10]) (ps_asg (pd_tup (pds_cons (pd_callP (E := C8.E0) (pe_call (ok__law_names E B) (hr.mono (by decide)) rfl E.g__law_names E.F__law_names.kp (b__law_names E) .nil C8.pass0 (pa_cons (pv' 1) (pds_cons (pd_var (pv' 2)) pds_nil)))) (pds_cons (pd_op dd_add (pv_of (pc_int pe_int)) (pv_of (pd_callP (E := C8.E0) (pe_call (ok__law_draw E B) (hr.mono (by decide)) rfl E.g__law_draw E.F__law_draw.kp (b__law_draw E) .nil C8.pass0 (pa_cons (pv' 1) (pds_cons (pc_int pe_int) pds_nil)))))) pds_nil))) (pgd_tup rfl rfl (pg_tup rfl (pgs_cons (pg_name (i := 9) sc_law.nd rfl (by first | exact Or.inl rfl | exact Or.inr rfl)) (pgs_cons (pg_name (i := 10) sc_law.nd rfl (by first | exact Or.inl rfl | exact Or.inr rfl)) pgs_nil))) (by decide)))) (pssd_cons (psd_parO2 (ps_asg (pe_tup (pa_cons (pd_if (ptd_cmp (m := true) (dd_gt hr) (pv_var (pv' 2)) (pv_of (pc_int pe_int)) (nomark _)) (pc_int pe_int) (pc_int pe_int)) (pa_cons (pe_lst pds_nil) pa_nil))) (pg_tup rfl (pgs_cons (pg_name (i := 11) sc_law.nd rfl (by first | exact Or.inl rfl | exact Or.inr rfl)) (pgs_cons (pg_name (i := 12) sc_law.nd rfl (by first | exact Or.inl rfl | exact Or.inr rfl)) pgs_nil))))) (pssd_cons (psd_for (m := true) (own := [3]) (ps_for PassesOwn.never rfl (pid_range1 rfl E.m_range (pds_cons (pd_callP (E := C8.E0) (pe_call (ok__law_draw E B) (hr.mono (by decide)) rfl E.g__law_draw E.F__law_draw.kp (b__law_draw E) .nil C8.pass0 (pa_cons (pv' 1) (pds_cons (pd_var (pv' 11)) pds_nil)))) pds_nil)) (pgd_name (pg_name (i := 3) sc_law.nd rfl (by first | exact Or.inl rfl | exact Or.inr rfl)) (by decide)) (pssd_cons (psd_setN (ps_set (i := 13) sc_law.nd rfl (by first | exact Or.inl rfl | exact Or.inr rfl) (pd_callB (cc_sorted hr) rfl E.m_sorted (by decide +kernel) (pvs_cons (pv_of (pd_lc (m := true) rfl (pe_lc (own := [("_law_x", 16)]) rfl sc_law.nd (pid_list (px_f (pv_var (pv' 9))) rfl) (blkOk_by (N := N_law) (sc := defScope Hd.s_law) (by decide +kernel)) (fun _ _ _ _ _ => (pgd_name (pg_name (i := 16) sc_law.nd rfl (by first | exact Or.inl rfl | exact Or.inr rfl)) (by decide))) (fun _ _ _ _ _ => (ptsd_one (ptd_cmp (m := true) (dd_eq hr) (pv_of (pd_callP (E := C8.E0) (pe_call (ok__law_draw E B) (hr.mono (by decide)) rfl E.g__law_draw E.F__law_draw.kp (b__law_draw E) .nil C8.pass0 (pa_cons (pv' 1) (pds_cons (pd_var (pv' 10)) pds_nil))))) (pv_of (pc_int pe_int)) (nomark _)))) (fun _ _ _ _ _ => (pd_var (pv' 16)))))) pvs_nil)))) (pssd_cons (psd_if (ps_if (PW.pt (pwd_and (ptd_cmp (m := true) (dd_eq hr) (pv_var (pv' 13)) (pv_of (pd_lst pds_nil)) (nomark _)) (pwd_and1 (ptd_cmp (m := true) (dd_gt hr) (pv_of (pd_callP (E := C8.E0) (pe_call (ok__law_draw E B) (hr.mono (by decide)) rfl E.g__law_draw E.F__law_draw.kp (b__law_draw E) .nil C8.pass0 (pa_cons (pv' 1) (pds_cons (pc_int pe_int) pds_nil))))) (pv_of (pc_int pe_int)) (nomark _))))) (pssd_one (psd_setN (ps_set (i := 13) sc_law.nd rfl (by first | exact Or.inl rfl | exact Or.inr rfl) (pd_lst (pds_cons (pd_callPV (E := C8.E0) (pe_call (ok__law_pick E B) (hr.mono (by decide)) rfl E.g__law_pick E.F__law_pick.kp (b__law_pick E) .nil C8.pass0 (pa_cons (pv' 1) (pvs_cons (pv_var (pv' 9)) pvs_nil)))) pds_nil))))) pssd_nil)) (pssd_one (psd_append rfl (pv' 12) (pd_var (pv' 13)))))))) (pssd_cons (psd_if (ps_if (PW.pt (pwd_and (ptd_cmp (m := true) (dd_ne hr) (pv_var (pv' 12)) (pv_of (pd_lst pds_nil)) (nomark _)) (pwd_and1 (ptd_cmp (m := true) (dd_eq hr) (pv_of (pd_callP (E := C8.E0) (pe_call (ok__law_draw E B) (hr.mono (by decide)) rfl E.g__law_draw E.F__law_draw.kp (b__law_draw E) .nil C8.pass0 (pa_cons (pv' 1) (pds_cons (pc_int pe_int) pds_nil))))) (pv_of (pc_int pe_int)) (nomark _))))) (pssd_one (psd_append rfl (pv' 12) (pd_callTy cc_list rfl E.m_list (by decide +kernel) (pvs_cons (pv_of (pd_callPV (E := C8.E0) (pe_call (ok__law_pick E B) (hr.mono (by decide)) rfl E.g__law_pick E.F__law_pick.kp (b__law_pick E) .nil C8.pass0 (pa_cons (pv' 1) (pvs_cons (pv_var (pv' 12)) pvs_nil))))) pvs_nil)))) pssd_nil)) (pssd_cons (psd_par (ps_par (i := 14) (j := 15) rfl sc_law.nd rfl rfl (by decide) rfl rfl (pds_cons (pd_callB (cc_repr hr hgu) rfl E.m_repr (by decide +kernel) (pvs_cons (pv_var (pv' 12)) pvs_nil)) (pds_cons (pd_callB (cc_sorted hr) rfl E.m_sorted (by decide +kernel) (pvs_cons (pv_var (pv' 9)) pvs_nil)) pds_nil)) rfl)) (pssd_cons (psd_frz (i := 12) (psd_setLc (m := true) (m2 := true) (ps_setLc (i := 4) (own := [("_law_lot", 13)]) rfl sc_law.nd rfl rfl (sw_true rfl rfl rfl rfl)  (pid_list (px_f (pv_of (pd_call0 (E := C8.E0) (pe_call (ok__law_all_lots E B) (hr.mono (by decide)) rfl E.g__law_all_lots E.F__law_all_lots.kp (b__law_all_lots E) .nil C8.pass0 (pds_cons (pd_var (pv' 15)) pds_nil))))) rfl) (blkOk_by (N := N_law) (sc := defScope Hd.s_law) (by decide +kernel)) (fun _ _ _ _ _ => (pgd_name (pg_name (i := 13) sc_law.nd rfl (by first | exact Or.inl rfl | exact Or.inr rfl)) (by decide))) (fun _ _ _ _ _ => (ptsd_one (ptd_val (m := true) (pd_call0 (E := C8.E0) (pe_call (ok__law_hits E B) (hr.mono (by decide)) rfl E.g__law_hits E.F__law_hits.kp (b__law_hits E) .nil C8.pass0 (pds_cons (pd_var (pv' 13)) (pds_cons (pd_var (pv' 12)) pds_nil))))))) (fun _ _ _ _ _ => (pd_var (pv' 13)))))) (pssd_cons (psd_setN (ps_set (i := 5) sc_law.nd rfl (by first | exact Or.inl rfl | exact Or.inr rfl) (pd_call0 (E := C8.E0) (pe_call (ok__law_least E B) (hr.mono (by decide)) rfl E.g__law_least E.F__law_least.kp (b__law_least E) .nil C8.pass0 (pds_cons (pd_var (pv' 4)) pds_nil))))) (pssd_cons (psd_if (ps_if (ptd_cmp (m := true) dd_isn (pv_of (pd_call0 (E := C8.E0) (pe_call (ok_is_family E B) (hr.mono (by decide)) rfl E.g_is_family E.F_is_family.kp (b_is_family E) .nil C8.pass0 (pds_cons (pd_var (pv' 12)) pds_nil)))) (pv_of (pc_bool pe_bl)) (nomark _)) (pssd_one (psd_ret (ps_ret (pc_bool pe_bl)))) pssd_nil)) (pssd_cons (psd_for (m := true) (own := [6]) (ps_for PassesOwn.never rfl (pid_list (px_t (pd_callP (E := C8.E0) (pe_call (ok__law_bent E B) (hr.mono (by decide)) rfl E.g__law_bent E.F__law_bent.kp (b__law_bent E) .nil C8.pass0 (pa_cons (pv' 1) (pds_cons (pd_var (pv' 12)) (pds_cons (pd_var (pv' 9)) pds_nil)))))) rfl) (pgd_name (pg_name (i := 6) sc_law.nd rfl (by first | exact Or.inl rfl | exact Or.inr rfl)) (by decide)) (pssd_one (psd_if (ps_if (ptd_not (ptd_val (m := true) (pd_call0 (E := C8.E0) (pe_call (ok__law_same E B 12) (hr.mono (by decide)) rfl E.g__law_same E.F__law_same.kp (b__law_same E) .nil C8.pass0 (pds_cons (pd_call0 (E := C8.E0) (pe_call (ok_is_family E B) (hr.mono (by decide)) rfl E.g_is_family E.F_is_family.kp (b_is_family E) .nil C8.pass0 (pds_cons (pd_var (pv' 6)) pds_nil))) (pds_cons (pd_call0 (E := C8.E0) (pe_call (ok__law_is_family E B) (hr.mono (by decide)) rfl E.g__law_is_family E.F__law_is_family.kp (b__law_is_family E) .nil C8.pass0 (pds_cons (pd_var (pv' 6)) pds_nil))) pds_nil)))))) (pssd_one (psd_ret (ps_ret (pc_bool pe_bl)))) pssd_nil))))) (pssd_cons (psd_if (ps_if (ptd_not (ptd_val (m := true) (pd_call0 (E := C8.E0) (pe_call (ok__law_same E B 12) (hr.mono (by decide)) rfl E.g__law_same E.F__law_same.kp (b__law_same E) .nil C8.pass0 (pds_cons (pd_callKi (E := C8.E0) (len_cons len_nil) (pe_callKm (ok_thinned_family E B) (hr.mono (by decide)) rfl E.g_thinned_family E.F_thinned_family.kp (bk_thinned_family E) C8.pass0 (pkd_cons (pd_var (pv' 12)) pkd_nil))) (pds_cons (pd_call0 (E := C8.E0) (pe_call (ok__law_least E B) (hr.mono (by decide)) rfl E.g__law_least E.F__law_least.kp (b__law_least E) .nil C8.pass0 (pds_cons (pd_var (pv' 12)) pds_nil))) pds_nil)))))) (pssd_one (psd_ret (ps_ret (pc_bool pe_bl)))) pssd_nil)) (psd_told (by decide) rfl (ps_set (i := 7) sc_law.nd rfl (by first | exact Or.inl rfl | exact Or.inr rfl) (pf_call (E := C8.E0) (pe_call (ok_least_hitting E B) (hr.mono (by decide)) rfl E.g_least_hitting E.F_least_hitting.kp (b_least_hitting E) .nil C8.pass0 (pds_cons (pl_of (pd_var (pv' 12))) pds_nil)))) (ps_if (ptd_not (ptd_val (m := true) (pd_call0 (E := C8.E0) (pe_call (ok__law_same E B 12) (hr.mono (by decide)) rfl E.g__law_same E.F__law_same.kp (b__law_same E) .nil C8.pass0 (pds_cons (pd_var (pv' 7)) (pds_cons (pd_var (pv' 5)) pds_nil)))))) (pss_one (ps_ret pe_bl)) pss_nil) (ps_for PassesOwn.never rfl (pi_list (pv' 7)) (pg_name (i := 8) sc_law.nd rfl (by first | exact Or.inl rfl | exact Or.inr rfl)) (pss_one (ps_appendR (pv' 8) pe_str))) (pssd_cons (psd_if (ps_if (ptd_not (ptd_val (m := true) (pd_call0 (E := C8.E0) (pe_call (ok__law_same E B 12) (hr.mono (by decide)) rfl E.g__law_same E.F__law_same.kp (b__law_same E) .nil C8.pass0 (pds_cons (pd_callFKi (E := C8.E0) (len_cons len_nil) (pe_callKm (ok_least_hitting E B) (hr.mono (by decide)) rfl E.g_least_hitting E.F_least_hitting.kp (bk_least_hitting E) C8.pass0 (pkd_cons (pd_var (pv' 12)) pkd_nil))) (pds_cons (pd_var (pv' 5)) pds_nil)))))) (pssd_one (psd_ret (ps_ret (pc_bool pe_bl)))) pssd_nil)) (pssd_cons (psd_if (ps_if (PW.pt (pwd_and (ptd_cmp (m := true) (dd_lt hr) (pv_var (pv' 2)) (pv_of (pc_int pe_int)) (nomark _)) (pwd_and1 (ptd_not (ptd_val (m := true) (pd_call0 (E := C8.E0) (pe_call (ok__law_same E B 12) (hr.mono (by decide)) rfl E.g__law_same E.F__law_same.kp (b__law_same E) .nil C8.pass0 (pds_cons (pd_callKi (E := C8.E0) (len_cons len_nil) (pe_callKm (ok_least_hitting_plain E B) (hr.mono (by decide)) rfl E.g_least_hitting_plain E.F_least_hitting_plain.kp (bk_least_hitting_plain E) C8.pass0 (pkd_cons (pd_var (pv' 12)) pkd_nil))) (pds_cons (pd_var (pv' 5)) pds_nil))))))))) (pssd_one (psd_ret (ps_ret (pc_bool pe_bl)))) pssd_nil)) (pssd_cons (psd_if (ps_if (PW.pt (pwd_and (ptd_cmp (m := true) (dd_lt hr) (pv_of (pd_callB cc_len rfl E.m_len (by decide +kernel) (pvs_cons (pv_var (pv' 5)) pvs_nil))) (pv_of (pc_int pe_int)) (nomark _)) (pwd_and1 (ptd_not (ptd_val (m := true) (pd_call0 (E := C8.E0) (pe_call (ok__law_same E B 12) (hr.mono (by decide)) rfl E.g__law_same E.F__law_same.kp (b__law_same E) .nil C8.pass0 (pds_cons (pd_callF (E := C8.E0) (pe_call (ok_least_hitting E B) (hr.mono (by decide)) rfl E.g_least_hitting E.F_least_hitting.kp (b_least_hitting E) .nil C8.pass0 (pds_cons (pl_of (pd_var (pv' 5))) pds_nil))) (pds_cons (pd_call0 (E := C8.E0) (pe_call (ok__law_least E B) (hr.mono (by decide)) rfl E.g__law_least E.F__law_least.kp (b__law_least E) .nil C8.pass0 (pds_cons (pd_var (pv' 12)) pds_nil))) pds_nil))))))))) (pssd_one (psd_ret (ps_ret (pc_bool pe_bl)))) pssd_nil)) (pssd_cons (psd_for (m := true) (own := [3]) (ps_for PassesOwn.never rfl (pid_range1 rfl E.m_range (pds_cons (pc_int pe_int) pds_nil)) (pgd_name (pg_name (i := 3) sc_law.nd rfl (by first | exact Or.inl rfl | exact Or.inr rfl)) (by decide)) (pssd_cons (psd_setN (ps_set (i := 13) sc_law.nd rfl (by first | exact Or.inl rfl | exact Or.inr rfl) (pd_callB (cc_sorted hr) rfl E.m_sorted (by decide +kernel) (pvs_cons (pv_of (pd_lc (m := true) rfl (pe_lc (own := [("_law_x", 16)]) rfl sc_law.nd (pid_list (px_f (pv_var (pv' 9))) rfl) (blkOk_by (N := N_law) (sc := defScope Hd.s_law) (by decide +kernel)) (fun _ _ _ _ _ => (pgd_name (pg_name (i := 16) sc_law.nd rfl (by first | exact Or.inl rfl | exact Or.inr rfl)) (by decide))) (fun _ _ _ _ _ => (ptsd_one (ptd_cmp (m := true) (dd_eq hr) (pv_of (pd_callP (E := C8.E0) (pe_call (ok__law_draw E B) (hr.mono (by decide)) rfl E.g__law_draw E.F__law_draw.kp (b__law_draw E) .nil C8.pass0 (pa_cons (pv' 1) (pds_cons (pc_int pe_int) pds_nil))))) (pv_of (pc_int pe_int)) (nomark _)))) (fun _ _ _ _ _ => (pd_var (pv' 16)))))) pvs_nil)))) (pssd_cons (psd_if (ps_if (ptd_cmp (m := true) (dd_eq hr) (pv_var (pv' 3)) (pv_of (pc_int pe_int)) (nomark _)) (pssd_one (psd_setN (ps_set (i := 13) sc_law.nd rfl (by first | exact Or.inl rfl | exact Or.inr rfl) (pd_callB (cc_sorted hr) rfl E.m_sorted (by decide +kernel) (pvs_cons (pv_of (pd_op dd_add (pv_of (pd_lst (pds_cons (pc_str pe_str) pds_nil))) (pv_of (pd_sl rfl (pv_var (pv' 13)) (pod_at (m := true) (pv_of (pc_int pe_int))) pod_no)))) pvs_nil))))) pssd_nil)) (pssd_one (psd_if (ps_if (ptd_not (ptd_val (m := true) (pd_call0 (E := C8.E0) (pe_call (ok__law_same E B 12) (hr.mono (by decide)) rfl E.g__law_same E.F__law_same.kp (b__law_same E) .nil C8.pass0 (pds_cons (pd_call0 (E := C8.E0) (pe_call (ok_hits E B) (hr.mono (by decide)) rfl E.g_hits E.F_hits.kp (b_hits E) .nil C8.pass0 (pds_cons (pd_var (pv' 13)) (pds_cons (pd_var (pv' 12)) pds_nil)))) (pds_cons (pd_call0 (E := C8.E0) (pe_call (ok__law_hits E B) (hr.mono (by decide)) rfl E.g__law_hits E.F__law_hits.kp (b__law_hits E) .nil C8.pass0 (pds_cons (pd_var (pv' 13)) (pds_cons (pd_var (pv' 12)) pds_nil)))) pds_nil)))))) (pssd_one (psd_ret (ps_ret (pc_bool pe_bl)))) pssd_nil))))))) (pssd_cons (psd_if (ps_if (ptd_not (ptd_val (m := true) (pd_call0 (E := C8.E0) (pe_call (ok__law_same E B 12) (hr.mono (by decide)) rfl E.g__law_same E.F__law_same.kp (b__law_same E) .nil C8.pass0 (pds_cons (pd_callKs (E := C8.E0) (len_cons (len_cons len_nil)) (pe_callKm (ok_hits E B) (hr.mono (by decide)) rfl E.g_hits E.F_hits.kp (bk_hits E) C8.pass0 (pkd_cons (pd_var (pv' 12)) (pkd_cons (pd_lst pds_nil) pkd_nil)))) (pds_cons (pd_cmp (dd_eq hr) (pv_var (pv' 12)) (pv_of (pd_lst pds_nil)) (nomark _)) pds_nil)))))) (pssd_one (psd_ret (ps_ret (pc_bool pe_bl)))) pssd_nil)) (pssd_cons (psd_if (ps_if (PW.pt (pwd_and (ptd_cmp (m := true) (dd_eq hr) (pv_of (pd_callP (E := C8.E0) (pe_call (ok__law_draw E B) (hr.mono (by decide)) rfl E.g__law_draw E.F__law_draw.kp (b__law_draw E) .nil C8.pass0 (pa_cons (pv' 1) (pds_cons (pc_int pe_int) pds_nil))))) (pv_of (pc_int pe_int)) (nomark _)) (pwd_and1 (ptd_not (ptd_val (m := true) (pd_callP (E := C8.E0) (pe_call (ok__law_great E B) (hr.mono (by decide)) rfl E.g__law_great E.F__law_great.kp (b__law_great E) .nil C8.pass0 (pa_cons (pv' 1) (pds_cons (pd_var (pv' 12)) pds_nil))))))))) (pssd_one (psd_ret (ps_ret (pc_bool pe_bl)))) pssd_nil)) (pssd_one (psd_ret (ps_ret (pd_cmp (dd_eq hr) (pv_of (pd_callB (cc_repr hr hgu) rfl E.m_repr (by decide +kernel) (pvs_cons (pv_var (pv' 12)) pvs_nil))) (pv_var (pv' 14)) (nomark _)))))))))))))))))))))))
end W62

/-! part W62c -/
set_option Elab.async false
set_option linter.all false
set_option maxRecDepth 100000
set_option maxHeartbeats 4000000
namespace W62
open PySem PySem.Spec PyProof.Rows L2 PD
/-- what the plain law says: the pot that is made, and the rest's answer -/
def potOf (ns : List Int) : Option Dt := resD (g__law_pot (.vw (.list (ns.map .int)) :: .sh (.int 0) :: List.replicate (N__law_pot.length - 2) .un) (0, 0))
def en0 : En := .un :: .pt :: List.replicate (N_law.length - 2) .un
def LawPlain (ns : List Int) : Prop := ∃ P0 ρ' P', potOf ns = some (.list [.int P0.1, .int P0.2]) ∧ g_law en0 P0 = some (.rt (.bool true), ρ', P')
theorem law_run {w : World} {K : PySem.W.Frag} {mg : Str → Option Value} {base : Heap} (E : G K mg) (B : GB E base) {s₁ : Shared} {H : Hp} {a : Addr} {ns : List Int} (e0 : Env0 P w K mg base callerA [] s₁ H) (ht : Tabs E.T H) (hS : SqL K H a (ns.map V.int)) (hp : LawPlain ns)
    (hb : BindsTo s₁ E.d_law ⟨[.ref a], []⟩ ([("_law_script" : Str)].zip [.ref a])) : codeAny (model P w) callerA (.call (.ref E.f_law) ⟨[.ref a], []⟩) (CR C8.CX0 [] P w H s₁ (fun v _ => v = .bl true) fun _ _ _ => False) s₁ := by
  refine runAt (k := 14) E.F_law sc_law ⟨rfl, by decide, by decide⟩ e0 hb (.cons (show RelV (V.ref a) (.ref a) from rfl) .nil) rfl fun cdv hr => ?_
  obtain ⟨P0, ρ', P', q1, q2⟩ := hp
  refine ⟨_, PSs.nox (pss_cons (ps_set (i := 1) sc_law.nd rfl (by first | exact Or.inl rfl | exact Or.inr rfl) (pe_call (E := C8.E0) (ok__law_pot E B) (hr.mono (by decide)) rfl E.g__law_pot E.F__law_pot.kp (b__law_pot E) .nil C8.pass0 (pa_cons (pv' 0) (pa_cons (pe_int (i := 0)) pa_nil))))
    (pss_any fun C : { C : Fx // C.K = K ∧ C.T = E.T } => law_rest E B (cxOf C8.CX0 P w K mg base N_law "law" (defScope Hd.s_law) E.f_law cdv callerA [] s₁ H fun _ _ _ => False) cdv callerA [] s₁ H _ hr rfl C.1 C.2)), ?_⟩
  have key : ∀ (Q : VK) (E' : XK), (∀ v H', Ext (fun _ => False) H H' → Tabs E.T H' → Rep K (Live H) H' (.list [.int P0.1, .int P0.2]) v → Q v H') → spN K E.T N__law_pot.length g__law_pot [.ref a, .int 0] H Q E' :=
    fun Q E' h => ⟨a, ns, 0, .list [.int P0.1, .int P0.2], rfl, ht, hS, q1, (fun z => by cases z), h⟩
  refine ⟨.ref a, rfl, key _ C8.E0 fun v H1 x1 t1 r1 => ?_⟩
  obtain ⟨p, xs, rfl, ⟨hp1, nl⟩, x, t, rfl, rx, y, t', rfl, ry, rt⟩ := r1
  cases (show x = .int P0.1 from rx)
  cases (show y = .int P0.2 from ry)
  cases (show t' = [] from rt)
  refine ⟨⟨⟨K, E.T, fun b => b = p, some p, H1⟩, rfl, rfl⟩, fun b => b = p, en0, P0, _, ρ', P', ?_, q2, fun U' σ' v H' l R r => r⟩
  refine ⟨fun _ h => h, fun b h => ?_, fun q h => ?_, fun b h => ?_, .refl, t1, fun q h => ?_, rfl, fun j => ?_, fun i j es fs h1 h2 h3 => ?_⟩
  · have h : b = p := h
    subst h; exact ⟨_, hp1, fun _ z => by cases z⟩
  · cases h; exact rfl
  · have h : b = p := h
    subst h; exact ⟨_, hp1, fun _ z => by cases z⟩
  · cases h; exact hp1
  · match j with
    | 0 => trivial
    | 1 => exact ⟨p, rfl, rfl⟩
    | j + 2 =>
      have e1 : en0[j + 2]? = (List.replicate (N_law.length - 2) DV.un)[j]? := rfl
      rw [e1, List.getElem?_replicate]
      split <;> trivial
  · match i with
    | 0 => cases h1
    | 1 => cases h1
    | i + 2 =>
      have h1 : (List.replicate (N_law.length - 2) DV.un)[i]? = some (.ow es) := h1
      rw [List.getElem?_replicate] at h1
      split at h1 <;> cases h1
end W62

/-! part W62h -/
set_option Elab.async false
set_option linter.all false
set_option maxRecDepth 100000
set_option maxHeartbeats 4000000
/-! the head's facts for the walk; printed by prh.py, own work -/
namespace W62
open PySem PySem.Spec PyProof.Rows L2 PD
theorem code_of {K : PySem.W.Frag} {x qual : Str} {params : Arguments} {body : List Stmt} {scope : Scope} {dvs : List V} {kws : List (Str × V)} {p : He.Defn} {fd : FuncData} (F : FunD K x qual params body scope dvs kws (He.fAd K p) fd) : fd.code = .ref (He.codeOf K p) := by
  obtain ⟨oc, od, dV, kV, doc, pm, an, cdv, ct, osl, rfl, lk, hcd, _, _⟩ := F.ex
  obtain ⟨c, rfl⟩ := He.codeIn_ref hcd
  rw [He.codeOf_eq lk (show _ = Value.ref c from rfl)]
theorem cT_ne {K : PySem.W.Frag} {a b : Addr} (h : (a != b) = true) : a ≠ b := by simpa using h
theorem ba3 {a b : Bool} (h : (a && b) = true) : a = true ∧ b = true := by simpa using h
theorem ex_split {K : PySem.W.Frag} (h : Hd.ex K = true) : (He.cT K ("by_size", none)).2 ≠ (He.cT K ("is_rising_lot", none)).2 ∧ (He.cT K ("by_size", none)).2 ≠ (He.cT K ("lot_within", none)).2 ∧ (He.cT K ("by_size", none)).2 ≠ (He.cT K ("shares_name", none)).2 ∧ (He.cT K ("by_size", none)).2 ≠ (He.cT K ("least_of_lots", none)).2 ∧ (He.cT K ("by_size", none)).2 ≠ (He.cT K ("is_family", none)).2 ∧ (He.cT K ("by_size", none)).2 ≠ (He.cT K ("hits", none)).2 := by
  unfold Hd.ex at h
  simp only [Bool.and_eq_true, bne_iff_ne] at h
  obtain ⟨⟨⟨⟨⟨h0, h1⟩, h2⟩, h3⟩, h4⟩, h5⟩ := h
  exact ⟨h0, h1, h2, h3, h4, h5⟩
def Cs (K : PySem.W.Frag) : List (Addr × Addr) := Hd.tf.map (He.cT K)
theorem facts {w : World} {K : PySem.W.Frag} {h : Heap} {mg : Str → Option Value} (X : K.In h) (Gn : h.Ns mainGlobals mg) (c : He.SaysX Hd.fa Hd.fn [] Hd.tf Hd.ex w h K) : ∃ E : G K mg, (E.c_is_rising_lot, E.P_is_rising_lot) = He.cT K ("is_rising_lot", none) ∧ (E.c_lot_within, E.P_lot_within) = He.cT K ("lot_within", none) ∧ (E.c_shares_name, E.P_shares_name) = He.cT K ("shares_name", none) ∧ (E.c_by_size, E.P_by_size) = He.cT K ("by_size", none) ∧ (E.c_least_of_lots, E.P_least_of_lots) = He.cT K ("least_of_lots", none) ∧ (E.c_is_family, E.P_is_family) = He.cT K ("is_family", none) ∧ (E.c_hits, E.P_hits) = He.cT K ("hits", none) := by
  obtain ⟨d_is_name, F_is_name⟩ := c.t.d.def_ 0 (d := Hd.d_is_name) rfl
  obtain ⟨d_is_rising_lot, F_is_rising_lot⟩ := c.t.d.def_ 1 (d := Hd.d_is_rising_lot) rfl
  obtain ⟨d_lot_within, F_lot_within⟩ := c.t.d.def_ 2 (d := Hd.d_lot_within) rfl
  obtain ⟨d_shares_name, F_shares_name⟩ := c.t.d.def_ 3 (d := Hd.d_shares_name) rfl
  obtain ⟨d_by_size, F_by_size⟩ := c.t.d.def_ 4 (d := Hd.d_by_size) rfl
  obtain ⟨d_all_lots, F_all_lots⟩ := c.t.d.def_ 5 (d := Hd.d_all_lots) rfl
  obtain ⟨d_least_of_lots, F_least_of_lots⟩ := c.t.d.def_ 6 (d := Hd.d_least_of_lots) rfl
  obtain ⟨d_names_of_family, F_names_of_family⟩ := c.t.d.def_ 7 (d := Hd.d_names_of_family) rfl
  obtain ⟨d_is_family, F_is_family⟩ := c.t.d.def_ 8 (d := Hd.d_is_family) rfl
  obtain ⟨d_hits, F_hits⟩ := c.t.d.def_ 9 (d := Hd.d_hits) rfl
  obtain ⟨d_thinned_family, F_thinned_family⟩ := c.t.d.def_ 10 (d := Hd.d_thinned_family) rfl
  obtain ⟨d_least_hitting_plain, F_least_hitting_plain⟩ := c.t.d.def_ 11 (d := Hd.d_least_hitting_plain) rfl
  obtain ⟨d_grown, F_grown⟩ := c.t.d.def_ 12 (d := Hd.d_grown) rfl
  obtain ⟨d_least_hitting, F_least_hitting⟩ := c.t.d.def_ 13 (d := Hd.d_least_hitting) rfl
  obtain ⟨d__law_pot, F__law_pot⟩ := c.t.d.def_ 14 (d := Hd.d__law_pot) rfl
  obtain ⟨d__law_draw, F__law_draw⟩ := c.t.d.def_ 15 (d := Hd.d__law_draw) rfl
  obtain ⟨d__law_pick, F__law_pick⟩ := c.t.d.def_ 16 (d := Hd.d__law_pick) rfl
  obtain ⟨d__law_same, F__law_same⟩ := c.t.d.def_ 17 (d := Hd.d__law_same) rfl
  obtain ⟨d__law_names, F__law_names⟩ := c.t.d.def_ 18 (d := Hd.d__law_names) rfl
  obtain ⟨d__law_inside, F__law_inside⟩ := c.t.d.def_ 19 (d := Hd.d__law_inside) rfl
  obtain ⟨d__law_all_lots, F__law_all_lots⟩ := c.t.d.def_ 20 (d := Hd.d__law_all_lots) rfl
  obtain ⟨d__law_least, F__law_least⟩ := c.t.d.def_ 21 (d := Hd.d__law_least) rfl
  obtain ⟨d__law_hits, F__law_hits⟩ := c.t.d.def_ 22 (d := Hd.d__law_hits) rfl
  obtain ⟨d__law_is_name, F__law_is_name⟩ := c.t.d.def_ 23 (d := Hd.d__law_is_name) rfl
  obtain ⟨d__law_is_family, F__law_is_family⟩ := c.t.d.def_ 24 (d := Hd.d__law_is_family) rfl
  obtain ⟨d__law_bent, F__law_bent⟩ := c.t.d.def_ 25 (d := Hd.d__law_bent) rfl
  obtain ⟨d__law_great, F__law_great⟩ := c.t.d.def_ 26 (d := Hd.d__law_great) rfl
  obtain ⟨d_law, F_law⟩ := c.t.d.def_ 27 (d := Hd.d_law) rfl
  obtain ⟨n_by_size_is_rising_lot, n_by_size_lot_within, n_by_size_shares_name, n_by_size_least_of_lots, n_by_size_is_family, n_by_size_hits⟩ := ex_split c.more
  exact ⟨⟨He.ga K "is_name",
    d_is_name,
    F_is_name,
    He.glo_ok X Gn (c.t.d.fact 0 (f := .glo "is_name") rfl),
    He.ga K "is_rising_lot",
    d_is_rising_lot,
    F_is_rising_lot,
    He.glo_ok X Gn (c.t.d.fact 1 (f := .glo "is_rising_lot") rfl),
    He.ga K "lot_within",
    d_lot_within,
    F_lot_within,
    He.glo_ok X Gn (c.t.d.fact 2 (f := .glo "lot_within") rfl),
    He.ga K "shares_name",
    d_shares_name,
    F_shares_name,
    He.glo_ok X Gn (c.t.d.fact 3 (f := .glo "shares_name") rfl),
    He.ga K "by_size",
    d_by_size,
    F_by_size,
    He.glo_ok X Gn (c.t.d.fact 4 (f := .glo "by_size") rfl),
    He.ga K "all_lots",
    d_all_lots,
    F_all_lots,
    He.glo_ok X Gn (c.t.d.fact 5 (f := .glo "all_lots") rfl),
    He.ga K "least_of_lots",
    d_least_of_lots,
    F_least_of_lots,
    He.glo_ok X Gn (c.t.d.fact 6 (f := .glo "least_of_lots") rfl),
    He.ga K "names_of_family",
    d_names_of_family,
    F_names_of_family,
    He.glo_ok X Gn (c.t.d.fact 7 (f := .glo "names_of_family") rfl),
    He.ga K "is_family",
    d_is_family,
    F_is_family,
    He.glo_ok X Gn (c.t.d.fact 8 (f := .glo "is_family") rfl),
    He.ga K "hits",
    d_hits,
    F_hits,
    He.glo_ok X Gn (c.t.d.fact 9 (f := .glo "hits") rfl),
    He.ga K "thinned_family",
    d_thinned_family,
    F_thinned_family,
    He.glo_ok X Gn (c.t.d.fact 10 (f := .glo "thinned_family") rfl),
    He.ga K "least_hitting_plain",
    d_least_hitting_plain,
    F_least_hitting_plain,
    He.glo_ok X Gn (c.t.d.fact 11 (f := .glo "least_hitting_plain") rfl),
    He.ga K "grown",
    d_grown,
    F_grown,
    He.glo_ok X Gn (c.t.d.fact 12 (f := .glo "grown") rfl),
    He.ga K "least_hitting",
    d_least_hitting,
    F_least_hitting,
    He.glo_ok X Gn (c.t.d.fact 13 (f := .glo "least_hitting") rfl),
    He.ga K "_law_pot",
    d__law_pot,
    F__law_pot,
    He.glo_ok X Gn (c.t.d.fact 14 (f := .glo "_law_pot") rfl),
    He.ga K "_law_draw",
    d__law_draw,
    F__law_draw,
    He.glo_ok X Gn (c.t.d.fact 15 (f := .glo "_law_draw") rfl),
    He.ga K "_law_pick",
    d__law_pick,
    F__law_pick,
    He.glo_ok X Gn (c.t.d.fact 16 (f := .glo "_law_pick") rfl),
    He.ga K "_law_same",
    d__law_same,
    F__law_same,
    He.glo_ok X Gn (c.t.d.fact 17 (f := .glo "_law_same") rfl),
    He.ga K "_law_names",
    d__law_names,
    F__law_names,
    He.glo_ok X Gn (c.t.d.fact 18 (f := .glo "_law_names") rfl),
    He.ga K "_law_inside",
    d__law_inside,
    F__law_inside,
    He.glo_ok X Gn (c.t.d.fact 19 (f := .glo "_law_inside") rfl),
    He.ga K "_law_all_lots",
    d__law_all_lots,
    F__law_all_lots,
    He.glo_ok X Gn (c.t.d.fact 20 (f := .glo "_law_all_lots") rfl),
    He.ga K "_law_least",
    d__law_least,
    F__law_least,
    He.glo_ok X Gn (c.t.d.fact 21 (f := .glo "_law_least") rfl),
    He.ga K "_law_hits",
    d__law_hits,
    F__law_hits,
    He.glo_ok X Gn (c.t.d.fact 22 (f := .glo "_law_hits") rfl),
    He.ga K "_law_is_name",
    d__law_is_name,
    F__law_is_name,
    He.glo_ok X Gn (c.t.d.fact 23 (f := .glo "_law_is_name") rfl),
    He.ga K "_law_is_family",
    d__law_is_family,
    F__law_is_family,
    He.glo_ok X Gn (c.t.d.fact 24 (f := .glo "_law_is_family") rfl),
    He.ga K "_law_bent",
    d__law_bent,
    F__law_bent,
    He.glo_ok X Gn (c.t.d.fact 25 (f := .glo "_law_bent") rfl),
    He.ga K "_law_great",
    d__law_great,
    F__law_great,
    He.glo_ok X Gn (c.t.d.fact 26 (f := .glo "_law_great") rfl),
    He.ga K "law",
    d_law,
    F_law,
    He.glo_ok X Gn (c.t.d.fact 27 (f := .glo "law") rfl),
    (He.cT K ("is_rising_lot", none)).1,
    (He.cT K ("is_rising_lot", none)).2,
    code_of (p := ("is_rising_lot", none)) F_is_rising_lot,
    (He.cT K ("lot_within", none)).1,
    (He.cT K ("lot_within", none)).2,
    code_of (p := ("lot_within", none)) F_lot_within,
    (He.cT K ("shares_name", none)).1,
    (He.cT K ("shares_name", none)).2,
    code_of (p := ("shares_name", none)) F_shares_name,
    (He.cT K ("by_size", none)).1,
    (He.cT K ("by_size", none)).2,
    code_of (p := ("by_size", none)) F_by_size,
    (He.cT K ("least_of_lots", none)).1,
    (He.cT K ("least_of_lots", none)).2,
    code_of (p := ("least_of_lots", none)) F_least_of_lots,
    (He.cT K ("is_family", none)).1,
    (He.cT K ("is_family", none)).2,
    code_of (p := ("is_family", none)) F_is_family,
    (He.cT K ("hits", none)).1,
    (He.cT K ("hits", none)).2,
    code_of (p := ("hits", none)) F_hits,
    n_by_size_is_rising_lot,
    n_by_size_lot_within,
    n_by_size_shares_name,
    n_by_size_least_of_lots,
    n_by_size_is_family,
    n_by_size_hits,
    He.free_ok X Gn (c.t.d.fact 28 (f := .free "abs") rfl),
    He.free_ok X Gn (c.t.d.fact 29 (f := .free "all") rfl),
    He.free_ok X Gn (c.t.d.fact 30 (f := .free "any") rfl),
    He.free_ok X Gn (c.t.d.fact 31 (f := .free "bool") rfl),
    He.free_ok X Gn (c.t.d.fact 32 (f := .free "divmod") rfl),
    He.free_ok X Gn (c.t.d.fact 33 (f := .free "int") rfl),
    He.free_ok X Gn (c.t.d.fact 34 (f := .free "isinstance") rfl),
    He.free_ok X Gn (c.t.d.fact 35 (f := .free "len") rfl),
    He.free_ok X Gn (c.t.d.fact 36 (f := .free "list") rfl),
    He.free_ok X Gn (c.t.d.fact 37 (f := .free "max") rfl),
    He.free_ok X Gn (c.t.d.fact 38 (f := .free "range") rfl),
    He.free_ok X Gn (c.t.d.fact 39 (f := .free "repr") rfl),
    He.free_ok X Gn (c.t.d.fact 40 (f := .free "sorted") rfl),
    He.free_ok X Gn (c.t.d.fact 41 (f := .free "str") rfl),
    He.free_ok X Gn (c.t.d.fact 42 (f := .free "tuple") rfl),
    He.free_ok X Gn (c.t.d.fact 43 (f := .free "zip") rfl),
    He.str_ok X Gn (c.t.d.fact 44 rfl),
    He.str_ok X Gn (c.t.d.fact 45 rfl),
    He.int_ok X Gn (c.t.d.fact 46 rfl),
    He.int_ok X Gn (c.t.d.fact 47 rfl),
    He.int_ok X Gn (c.t.d.fact 48 rfl)⟩, rfl, rfl, rfl, rfl, rfl, rfl, rfl⟩
theorem gb {K : PySem.W.Frag} {mg : Str → Option Value} {base : Heap} (E : G K mg) (hc : (E.c_is_rising_lot, E.P_is_rising_lot) = He.cT K ("is_rising_lot", none) ∧ (E.c_lot_within, E.P_lot_within) = He.cT K ("lot_within", none) ∧ (E.c_shares_name, E.P_shares_name) = He.cT K ("shares_name", none) ∧ (E.c_by_size, E.P_by_size) = He.cT K ("by_size", none) ∧ (E.c_least_of_lots, E.P_least_of_lots) = He.cT K ("least_of_lots", none) ∧ (E.c_is_family, E.P_is_family) = He.cT K ("is_family", none) ∧ (E.c_hits, E.P_hits) = He.cT K ("hits", none)) (hT : ∀ p ∈ Cs K, LamX.TabB base mg p.1 p.2) : GB E base := by
  obtain ⟨h0, h1, h2, h3, h4, h5, h6⟩ := hc
  refine ⟨?_, ?_, ?_, ?_, ?_, ?_, ?_⟩
  · have q := hT (He.cT K ("is_rising_lot", none)) (by simp [Cs, Hd.tf])
    rw [← h0] at q
    exact ⟨q.code, q.bm, q.gP⟩
  · have q := hT (He.cT K ("lot_within", none)) (by simp [Cs, Hd.tf])
    rw [← h1] at q
    exact ⟨q.code, q.bm, q.gP⟩
  · have q := hT (He.cT K ("shares_name", none)) (by simp [Cs, Hd.tf])
    rw [← h2] at q
    exact ⟨q.code, q.bm, q.gP⟩
  · have q := hT (He.cT K ("by_size", none)) (by simp [Cs, Hd.tf])
    rw [← h3] at q
    exact q
  · have q := hT (He.cT K ("least_of_lots", none)) (by simp [Cs, Hd.tf])
    rw [← h4] at q
    exact ⟨q.code, q.bm, q.gP⟩
  · have q := hT (He.cT K ("is_family", none)) (by simp [Cs, Hd.tf])
    rw [← h5] at q
    exact ⟨q.code, q.bm, q.gP⟩
  · have q := hT (He.cT K ("hits", none)) (by simp [Cs, Hd.tf])
    rw [← h6] at q
    exact ⟨q.code, q.bm, q.gP⟩
theorem tabs0 {K : PySem.W.Frag} {mg : Str → Option Value} {H : Hp} (E : G K mg) (hc : (E.c_is_rising_lot, E.P_is_rising_lot) = He.cT K ("is_rising_lot", none) ∧ (E.c_lot_within, E.P_lot_within) = He.cT K ("lot_within", none) ∧ (E.c_shares_name, E.P_shares_name) = He.cT K ("shares_name", none) ∧ (E.c_by_size, E.P_by_size) = He.cT K ("by_size", none) ∧ (E.c_least_of_lots, E.P_least_of_lots) = He.cT K ("least_of_lots", none) ∧ (E.c_is_family, E.P_is_family) = He.cT K ("is_family", none) ∧ (E.c_hits, E.P_hits) = He.cT K ("hits", none)) (hH : ∀ p ∈ Cs K, H p.2 = some (.tbl #[])) : Tabs E.T H := by
  obtain ⟨h0, h1, h2, h3, h4, h5, h6⟩ := hc
  intro p hp
  simp only [G.T, List.mem_cons, List.not_mem_nil, or_false] at hp
  rcases hp with rfl | rfl | rfl | rfl | rfl | rfl | rfl
  · have q := hH (He.cT K ("is_rising_lot", none)) (by simp [Cs, Hd.tf])
    rw [← h0] at q
    exact (show GxR.TabG H E.P_is_rising_lot from ⟨#[], q, trivial⟩)
  · have q := hH (He.cT K ("lot_within", none)) (by simp [Cs, Hd.tf])
    rw [← h1] at q
    exact (show GxR.TabG H E.P_lot_within from ⟨#[], q, trivial⟩)
  · have q := hH (He.cT K ("shares_name", none)) (by simp [Cs, Hd.tf])
    rw [← h2] at q
    exact (show GxR.TabG H E.P_shares_name from ⟨#[], q, trivial⟩)
  · have q := hH (He.cT K ("by_size", none)) (by simp [Cs, Hd.tf])
    rw [← h3] at q
    exact (show LamX.TabS H E.P_by_size _ from ⟨#[], q, trivial, fun pos cv z => by cases z⟩)
  · have q := hH (He.cT K ("least_of_lots", none)) (by simp [Cs, Hd.tf])
    rw [← h4] at q
    exact (show GxR.TabG H E.P_least_of_lots from ⟨#[], q, trivial⟩)
  · have q := hH (He.cT K ("is_family", none)) (by simp [Cs, Hd.tf])
    rw [← h5] at q
    exact (show GxR.TabG H E.P_is_family from ⟨#[], q, trivial⟩)
  · have q := hH (He.cT K ("hits", none)) (by simp [Cs, Hd.tf])
    rw [← h6] at q
    exact (show GxR.TabG H E.P_hits from ⟨#[], q, trivial⟩)
end W62

/-! part W62e -/
set_option Elab.async false
set_option linter.all false
set_option maxRecDepth 100000
set_option maxHeartbeats 4000000
open PySem PySem.W PySem.Calls PyProof.Rows
/-- the law from its plain form -/
theorem law_of_plain (plain : ∀ ns : List Int, ns.length ≤ 63 → (∀ z ∈ ns, Builtin.Int.intBits z ≤ 1048576) → W62.LawPlain ns) : PySem.Challenge.rw_allreadings_k62_whole_least_hitting_lots.Holds := by
  w_on; o_law
  refine HandSHeadRun.head_any (r := OpenLaw.row PySem.Challenge.rw_allreadings_k62_whole_least_hitting_lots) (q := view (OpenLaw.row PySem.Challenge.rw_allreadings_k62_whole_least_hitting_lots).prog [35]) (H := Hd.hk) (ob := Hd.ob) (M := 3000) (loose := Hd.loose) (d := HandSHeadRun.topDef (OpenLaw.row PySem.Challenge.rw_allreadings_k62_whole_least_hitting_lots).prog 35) (kwd := []) Hd.ob_eq
    (by kernel_rfl) (fun s => by kernel_rfl) Hd.run (by kernel_rfl) (by kernel_rfl) (by kernel_rfl) (by rfl) (by first | assumption | decide +kernel) (by decide +kernel) ⟨rfl, rfl, rfl, rfl, rfl, by decide +kernel⟩ ?hw ?hc
  case hw => w_witness2
  case hc =>
    refine Att.attach_callB (l := PySem.Challenge.rw_allreadings_k62_whole_least_hitting_lots) (n := 63) rfl (by kernel_rfl) fun w s₀ s₁ mg mb fa o pm cd doc a vs ns Gd Y ho hd hcd hmg0 hobj hints hlen hbits hg => ?_
    obtain ⟨K, KX, c⟩ := Y
    have hmg : mg ("law" : PySem.Str) = some (.ref fa) := by
      have e : (HandSHeadRun.topDef (OpenLaw.row PySem.Challenge.rw_allreadings_k62_whole_least_hitting_lots).prog 35).name = ("law" : PySem.Str) := by kernel_rfl
      rw [← e]
      exact hmg0
    obtain ⟨E, hE⟩ := W62.facts KX Gd.T.g c
    have ef := hmg.symm.trans E.g_law
    cases ef
    have mem : ∀ p ∈ W62.Cs K, ∃ d ∈ Hd.tf, He.cT K d = p := fun p hp => by simpa [W62.Cs] using List.mem_map.mp hp
    have b := L2.FunD.bindsA (ps := ["_law_script"]) E.F_law fun _ _ _ _ _ _ us hl => match us, hl with | [_], _ => rfl
    refine PD.law_callA (P := PySem.Challenge.pw_allreadings_k62_whole_least_hitting_lots) (w := w) (K := K) (CX := C8.CX0) (cs := W62.Cs K) KX Gd.T.g Gd.T.b Gd.T.builtins Gd.T.nolimit hg (fun p hp => ?_) (fun p hp => ?_) (fun p hp => ?_) Gd.T.bmain hobj hints (Nat.le_trans hlen (by decide)) (fun base H hK hn hT e0 hH hS => ?_) fun H e s' z => ?_
    · obtain ⟨d, hd, rfl⟩ := mem p hp; exact c.empty d hd
    · obtain ⟨d, hd, rfl⟩ := mem p hp; exact c.out d hd
    · obtain ⟨d, hd, rfl⟩ := mem p hp; exact PySem.W.codeHd_of_K KX (c.hd d hd)
    · exact W62.law_run E (W62.gb E hE hT) e0 (W62.tabs0 E hE hH) hS (plain ns hlen hbits) (b s₁ [.ref a] rfl)
    · exact z

/-! part M1 -/
set_option Elab.async false
set_option linter.all false
set_option maxRecDepth 100000
set_option maxHeartbeats 4000000
/-! what the functions of the walk give: rules to work them out; own work -/
namespace PD
open PySem PySem.Spec PyProof.Rows L2

section
variable {ρ ρ1 ρ2 : En} {P P1 P2 P3 : Pt} {a b c d : Dt} {ds es : List Dt} {f f1 f2 : Ev Dt} {g : Ev (List Dt)} {s s1 s2 : Sv} {k k1 : Bool} {m : Bool} {fl : Fl}
theorem eCons_eq {r : List Dt} (h1 : f ρ P = some (d, P1)) (h2 : g ρ P1 = some (r, P2)) : eCons f g ρ P = some (d :: r, P2) := by unfold eCons; rw [h1]; dsimp only; rw [h2]
theorem eNil_eq : eNil ρ P = some ([], P) := rfl
theorem eOp_eq {h : Dt → Dt → Option Dt} (h1 : f1 ρ P = some (a, P1)) (h2 : f2 ρ P1 = some (b, P2)) (h3 : h a b = some d) : eOp h f1 f2 ρ P = some (d, P2) := by unfold eOp; rw [h1]; dsimp only; rw [h2]; dsimp only; rw [h3]
theorem eFn_eq {h : List Dt → Option Dt} (h1 : g ρ P = some (ds, P1)) (h3 : h ds = some d) : eFn h g ρ P = some (d, P1) := by unfold eFn; rw [h1]; dsimp only; rw [h3]
theorem eFn1 {h : List Dt → Option Dt} (h1 : f ρ P = some (a, P1)) (h3 : h [a] = some d) : eFn h (eCons f eNil) ρ P = some (d, P1) := eFn_eq (eCons_eq h1 eNil_eq) h3
theorem eCall_eq {n : Nat} {h : List Dt → Option Dt} (h1 : g ρ P = some (ds, P1)) (hn : ds.length = n) (h3 : h ds = some d) : eCall n h g ρ P = some (d, P1) := by unfold eCall; rw [h1]; dsimp only; rw [if_pos hn, h3]
theorem eCall1 {h : List Dt → Option Dt} (h1 : f ρ P = some (a, P1)) (h3 : h [a] = some d) : eCall 1 h (eCons f eNil) ρ P = some (d, P1) := eCall_eq (eCons_eq h1 eNil_eq) rfl h3
theorem eCall2 {h : List Dt → Option Dt} (h1 : f1 ρ P = some (a, P1)) (h2 : f2 ρ P1 = some (b, P2)) (h3 : h [a, b] = some d) : eCall 2 h (eCons f1 (eCons f2 eNil)) ρ P = some (d, P2) := eCall_eq (eCons_eq h1 (eCons_eq h2 eNil_eq)) rfl h3
theorem eCallP1 {i : Nat} {h : Pt → List Dt → Option (Dt × Pt)} (hi : ρ[i]? = some .pt) (h1 : f ρ P = some (a, P1)) (h3 : h P1 [a] = some (d, P2)) : eCallP 1 i h (eCons f eNil) ρ P = some (d, P2) := by unfold eCallP; rw [hi]; dsimp only; rw [eCons_eq h1 eNil_eq]; exact h3
theorem eCallP2 {i : Nat} {h : Pt → List Dt → Option (Dt × Pt)} (hi : ρ[i]? = some .pt) (h1 : f1 ρ P = some (a, P1)) (h2 : f2 ρ P1 = some (b, P2)) (h3 : h P2 [a, b] = some (d, P3)) : eCallP 2 i h (eCons f1 (eCons f2 eNil)) ρ P = some (d, P3) := by unfold eCallP; rw [hi]; dsimp only; rw [eCons_eq h1 (eCons_eq h2 eNil_eq)]; exact h3
theorem eLst_eq (h1 : g ρ P = some (ds, P1)) (hl : ds.length ≤ sizeLine) : eLst g ρ P = some (.list ds, P1) := by unfold eLst; rw [h1]; exact if_pos hl
theorem eTup_eq (h1 : g ρ P = some (ds, P1)) (hl : ds.length ≤ sizeLine) : eTup g ρ P = some (.tuple ds, P1) := by unfold eTup; rw [h1]; exact if_pos hl
theorem asB_eq (h : f ρ P = some (.bool k, P1)) : asB f ρ P = some (k, P1) := by unfold asB; rw [h]
theorem eNot_eq {q : Ev Bool} (h : q ρ P = some (k, P1)) : eNot q ρ P = some (!k, P1) := by unfold eNot; rw [h]
theorem eAnd_eq {q r : Ev Bool} (h : q ρ P = some (k, P1)) (h2 : k = true → r ρ P1 = some (k1, P2)) (hf : k = false → k1 = false ∧ P2 = P1) : eAnd q r ρ P = some (k1, P2) := by
  unfold eAnd
  rw [h]
  cases k with
  | true => exact h2 rfl
  | false => obtain ⟨rfl, rfl⟩ := hf rfl; rfl
theorem eOr_eq {q r : Ev Bool} (h : q ρ P = some (k, P1)) (h2 : k = false → r ρ P1 = some (k1, P2)) (hf : k = true → k1 = true ∧ P2 = P1) : eOr q r ρ P = some (k1, P2) := by
  unfold eOr
  rw [h]
  cases k with
  | false => exact h2 rfl
  | true => obtain ⟨rfl, rfl⟩ := hf rfl; rfl
theorem eIf_t {q : Ev Bool} (h : q ρ P = some (true, P1)) (h2 : f1 ρ P1 = some (d, P2)) : eIf q f1 f2 ρ P = some (d, P2) := by unfold eIf; rw [h]; exact h2
theorem eIf_f {q : Ev Bool} (h : q ρ P = some (false, P1)) (h2 : f2 ρ P1 = some (d, P2)) : eIf q f1 f2 ρ P = some (d, P2) := by unfold eIf; rw [h]; exact h2
theorem eFl_eq (h : f ρ P = some (d, P1)) (hf : flatV d = true) : eFl f ρ P = some (d, P1) := by unfold eFl; rw [h]; exact if_pos hf
theorem asL_eq (h : f ρ P = some (.list ds, P1)) : asL f ρ P = some (ds, P1) := by unfold asL; rw [h]
theorem sRet_eq (h : f ρ P = some (d, P1)) : sRet f ρ P = some (.rt d, ρ, P1) := by unfold sRet; rw [h]
theorem sSet_eq {tgt : Tgt} (h : f ρ P = some (d, P1)) (ht : tgt d ρ = some ρ1) : sSet f tgt ρ P = some (.nx, ρ1, P1) := by unfold sSet; rw [h]; dsimp only; rw [ht]
theorem sSetN_eq {i : Nat} (h : f ρ P = some (d, P1)) : sSetN m i f ρ P = some (.nx, ρ.set i (mkS m d), P1) := sSet_eq h rfl
theorem sSeq_nx {r : Option (Fl × En × Pt)} (h : s1 ρ P = some (.nx, ρ1, P1)) (h2 : s2 ρ1 P1 = r) : sSeq s1 s2 ρ P = r := by unfold sSeq; rw [h]; exact h2
theorem sSeq_rt (h : s1 ρ P = some (.rt d, ρ1, P1)) : sSeq s1 s2 ρ P = some (.rt d, ρ1, P1) := by unfold sSeq; rw [h]
theorem sIf_t {q : Ev Bool} {r : Option (Fl × En × Pt)} (h : q ρ P = some (true, P1)) (h2 : s1 ρ P1 = r) : sIf q s1 s2 ρ P = r := by unfold sIf; rw [h]; exact h2
theorem sIf_f {q : Ev Bool} {r : Option (Fl × En × Pt)} (h : q ρ P = some (false, P1)) (h2 : s2 ρ P1 = r) : sIf q s1 s2 ρ P = r := by unfold sIf; rw [h]; exact h2
theorem sNil_eq : sNil ρ P = some (.nx, ρ, P) := rfl
theorem sNew_eq {i : Nat} (h : g ρ P = some (ds, P1)) (hl : ds.length ≤ sizeLine) : sNew i g ρ P = some (.nx, ρ.set i (.ow ds), P1) := by unfold sNew; rw [h]; exact if_pos hl
theorem sApp_eq {i : Nat} (h : f ρ P = some (d, P1)) (hi : ρ[i]? = some (.ow ds)) (hl : ds.length < sizeLine) : sApp i f ρ P = some (.nx, ρ.set i (.ow (ds ++ [d])), P1) := by unfold sApp; rw [h]; dsimp only; rw [hi]; dsimp only; rw [if_pos hl]
theorem sFrz_eq {i : Nat} {r : Option (Fl × En × Pt)} (hi : ρ[i]? = some (.ow ds)) (h : s (ρ.set i (.sh (.list ds))) P = r) : sFrz i s ρ P = r := by unfold sFrz; rw [hi]; exact h
end

/-! ### loops over what is laid out by enc -/
section
variable {α τ : Type} {enc : α → Dt} {ρw : En} {tgt : Tgt} {test : Ev Bool} {elt : Ev Dt} {P : Pt}
theorem compL_map {t : α → Bool} {e : α → Dt} : ∀ {xs : List α}, (∀ x ∈ xs, ∃ ρ1, tgt (enc x) ρw = some ρ1 ∧ test ρ1 P = some (t x, P) ∧ (t x = true → elt ρ1 P = some (e x, P))) → compL ρw tgt test elt (xs.map enc) P = some ((xs.filter t).map e, P)
  | [], _ => rfl
  | x :: xs, h => by
    obtain ⟨ρ1, h1, h2, h3⟩ := h x (List.mem_cons_self ..)
    have ih := compL_map (xs := xs) fun y hy => h y (List.mem_cons_of_mem _ hy)
    rw [List.map_cons, compL, h1]
    dsimp only
    rw [h2]
    cases hx : t x with
    | false => dsimp only; rw [ih, List.filter_cons_of_neg (by simp [hx])]
    | true => dsimp only; rw [h3 hx]; dsimp only; rw [ih, List.filter_cons_of_pos hx]; rfl
theorem eComp_map {own : List Nat} {it : Ev (List Dt)} {ρ : En} {P0 : Pt} {xs : List α} {t : α → Bool} {e : α → Dt} (hi : it ρ P0 = some (xs.map enc, P)) (h : ∀ x ∈ xs, ∃ ρ1, tgt (enc x) (wipeD ρ own) = some ρ1 ∧ test ρ1 P = some (t x, P) ∧ (t x = true → elt ρ1 P = some (e x, P))) (hl : xs.length ≤ sizeLine) :
    eComp own it tgt test elt ρ P0 = some (.list ((xs.filter t).map e), P) := by
  unfold eComp
  rw [hi]
  dsimp only
  rw [compL_map h]
  dsimp only
  rw [if_pos (by rw [List.length_map]; exact Nat.le_trans (List.length_filter_le _ _) hl)]
/-- .. without a test -/
theorem eComp_all {own : List Nat} {it : Ev (List Dt)} {ρ : En} {P0 : Pt} {xs : List α} {e : α → Dt} (hi : it ρ P0 = some (xs.map enc, P)) (h : ∀ x ∈ xs, ∃ ρ1, tgt (enc x) (wipeD ρ own) = some ρ1 ∧ elt ρ1 P = some (e x, P)) (hl : xs.length ≤ sizeLine) :
    eComp own it tgt eYes elt ρ P0 = some (.list (xs.map e), P) := by
  have q := eComp_map (own := own) (test := eYes) (t := fun _ => true) (e := e) hi (fun x hx => let ⟨ρ1, h1, h2⟩ := h x hx; ⟨ρ1, h1, rfl, fun _ => h2⟩) hl
  have e2 : xs.filter (fun _ => true) = xs := List.filter_eq_self.mpr fun _ _ => rfl
  rw [e2] at q
  exact q
theorem genL_map {stop : Bool} {b : α → Bool} : ∀ {xs : List α}, (∀ x ∈ xs, ∃ ρ1, tgt (enc x) ρw = some ρ1 ∧ elt ρ1 P = some (.bool (b x), P)) → genL stop ρw tgt eYes elt (xs.map enc) P = some (if stop = true then xs.any b else xs.all b, P)
  | [], _ => by cases stop <;> rfl
  | x :: xs, h => by
    obtain ⟨ρ1, h1, h2⟩ := h x (List.mem_cons_self ..)
    have ih := genL_map (stop := stop) (xs := xs) fun y hy => h y (List.mem_cons_of_mem _ hy)
    rw [List.map_cons, genL, h1]
    dsimp only [eYes]
    rw [h2]
    dsimp only
    rw [ih]
    cases stop <;> cases hx : b x <;> simp [hx]
theorem eGen_map {stop : Bool} {own : List Nat} {it : Ev (List Dt)} {ρ : En} {P0 : Pt} {xs : List α} {b : α → Bool} {r : Bool} (hi : it ρ P0 = some (xs.map enc, P)) (h : ∀ x ∈ xs, ∃ ρ1, tgt (enc x) (wipeD ρ own) = some ρ1 ∧ elt ρ1 P = some (.bool (b x), P))
    (hr : r = if stop = true then xs.any b else xs.all b) : eGen stop own it tgt eYes elt ρ P0 = some (.bool r, P) := by
  unfold eGen
  rw [hi]
  dsimp only
  rw [genL_map h, hr]
/-- for, with a state behind the names -/
theorem forL_inv {body : Sv} {I : τ → En → Prop} {step : τ → α → τ} : ∀ {xs : List α} {st : τ} {ρ : En}, (∀ st ρ x, x ∈ xs → I st ρ → ∃ ρ1 ρ2, tgt (enc x) ρ = some ρ1 ∧ body ρ1 P = some (.nx, ρ2, P) ∧ I (step st x) ρ2) → I st ρ →
    ∃ ρ', forL tgt body (xs.map enc) ρ P = some (.nx, ρ', P) ∧ I (xs.foldl step st) ρ'
  | [], st, ρ, _, i => ⟨ρ, rfl, i⟩
  | x :: xs, st, ρ, h, i => by
    obtain ⟨ρ1, ρ2, h1, h2, i2⟩ := h st ρ x (List.mem_cons_self ..) i
    obtain ⟨ρ', q, i'⟩ := forL_inv (xs := xs) (fun st ρ y hy => h st ρ y (List.mem_cons_of_mem _ hy)) i2
    refine ⟨ρ', ?_, i'⟩
    rw [List.map_cons, forL, h1]
    dsimp only
    rw [h2]
    exact q
theorem sFor_inv {body : Sv} {I : τ → En → Prop} {step : τ → α → τ} {it : Ev (List Dt)} {ρ : En} {P0 : Pt} {xs : List α} {st : τ} (hi : it ρ P0 = some (xs.map enc, P)) (i : I st ρ)
    (h : ∀ st ρ x, x ∈ xs → I st ρ → ∃ ρ1 ρ2, tgt (enc x) ρ = some ρ1 ∧ body ρ1 P = some (.nx, ρ2, P) ∧ I (step st x) ρ2) : ∃ ρ', sFor it tgt body ρ P0 = some (.nx, ρ', P) ∧ I (xs.foldl step st) ρ' := by
  unfold sFor
  rw [hi]
  exact forL_inv h i
/-- .. with the number of turns that are left -/
theorem forL_invN {body : Sv} {I : Nat → τ → En → Prop} {step : τ → α → τ} : ∀ {xs : List α} {st : τ} {ρ : En}, (∀ n st ρ x, x ∈ xs → I (n + 1) st ρ → ∃ ρ1 ρ2, tgt (enc x) ρ = some ρ1 ∧ body ρ1 P = some (.nx, ρ2, P) ∧ I n (step st x) ρ2) → I xs.length st ρ →
    ∃ ρ', forL tgt body (xs.map enc) ρ P = some (.nx, ρ', P) ∧ I 0 (xs.foldl step st) ρ'
  | [], st, ρ, _, i => ⟨ρ, rfl, i⟩
  | x :: xs, st, ρ, h, i => by
    obtain ⟨ρ1, ρ2, h1, h2, i2⟩ := h _ st ρ x (List.mem_cons_self ..) i
    obtain ⟨ρ', q, i'⟩ := forL_invN (xs := xs) (fun n st ρ y hy => h n st ρ y (List.mem_cons_of_mem _ hy)) i2
    refine ⟨ρ', ?_, i'⟩
    rw [List.map_cons, forL, h1]
    dsimp only
    rw [h2]
    exact q
theorem sFor_invN {body : Sv} {I : Nat → τ → En → Prop} {step : τ → α → τ} {it : Ev (List Dt)} {ρ : En} {P0 : Pt} {xs : List α} {st : τ} (hi : it ρ P0 = some (xs.map enc, P)) (i : I xs.length st ρ)
    (h : ∀ n st ρ x, x ∈ xs → I (n + 1) st ρ → ∃ ρ1 ρ2, tgt (enc x) ρ = some ρ1 ∧ body ρ1 P = some (.nx, ρ2, P) ∧ I n (step st x) ρ2) : ∃ ρ', sFor it tgt body ρ P0 = some (.nx, ρ', P) ∧ I 0 (xs.foldl step st) ρ' := by
  unfold sFor
  rw [hi]
  exact forL_invN h i
/-- .. the pot in the state -/
theorem forL_invP {body : Sv} {I : τ → Pt → En → Prop} : ∀ {xs : List α} {st : τ} {P : Pt} {ρ : En}, (∀ st P ρ x, x ∈ xs → I st P ρ → ∃ ρ1 ρ2 st2 P2, tgt (enc x) ρ = some ρ1 ∧ body ρ1 P = some (.nx, ρ2, P2) ∧ I st2 P2 ρ2) → I st P ρ →
    ∃ st' P' ρ', forL tgt body (xs.map enc) ρ P = some (.nx, ρ', P') ∧ I st' P' ρ'
  | [], st, P, ρ, _, i => ⟨st, P, ρ, rfl, i⟩
  | x :: xs, st, P, ρ, h, i => by
    obtain ⟨ρ1, ρ2, st2, P2, h1, h2, i2⟩ := h st P ρ x (List.mem_cons_self ..) i
    obtain ⟨st', P', ρ', q, i'⟩ := forL_invP (xs := xs) (fun st P ρ y hy => h st P ρ y (List.mem_cons_of_mem _ hy)) i2
    refine ⟨st', P', ρ', ?_, i'⟩
    rw [List.map_cons, forL, h1]
    dsimp only
    rw [h2]
    exact q
end

/-! ### texts, rows of texts -/
abbrev eS (l : List Str) : Dt := .list (l.map .str)
abbrev eSS (l : List (List Str)) : Dt := .list (l.map eS)
theorem eqv_str (a b : Str) : PyData.eqv (.str a) (.str b) = decide (a = b) := by
  show (a == b) = _
  by_cases h : a = b <;> simp [h]
theorem eqvAll_str : ∀ a b : List Str, PyData.eqvAll (a.map .str) (b.map .str) = decide (a = b)
  | [], [] => by rw [List.map_nil, PyData.eqvAll]; simp
  | [], y :: ys => by rw [List.map_nil, List.map_cons, PyData.eqvAll]; simp
  | x :: xs, [] => by rw [List.map_nil, List.map_cons, PyData.eqvAll]; simp
  | x :: xs, y :: ys => by
    rw [List.map_cons, List.map_cons, PyData.eqvAll, eqvAll_str xs ys, eqv_str]
    by_cases h : x = y <;> by_cases h2 : xs = ys <;> simp [h, h2]
theorem eqv_S (a b : List Str) : PyData.eqv (eS a) (eS b) = decide (a = b) := by rw [PyData.eqv]; exact eqvAll_str a b
theorem eqvAll_S : ∀ a b : List (List Str), PyData.eqvAll (a.map eS) (b.map eS) = decide (a = b)
  | [], [] => by rw [List.map_nil, PyData.eqvAll]; simp
  | [], y :: ys => by rw [List.map_nil, List.map_cons, PyData.eqvAll]; simp
  | x :: xs, [] => by rw [List.map_nil, List.map_cons, PyData.eqvAll]; simp
  | x :: xs, y :: ys => by
    rw [List.map_cons, List.map_cons, PyData.eqvAll, eqvAll_S xs ys, eqv_S]
    by_cases h : x = y <;> by_cases h2 : xs = ys <;> simp [h, h2]
theorem eqv_SS (a b : List (List Str)) : PyData.eqv (eSS a) (eSS b) = decide (a = b) := by rw [PyData.eqv]; exact eqvAll_S a b
theorem depth_strs : ∀ l : List Str, PyData.depthAll (l.map .str) ≤ 1
  | [] => by simp [PyData.depthAll]
  | x :: l => by simp only [List.map_cons, PyData.depthAll, PyData.depth]; have := depth_strs l; omega
theorem depth_S (l : List Str) : (eS l).depth ≤ 3 := by
  have := depth_strs l
  simp only [PyData.depth]
  omega
theorem depthAll_S : ∀ l : List (List Str), PyData.depthAll (l.map eS) ≤ 3
  | [] => by simp [PyData.depthAll]
  | x :: l => by
    rw [List.map_cons, PyData.depthAll]
    exact Nat.max_le.mpr ⟨depth_S x, depthAll_S l⟩
theorem alikeAll_strs : ∀ a b : List Str, PySem.W.alikeAll (a.map .str) (b.map .str) = true
  | [], _ => by rw [List.map_nil, PySem.W.alikeAll]
  | _ :: _, [] => by rw [List.map_nil, List.map_cons, PySem.W.alikeAll]
  | x :: xs, y :: ys => by
    rw [List.map_cons, List.map_cons, PySem.W.alikeAll, alikeAll_strs xs ys]
    rw [PySem.W.alike]; rfl
theorem alike_S (a b : List Str) : PySem.W.alike (eS a) (eS b) = true := by rw [PySem.W.alike]; exact alikeAll_strs a b
theorem any_eqv (x : Str) (l : List Str) : ((l.map PyData.str).any fun y => PyData.eqv y (.str x)) = l.contains x := by
  induction l with
  | nil => rfl
  | cons y l ih =>
    rw [List.map_cons, List.any_cons, ih, eqv_str]
    by_cases h : y = x
    · subst h; simp
    · have h' : ¬ x = y := fun e => h e.symm
      simp [h, h']
theorem gIn_S (x : Str) (l : List Str) : gIn (.str x) (eS l) = some (.bool (l.contains x)) := by
  have e : inD (.str x) (eS l) = some (l.contains x) := by
    show (if min (PyData.depthAll (l.map PyData.str)) (PyData.str x).depth ≤ dline then some ((l.map PyData.str).any fun y => PyData.eqv y (.str x)) else none) = _
    rw [if_pos (Nat.le_trans (Nat.min_le_left _ _) (Nat.le_trans (depth_strs l) (by decide))), any_eqv]
  unfold gIn
  rw [e]
  rfl
theorem gNin_S (x : Str) (l : List Str) : gNin (.str x) (eS l) = some (.bool (!l.contains x)) := by
  have e : inD (.str x) (eS l) = some (l.contains x) := by
    show (if min (PyData.depthAll (l.map PyData.str)) (PyData.str x).depth ≤ dline then some ((l.map PyData.str).any fun y => PyData.eqv y (.str x)) else none) = _
    rw [if_pos (Nat.le_trans (Nat.min_le_left _ _) (Nat.le_trans (depth_strs l) (by decide))), any_eqv]
  unfold gNin
  rw [e]
  rfl
theorem sortOk_S (l : List (List Str)) : sortOk (l.map eS) = true := by
  unfold sortOk
  have h1 : alikeEach (l.map eS) = true := by
    unfold alikeEach
    rw [List.all_eq_true]
    intro a ha
    rw [List.all_eq_true]
    intro b hb
    obtain ⟨x, _, rfl⟩ := List.mem_map.mp ha
    obtain ⟨y, _, rfl⟩ := List.mem_map.mp hb
    exact alike_S x y
  have h2 : (l.map eS).all noT = true := by
    rw [List.all_eq_true]
    intro a ha
    obtain ⟨x, _, rfl⟩ := List.mem_map.mp ha
    rfl
  rw [h1, h2]
  simp only [Bool.or_true, Bool.true_and, decide_eq_true_eq]
  exact Nat.le_trans (depthAll_S l) (by decide)
theorem sortOk_strs (l : List Str) : sortOk (l.map .str) = true := by
  unfold sortOk
  have h1 : alikeEach (l.map .str) = true := by
    unfold alikeEach
    rw [List.all_eq_true]
    intro a ha
    rw [List.all_eq_true]
    intro b hb
    obtain ⟨x, _, rfl⟩ := List.mem_map.mp ha
    obtain ⟨y, _, rfl⟩ := List.mem_map.mp hb
    rw [PySem.W.alike]
  have h2 : (l.map PyData.str).all noT = true := by
    rw [List.all_eq_true]
    intro a ha
    obtain ⟨x, _, rfl⟩ := List.mem_map.mp ha
    rfl
  rw [h1, h2]
  simp only [Bool.or_true, Bool.true_and, decide_eq_true_eq]
  exact Nat.le_trans (depth_strs l) (by decide)
end PD

/-! part M62a -/
set_option Elab.async false
set_option linter.all false
set_option maxRecDepth 100000
set_option maxHeartbeats 4000000
/-! law k62's functions on rows of texts; own work -/
namespace W62
open PySem PySem.Spec PyProof.Rows L2 PD
abbrev Lot := List Str
/-- lot is within other | they share a name -/
def inT (a b : Lot) : Bool := a.all fun x => b.contains x
def shT (a b : Lot) : Bool := a.any fun x => b.contains x
def hitT (lot : Lot) (fam : List Lot) : Bool := fam.all fun o => shT lot o
def keyD (l : Lot) : Dt := .tuple [.int l.length, eS l]
def leK : Lot → Lot → Bool := PySem.W.dataLe false keyD
def leS : Lot → Lot → Bool := PySem.W.dataLe false eS
def leN : Str → Str → Bool := PySem.W.dataLe false PyData.str
def bySize (l : List Lot) : List Lot := l.mergeSort leK
def sortS (l : List Lot) : List Lot := l.mergeSort leS
def sortN (l : Lot) : Lot := l.mergeSort leN
def minStep (kept : List Lot) (lot : Lot) : List Lot := if kept.any (fun o => inT o lot) then kept else kept ++ [lot]
def leastT (l : List Lot) : List Lot := sortS ((bySize l).foldl minStep [])
theorem s_within (a b : Lot) : s_lot_within [eS a, eS b] = some (.bool (inT a b)) := by
  have h : eGen false [2] (asL (vV true 0)) (gN true 2) eYes (eOp gIn (vV true 2) (vV true 1)) [.sh (eS a), .sh (eS b), .un] (0, 0) = some (.bool (inT a b), (0, 0)) :=
    eGen_map (enc := PyData.str) (xs := a) (b := fun x => b.contains x) (asL_eq rfl) (fun x hx => ⟨_, rfl, eOp_eq rfl rfl (gIn_S x b)⟩) rfl
  show resD (g_lot_within [.sh (eS a), .sh (eS b), .un] (0, 0)) = _
  unfold g_lot_within
  rw [sRet_eq h]; rfl
theorem s_shares (a b : Lot) : s_shares_name [eS a, eS b] = some (.bool (shT a b)) := by
  have h : eGen true [2] (asL (vV true 0)) (gN true 2) eYes (eOp gIn (vV true 2) (vV true 1)) [.sh (eS a), .sh (eS b), .un] (0, 0) = some (.bool (shT a b), (0, 0)) :=
    eGen_map (enc := PyData.str) (xs := a) (b := fun x => b.contains x) (asL_eq rfl) (fun x hx => ⟨_, rfl, eOp_eq rfl rfl (gIn_S x b)⟩) rfl
  show resD (g_shares_name [.sh (eS a), .sh (eS b), .un] (0, 0)) = _
  unfold g_shares_name
  rw [sRet_eq h]; rfl
theorem s_hitsE (lot : Lot) (fam : List Lot) : s_hits [eS lot, eSS fam] = some (.bool (hitT lot fam)) := by
  have h : eGen false [2] (asL (vV true 1)) (gN true 2) eYes (eCall 2 s_shares_name (eCons (eV true 0) (eCons (eV true 2) eNil))) [.sh (eS lot), .sh (eSS fam), .un] (0, 0) = some (.bool (hitT lot fam), (0, 0)) :=
    eGen_map (enc := eS) (xs := fam) (b := fun o => shT lot o) (asL_eq rfl) (fun x hx => ⟨_, rfl, eCall2 rfl rfl (s_shares lot x)⟩) rfl
  show resD (g_hits [.sh (eS lot), .sh (eSS fam), .un] (0, 0)) = _
  unfold g_hits
  rw [sRet_eq h]; rfl
theorem boolsOf_map {α : Type} (b : α → Bool) : ∀ xs : List α, boolsOf (xs.map fun x => PyData.bool (b x)) = some (xs.map b)
  | [] => rfl
  | x :: xs => by
    rw [List.map_cons, boolsOf, boolsOf_map b xs]; rfl
theorem gAll_map {α : Type} (b : α → Bool) (xs : List α) : gAll [.list (xs.map fun x => PyData.bool (b x))] = some (.bool (xs.all b)) := by
  show (boolsOf (xs.map fun x => PyData.bool (b x))).map (fun is => PyData.bool (is.all id)) = _
  rw [boolsOf_map]
  simp [List.all_map]
theorem gAny_map {α : Type} (b : α → Bool) (xs : List α) : gAny [.list (xs.map fun x => PyData.bool (b x))] = some (.bool (xs.any b)) := by
  show (boolsOf (xs.map fun x => PyData.bool (b x))).map (fun is => PyData.bool (is.any id)) = _
  rw [boolsOf_map]
  simp [List.any_map]
theorem s_insideE (a b : Lot) (hl : a.length ≤ sizeLine) : s__law_inside [eS a, eS b] = some (.bool (inT a b)) := by
  have h : eFn gAll (eCons (eComp [2] (asL (vV true 0)) (gN true 2) eYes (eOp gIn (vV true 2) (vV true 1))) eNil) [.sh (eS a), .sh (eS b), .un] (0, 0) = some (.bool (inT a b), (0, 0)) :=
    eFn1 (eComp_all (enc := PyData.str) (xs := a) (e := fun x => .bool (b.contains x)) (asL_eq rfl) (fun x hx => ⟨_, rfl, eOp_eq rfl rfl (gIn_S x b)⟩) hl) (gAll_map _ _)
  show resD (g__law_inside [.sh (eS a), .sh (eS b), .un] (0, 0)) = _
  unfold g__law_inside
  rw [sRet_eq h]; rfl
theorem s_lawhits (lot : Lot) (fam : List Lot) (h1 : lot.length ≤ sizeLine) (h2 : fam.length ≤ sizeLine) : s__law_hits [eS lot, eSS fam] = some (.bool (hitT lot fam)) := by
  have h : eFn gAll (eCons (eComp [2] (asL (vV true 1)) (gN true 2) eYes (eFn gAny (eCons (eComp [3] (asL (vV true 0)) (gN true 3) eYes (eOp gIn (vV true 3) (vV true 2))) eNil))) eNil) [.sh (eS lot), .sh (eSS fam), .un, .un] (0, 0) = some (.bool (hitT lot fam), (0, 0)) :=
    eFn1 (eComp_all (enc := eS) (xs := fam) (e := fun o => .bool (shT lot o)) (asL_eq rfl) (fun o ho => ⟨_, rfl, eFn1 (eComp_all (enc := PyData.str) (xs := lot) (e := fun x => .bool (o.contains x)) (asL_eq rfl) (fun x hx => ⟨_, rfl, eOp_eq rfl rfl (gIn_S x o)⟩) h1) (gAny_map _ _)⟩) h2) (gAll_map _ _)
  show resD (g__law_hits [.sh (eS lot), .sh (eSS fam), .un, .un] (0, 0)) = _
  unfold g__law_hits
  rw [sRet_eq h]; rfl
theorem keysOf_map {α : Type} {kf : Dt → Option Dt} {enc key : α → Dt} (h : ∀ x, kf (enc x) = some (key x)) : ∀ xs : List α, keysOf kf (xs.map enc) = some (xs.map key)
  | [] => rfl
  | x :: xs => by
    rw [List.map_cons, keysOf, h x]
    dsimp only
    rw [keysOf_map h xs]; rfl
theorem sortBy_map {α : Type} (enc key : α → Dt) (xs : List α) : sortBy (xs.map key) (xs.map enc) = (xs.mergeSort (PySem.W.dataLe false key)).map enc := by
  unfold sortBy
  have e : (xs.map enc).zip (xs.map key) = xs.map fun x => (enc x, key x) := by
    induction xs with
    | nil => rfl
    | cons x xs ih => simp [ih]
  rw [e, ← List.map_mergeSort (r := PySem.W.dataLe false key) (f := fun x => (enc x, key x)) (fun a _ b _ => rfl), List.map_map]
  rfl
theorem sortD_map {α : Type} (enc : α → Dt) (xs : List α) : sortD (xs.map enc) = (xs.mergeSort (PySem.W.dataLe false enc)).map enc := by
  unfold sortD
  rw [← List.map_mergeSort (r := PySem.W.dataLe false enc) (f := enc) (fun a _ b _ => rfl)]
theorem sortOk_keys (l : List Lot) : sortOk (l.map keyD) = true := by
  unfold sortOk
  have h1 : alikeEach (l.map keyD) = true := by
    unfold alikeEach
    rw [List.all_eq_true]
    intro a ha
    rw [List.all_eq_true]
    intro b hb
    obtain ⟨x, _, rfl⟩ := List.mem_map.mp ha
    obtain ⟨y, _, rfl⟩ := List.mem_map.mp hb
    unfold keyD
    rw [PySem.W.alike, PySem.W.alikeAll, PySem.W.alikeAll, PySem.W.alikeAll, alike_S, PySem.W.alike]; rfl
  have h2 : (l.map keyD).all isT = true := by
    rw [List.all_eq_true]
    intro a ha
    obtain ⟨x, _, rfl⟩ := List.mem_map.mp ha
    rfl
  have h3 : PyData.depthAll (l.map keyD) ≤ 10 := by
    induction l with
    | nil => simp [PyData.depthAll]
    | cons x l ih =>
      have ih := ih (by
        unfold alikeEach at h1 ⊢
        rw [List.all_eq_true] at h1 ⊢
        intro a ha
        have := h1 a (List.mem_cons_of_mem _ ha)
        rw [List.all_eq_true] at this ⊢
        exact fun b hb => this b (List.mem_cons_of_mem _ hb)) (by
        rw [List.all_eq_true] at h2 ⊢
        exact fun a ha => h2 a (List.mem_cons_of_mem _ ha))
      rw [List.map_cons, PyData.depthAll]
      refine Nat.max_le.mpr ⟨?_, ih⟩
      have := depth_S x
      unfold keyD
      simp only [PyData.depth, PyData.depthAll] at this ⊢
      omega
  rw [h1, h2]
  simp only [Bool.true_or, Bool.true_and, decide_eq_true_eq]
  exact Nat.le_trans h3 (by decide)
theorem s_bysize (l : List Lot) : s_by_size [eSS l] = some (eSS (bySize l)) := by
  have h : eSortK (lamSem 1 (eTup (eCons (eFn gLen (eCons (vV true 0) eNil)) (eCons (eV true 0) eNil)))) (vV true 0) [.sh (eSS l)] (0, 0) = some (eSS (bySize l), (0, 0)) := by
    unfold eSortK
    have e : vV true 0 [.sh (eSS l)] (0, 0) = some (eSS l, (0, 0)) := rfl
    rw [e]
    dsimp only
    rw [keysOf_map (enc := eS) (key := keyD) (fun x => by
      unfold lamSem
      have q : eTup (eCons (eFn gLen (eCons (vV true 0) eNil)) (eCons (eV true 0) eNil)) (enOf 1 [eS x]) (0, 0) = some (keyD x, (0, 0)) := eTup_eq (eCons_eq (eFn1 rfl (show gLen [eS x] = some (.int x.length) by simp [gLen])) (eCons_eq rfl eNil_eq)) (show (2:Nat) ≤ sizeLine by decide)
      rw [q]) l]
    dsimp only
    rw [if_pos (sortOk_keys l), sortBy_map]
    rfl
  show resD (g_by_size [.sh (eSS l)] (0, 0)) = _
  unfold g_by_size
  rw [sRet_eq h]; rfl
theorem sorted_SS (l : List Lot) : gSorted [eSS l] = some (eSS (sortS l)) := by
  show (if sortOk (l.map eS) = true then some (PyData.list (sortD (l.map eS))) else none) = _
  rw [if_pos (sortOk_S l), sortD_map]; rfl
theorem sorted_S (l : Lot) : gSorted [eS l] = some (eS (sortN l)) := by
  show (if sortOk (l.map .str) = true then some (PyData.list (sortD (l.map .str))) else none) = _
  rw [if_pos (sortOk_strs l), sortD_map]; rfl
end W62

/-! part M62b -/
set_option Elab.async false
set_option linter.all false
set_option maxRecDepth 100000
set_option maxHeartbeats 4000000
namespace W62
open PySem PySem.Spec PyProof.Rows L2 PD
theorem minStep_len (k : List Lot) (x : Lot) : (minStep k x).length ≤ k.length + 1 := by
  unfold minStep
  split
  · omega
  · simp
theorem minFold_len (l : List Lot) : ∀ (k : List Lot), (l.foldl minStep k).length ≤ k.length + l.length := by
  induction l with
  | nil => intro k; simp
  | cons x l ih =>
    intro k
    have := ih (minStep k x)
    have h := minStep_len k x
    simp only [List.foldl_cons, List.length_cons]
    omega
theorem bySize_len (l : List Lot) : (bySize l).length = l.length := List.length_mergeSort ..
theorem sortS_len (l : List Lot) : (sortS l).length = l.length := List.length_mergeSort ..
theorem sortN_len (l : Lot) : (sortN l).length = l.length := List.length_mergeSort ..
theorem least_len (l : List Lot) : (leastT l).length ≤ l.length := by
  unfold leastT
  rw [sortS_len]
  have := minFold_len (bySize l) []
  rw [bySize_len] at this
  simpa using this
theorem flatV_S (x : Lot) : flatV (eS x) = true := by
  show (x.map PyData.str).all flatD = true
  rw [List.all_eq_true]
  intro d hd
  obtain ⟨s, _, rfl⟩ := List.mem_map.mp hd
  rfl
theorem s_least (l : List Lot) (hl : l.length < sizeLine) : s_least_of_lots [eSS l] = some (eSS (leastT l)) := by
  have h0 : sNew 1 eNil [.lk (eSS l), .un, .un, .un] (0, 0) = some (.nx, [.lk (eSS l), .ow [], .un, .un], (0, 0)) := sNew_eq eNil_eq (Nat.zero_le _)
  refine Exists.elim (sFor_invN (τ := List Lot) (enc := eS) (xs := bySize l) (it := asL (eCall 1 s_by_size (eCons (eV false 0) eNil))) (tgt := gN false 2) (P := (0, 0)) (P0 := (0, 0)) (ρ := [.lk (eSS l), .ow [], .un, .un]) (st := [])
    (body := sIf (eNot (asB (eGen true [3] (asL (vV true 1)) (gN true 3) eYes (eCall 2 s_lot_within (eCons (eV false 3) (eCons (eV false 2) eNil)))))) (sApp 1 (eFn gList (eCons (eFl (vV false 2)) eNil))) sNil)
    (step := minStep) (I := fun n kept ρ => ∃ (x y : DV), ρ = [.lk (eSS l), .ow (kept.map eS), x, y] ∧ kept.length + n ≤ l.length)
    (asL_eq (eCall1 rfl (s_bysize l))) ⟨.un, .un, rfl, by rw [bySize_len]; simp⟩ (fun n kept ρ lot hm ⟨x, y, e, hk⟩ => ?step)) (fun ρ' ⟨q, x, y, er, hf⟩ => ?fin)
  case fin =>
    show resD (g_least_of_lots [.lk (eSS l), .un, .un, .un] (0, 0)) = _
    unfold g_least_of_lots
    rw [sSeq_nx h0 (sSeq_nx q (sRet_eq (d := eSS (leastT l)) (P1 := (0, 0)) ?_))]
    · rfl
    · subst er
      exact eFn1 rfl (sorted_SS _)
  case step =>
    subst e
    refine ⟨_, _, rfl, ?_, .lk (eS lot), y, rfl, Nat.le_trans (by have := minStep_len kept lot; omega) hk⟩
    have hg : eGen true [3] (asL (vV true 1)) (gN true 3) eYes (eCall 2 s_lot_within (eCons (eV false 3) (eCons (eV false 2) eNil))) [.lk (eSS l), .ow (kept.map eS), .lk (eS lot), y] (0, 0) = some (.bool (kept.any fun o => inT o lot), (0, 0)) :=
      eGen_map (enc := eS) (xs := kept) (b := fun o => inT o lot) (asL_eq rfl) (fun o ho => ⟨_, rfl, eCall2 rfl rfl (s_within o lot)⟩) rfl
    unfold minStep
    cases hb : kept.any fun o => inT o lot with
    | true =>
      rw [hb] at hg
      exact sIf_f (eNot_eq (asB_eq hg)) rfl
    | false =>
      rw [hb] at hg
      refine sIf_t (eNot_eq (asB_eq hg)) ?_
      have h3 : eFn gList (eCons (eFl (vV false 2)) eNil) [.lk (eSS l), .ow (kept.map eS), .lk (eS lot), y] (0, 0) = some (eS lot, (0, 0)) := eFn1 (eFl_eq rfl (flatV_S lot)) rfl
      have ha := sApp_eq (i := 1) h3 (ds := kept.map eS) rfl (by rw [List.length_map]; omega)
      have e2 : (if false = true then kept else kept ++ [lot]).map eS = kept.map eS ++ [eS lot] := by
        rw [if_neg Bool.false_ne_true, List.map_append]; rfl
      rw [e2]
      exact ha
theorem s_lawleast (l : List Lot) (hl : l.length < sizeLine) (hs : ∀ x ∈ l, x.length ≤ sizeLine) : s__law_least [eSS l] = some (eSS (leastT l)) := by
  have hsz : ∀ x ∈ bySize l, x.length ≤ sizeLine := fun x hx => hs x ((List.mergeSort_perm l _).mem_iff.mp hx)
  have h0 : sNew 1 eNil [.sh (eSS l), .un, .un, .un, .un] (0, 0) = some (.nx, [.sh (eSS l), .ow [], .un, .un, .un], (0, 0)) := sNew_eq eNil_eq (Nat.zero_le _)
  have hs1 : asL (eFn gSorted (eCons (eComp [3] (asL (vV true 0)) (gN true 3) eYes (eTup (eCons (eFn gLen (eCons (vV true 3) eNil)) (eCons (eV true 3) eNil)))) eNil)) [.sh (eSS l), .ow [], .un, .un, .un] (0, 0) = some ((bySize l).map keyD, (0, 0)) := by
    refine asL_eq (eFn1 (eComp_all (enc := eS) (xs := l) (e := keyD) (asL_eq rfl) (fun x hx => ⟨_, rfl, eTup_eq (eCons_eq (eFn1 rfl (show gLen [eS x] = some (.int x.length) by simp [gLen])) (eCons_eq rfl eNil_eq)) (show (2:Nat) ≤ sizeLine by decide)⟩) (Nat.le_of_lt hl)) ?_)
    show (if sortOk (l.map keyD) = true then some (PyData.list (sortD (l.map keyD))) else none) = _
    rw [if_pos (sortOk_keys l), sortD_map]; rfl
  refine Exists.elim (sFor_invN (τ := List Lot) (enc := keyD) (xs := bySize l) (tgt := gT true [2, 3]) (P := (0, 0)) (P0 := (0, 0)) (ρ := [.sh (eSS l), .ow [], .un, .un, .un]) (st := [])
    (body := sIf (eNot (asB (eFn gAny (eCons (eComp [4] (asL (vV true 1)) (gN true 4) eYes (eCall 2 s__law_inside (eCons (eV true 4) (eCons (eV true 3) eNil)))) eNil)))) (sApp 1 (eV true 3)) sNil)
    (step := minStep) (I := fun n kept ρ => ∃ (x y z : DV), ρ = [.sh (eSS l), .ow (kept.map eS), x, y, z] ∧ kept.length + n ≤ l.length ∧ ∀ o ∈ kept, o ∈ bySize l)
    hs1 ⟨.un, .un, .un, rfl, by rw [bySize_len]; simp, fun o ho => by cases ho⟩ (fun n kept ρ lot hm ⟨x, y, z, e, hk, hks⟩ => ?step)) (fun ρ' ⟨q, x, y, z, er, hf⟩ => ?fin)
  case fin =>
    show resD (g__law_least [.sh (eSS l), .un, .un, .un, .un] (0, 0)) = _
    unfold g__law_least
    rw [sSeq_nx h0 (sSeq_nx q (sRet_eq (d := eSS (leastT l)) (P1 := (0, 0)) ?_))]
    · rfl
    · subst er
      exact eFn1 rfl (sorted_SS _)
  case step =>
    subst e
    refine ⟨_, _, rfl, ?_, .sh (.int lot.length), .sh (eS lot), z, rfl, Nat.le_trans (by have := minStep_len kept lot; omega) hk, ?_⟩
    · have hg : eFn gAny (eCons (eComp [4] (asL (vV true 1)) (gN true 4) eYes (eCall 2 s__law_inside (eCons (eV true 4) (eCons (eV true 3) eNil)))) eNil) [.sh (eSS l), .ow (kept.map eS), .sh (.int lot.length), .sh (eS lot), z] (0, 0) = some (.bool (kept.any fun o => inT o lot), (0, 0)) :=
        eFn1 (eComp_all (enc := eS) (xs := kept) (e := fun o => .bool (inT o lot)) (asL_eq rfl) (fun o ho => ⟨_, rfl, eCall2 rfl rfl (s_insideE o lot (hsz o (hks o ho)))⟩) (by omega)) (gAny_map _ _)
      unfold minStep
      cases hb : kept.any fun o => inT o lot with
      | true =>
        rw [hb] at hg
        exact sIf_f (eNot_eq (asB_eq hg)) rfl
      | false =>
        rw [hb] at hg
        refine sIf_t (eNot_eq (asB_eq hg)) ?_
        have h3 : eV true 3 [.sh (eSS l), .ow (kept.map eS), .sh (.int lot.length), .sh (eS lot), z] (0, 0) = some (eS lot, (0, 0)) := rfl
        have ha := sApp_eq (i := 1) h3 (ds := kept.map eS) rfl (by rw [List.length_map]; omega)
        have e2 : (if false = true then kept else kept ++ [lot]).map eS = kept.map eS ++ [eS lot] := by
          rw [if_neg Bool.false_ne_true, List.map_append]; rfl
        rw [e2]
        exact ha
    · intro o ho
      unfold minStep at ho
      split at ho
      · exact hks o ho
      · rcases List.mem_append.mp ho with h | h
        · exact hks o h
        · rw [List.mem_singleton.mp h]; exact hm
end W62

/-! part M62c -/
set_option Elab.async false
set_option linter.all false
set_option maxRecDepth 100000
set_option maxHeartbeats 4000000
namespace W62
open PySem PySem.Spec PyProof.Rows L2 PD
theorem strsOf_map : ∀ l : Lot, strsOf (l.map .str) = some l
  | [] => rfl
  | x :: l => by rw [List.map_cons, strsOf, strsOf_map l]; rfl
def namesT (fam : List Lot) : Lot := sortN (setOfS fam.flatten)
theorem comp2_SS {ρw : En} {P : Pt} (vs1 : List Nat) (hw : ∀ x : Lot, ∃ ρ1, gN true 1 (eS x) ρw = some ρ1 ∧ asL (eV true 1) ρ1 P = some (x.map .str, P) ∧ ∀ s : Str, ∃ ρ2, gN true 2 (.str s) (wipeD ρ1 vs1) = some ρ2 ∧ eV true 2 ρ2 P = some (.str s, P)) :
    ∀ fam : List Lot, comp2L ρw (gN true 1) eYes (asL (eV true 1)) vs1 (gN true 2) eYes (eV true 2) (fam.map eS) P = some (fam.flatten.map .str, P)
  | [] => rfl
  | x :: fam => by
    obtain ⟨ρ1, h1, h2, h3⟩ := hw x
    have q := compL_map (enc := PyData.str) (test := eYes) (tgt := gN true 2) (elt := eV true 2) (ρw := wipeD ρ1 vs1) (P := P) (t := fun _ => true) (e := PyData.str) (xs := x) fun s _ => let ⟨ρ2, a, b⟩ := h3 s; ⟨ρ2, a, rfl, fun _ => b⟩
    have e2 : x.filter (fun _ => true) = x := List.filter_eq_self.mpr fun _ _ => rfl
    rw [e2] at q
    rw [List.map_cons, comp2L, h1]
    dsimp only [eYes]
    rw [h2]
    dsimp only
    rw [show compL (wipeD ρ1 vs1) (gN true 2) eYes (eV true 2) (x.map .str) P = some (x.map .str, P) from q]
    dsimp only
    have ih := comp2_SS vs1 hw fam
    rw [show comp2L ρw (gN true 1) eYes (asL (eV true 1)) vs1 (gN true 2) eYes (eV true 2) (fam.map eS) P = _ from ih]
    dsimp only
    rw [List.flatten_cons, List.map_append]
theorem s_names (fam : List Lot) (hl : (setOfS fam.flatten).length + 1 < 4096) : s_names_of_family [eSS fam] = some (eS (namesT fam)) := by
  have h : eSortSet2 [1, 2] (asL (vV true 0)) (gN true 1) eYes (asL (eV true 1)) [2] (gN true 2) eYes (eV true 2) [.sh (eSS fam), .un, .un] (0, 0) = some (eS (namesT fam), (0, 0)) := by
    unfold eSortSet2
    rw [show asL (vV true 0) [.sh (eSS fam), .un, .un] (0, 0) = some (fam.map eS, (0, 0)) from asL_eq rfl]
    dsimp only
    rw [comp2_SS [2] (ρw := wipeD [.sh (eSS fam), .un, .un] [1, 2]) (fun x => ⟨_, rfl, asL_eq rfl, fun s => ⟨_, rfl, rfl⟩⟩) fam]
    dsimp only
    rw [strsOf_map]
    dsimp only
    rw [if_pos hl]; rfl
  show resD (g_names_of_family [.sh (eSS fam), .un, .un] (0, 0)) = _
  unfold g_names_of_family
  rw [sRet_eq h]; rfl

/-! ### all lots -/
def addN (lots : List Lot) (n : Str) : List Lot := lots ++ lots.map (· ++ [n])
def allT (names : Lot) : List Lot := names.foldl addN [[]]
theorem addN_len (lots : List Lot) (n : Str) : (addN lots n).length = 2 * lots.length := by unfold addN; simp; omega
theorem gAdd_lists (xs ys : List Dt) (h : xs.length + ys.length ≤ sizeLine) : gAdd (.list xs) (.list ys) = some (.list (xs ++ ys)) := by
  show (if xs.length + ys.length ≤ sizeLine then some (PyData.list (xs ++ ys)) else none) = _
  rw [if_pos h]
theorem gAdd_S (a b : Lot) (h : a.length + b.length ≤ sizeLine) : gAdd (eS a) (eS b) = some (eS (a ++ b)) := by
  rw [gAdd_lists _ _ (by simpa using h), ← List.map_append]
theorem gAdd_SS (a b : List Lot) (h : a.length + b.length ≤ sizeLine) : gAdd (eSS a) (eSS b) = some (eSS (a ++ b)) := by
  rw [gAdd_lists _ _ (by simpa using h), ← List.map_append]
theorem pow_le {k n : Nat} (h : k ≤ n) : 2 ^ k ≤ 2 ^ n := Nat.pow_le_pow_right (by decide) h
/-- one turn of either -/
theorem turn_all {own : List Nat} {x y : DV} {lots : List Lot} {n : Str} {names : Lot} (h1 : 2 * lots.length ≤ sizeLine) (h2 : ∀ l ∈ lots, l.length + 1 ≤ sizeLine) :
    sSetN true 1 (eOp gAdd (vV true 1) (eComp [3] (asL (vV true 1)) (gN true 3) eYes (eOp gAdd (vV true 3) (eLst (eCons (eV true 2) eNil))))) [.sh (eS names), .sh (eSS lots), .sh (.str n), y] (0, 0) = some (.nx, [.sh (eS names), .sh (eSS (addN lots n)), .sh (.str n), y], (0, 0)) := by
  have hc : eComp [3] (asL (vV true 1)) (gN true 3) eYes (eOp gAdd (vV true 3) (eLst (eCons (eV true 2) eNil))) [.sh (eS names), .sh (eSS lots), .sh (.str n), y] (0, 0) = some (eSS (lots.map (· ++ [n])), (0, 0)) := by
    have q := eComp_all (own := [3]) (it := asL (vV true 1)) (tgt := gN true 3) (elt := eOp gAdd (vV true 3) (eLst (eCons (eV true 2) eNil))) (ρ := [.sh (eS names), .sh (eSS lots), .sh (.str n), y]) (P := (0, 0)) (P0 := (0, 0)) (enc := eS) (xs := lots) (e := fun l => eS (l ++ [n])) (asL_eq rfl)
      (fun l hl => ⟨_, rfl, eOp_eq rfl (eLst_eq (eCons_eq rfl eNil_eq) (show (1:Nat) ≤ sizeLine by decide)) (gAdd_S l [n] (by simpa using h2 l hl))⟩) (by omega)
    rw [q]
    simp [List.map_map, Function.comp_def]
  have ha : gAdd (eSS lots) (eSS (lots.map (· ++ [n]))) = some (eSS (addN lots n)) := gAdd_SS _ _ (by rw [List.length_map]; omega)
  exact sSetN_eq (eOp_eq rfl hc ha)
theorem all_inv (names : Lot) (hn : names.length ≤ 20) : ∃ ρ' x y, sFor (asL (eV true 0)) (gN true 2) (sSetN true 1 (eOp gAdd (vV true 1) (eComp [3] (asL (vV true 1)) (gN true 3) eYes (eOp gAdd (vV true 3) (eLst (eCons (eV true 2) eNil)))))) [.sh (eS names), .sh (eSS [[]]), .un, .un] (0, 0) = some (.nx, ρ', (0, 0)) ∧ ρ' = [.sh (eS names), .sh (eSS (allT names)), x, y] ∧ (allT names).length ≤ 2 ^ 20 := by
  have big : 2 ^ 22 ≤ sizeLine := by decide
  refine Exists.elim (sFor_invN (τ := List Lot) (enc := PyData.str) (xs := names) (it := asL (eV true 0)) (tgt := gN true 2) (P := (0, 0)) (P0 := (0, 0)) (ρ := [.sh (eS names), .sh (eSS [[]]), .un, .un]) (st := [[]])
    (body := sSetN true 1 (eOp gAdd (vV true 1) (eComp [3] (asL (vV true 1)) (gN true 3) eYes (eOp gAdd (vV true 3) (eLst (eCons (eV true 2) eNil))))))
    (step := addN) (I := fun n lots ρ => ∃ (x y : DV), ρ = [.sh (eS names), .sh (eSS lots), x, y] ∧ n ≤ names.length ∧ lots.length = 2 ^ (names.length - n) ∧ ∀ l ∈ lots, l.length ≤ names.length - n)
    (asL_eq rfl) ⟨.un, .un, rfl, Nat.le_refl _, by simp, by simp⟩ (fun n lots ρ nm hm ⟨x, y, e, hk, hlen, hl⟩ => ?step)) (fun ρ' ⟨q, x, y, er, _, hlen, _⟩ => ⟨ρ', x, y, q, er, ?fin⟩)
  case fin =>
    rw [show allT names = names.foldl addN [[]] from rfl, hlen]
    exact pow_le (by omega)
  case step =>
    subst e
    have h2 : lots.length ≤ 2 ^ 20 := by rw [hlen]; exact pow_le (by omega)
    refine ⟨_, _, rfl, turn_all (own := []) (x := x) (by omega) (fun l h => by have := hl l h; omega), .sh (.str nm), y, rfl, by omega, ?_, ?_⟩
    · rw [addN_len, hlen, show names.length - n = (names.length - (n + 1)) + 1 by omega, Nat.pow_succ, Nat.mul_comm]
    · intro l h
      unfold addN at h
      rcases List.mem_append.mp h with h | h
      · have := hl l h; omega
      · obtain ⟨l', h', rfl⟩ := List.mem_map.mp h
        have := hl l' h'
        simp
        omega
theorem s_lawall (names : Lot) (hn : names.length ≤ 20) : s__law_all_lots [eS names] = some (eSS (allT names)) := by
  obtain ⟨ρ', x, y, q, e, _⟩ := all_inv names hn
  subst e
  have h0 : sSetN true 1 (eLst (eCons (eLst eNil) eNil)) [.sh (eS names), .un, .un, .un] (0, 0) = some (.nx, [.sh (eS names), .sh (eSS [[]]), .un, .un], (0, 0)) := sSetN_eq (eLst_eq (eCons_eq (eLst_eq eNil_eq (Nat.zero_le _)) eNil_eq) (show (1:Nat) ≤ sizeLine by decide))
  show resD (g__law_all_lots [.sh (eS names), .un, .un, .un] (0, 0)) = _
  unfold g__law_all_lots
  rw [sSeq_nx h0 (sSeq_nx q (sRet_eq (d := eSS (allT names)) (P1 := (0, 0)) rfl))]
  rfl
theorem s_all (names : Lot) (hn : names.length ≤ 20) : s_all_lots [eS names] = some (eSS (bySize (allT names))) := by
  obtain ⟨ρ', x, y, q, e, _⟩ := all_inv names hn
  subst e
  have h0 : sSetN true 1 (eLst (eCons (eLst eNil) eNil)) [.sh (eS names), .un, .un, .un] (0, 0) = some (.nx, [.sh (eS names), .sh (eSS [[]]), .un, .un], (0, 0)) := sSetN_eq (eLst_eq (eCons_eq (eLst_eq eNil_eq (Nat.zero_le _)) eNil_eq) (show (1:Nat) ≤ sizeLine by decide))
  show resD (g_all_lots [.sh (eS names), .un, .un, .un] (0, 0)) = _
  unfold g_all_lots
  rw [sSeq_nx h0 (sSeq_nx q (sRet_eq (d := eSS (bySize (allT names))) (P1 := (0, 0)) (eCall1 rfl (s_bysize _))))]
  rfl
theorem all_len (names : Lot) (hn : names.length ≤ 20) : (allT names).length ≤ 2 ^ 20 := let ⟨_, _, _, _, _, h⟩ := all_inv names hn; h
end W62

/-! part M62d -/
set_option Elab.async false
set_option linter.all false
set_option maxRecDepth 100000
set_option maxHeartbeats 4000000
namespace W62
open PySem PySem.Spec PyProof.Rows L2 PD
def grownT (lot other : Lot) : List Lot := if shT lot other = true then [lot] else other.map fun n => sortN (lot ++ [n])
theorem s_grownE (lot other : Lot) (h1 : lot.length + 1 ≤ sizeLine) (h2 : other.length ≤ sizeLine) : s_grown [eS lot, eS other] = some (eSS (grownT lot other)) := by
  have hc : asB (eCall 2 s_shares_name (eCons (eV true 0) (eCons (eV true 1) eNil))) [.sh (eS lot), .sh (eS other), .un] (0, 0) = some (shT lot other, (0, 0)) := asB_eq (eCall2 rfl rfl (s_shares lot other))
  show resD (g_grown [.sh (eS lot), .sh (eS other), .un] (0, 0)) = _
  unfold g_grown grownT
  cases hb : shT lot other with
  | true =>
    rw [hb] at hc
    have q := sRet_eq (ρ := [.sh (eS lot), .sh (eS other), .un]) (P := (0, 0)) (eLst_eq (g := eCons (eV true 0) eNil) (eCons_eq (d := eS lot) (P1 := (0, 0)) rfl eNil_eq) (show (1:Nat) ≤ sizeLine by decide))
    rw [sSeq_rt (sIf_t hc q)]; rfl
  | false =>
    rw [hb] at hc
    have q : eComp [2] (asL (vV true 1)) (gN true 2) eYes (eFn gSorted (eCons (eOp gAdd (vV true 0) (eLst (eCons (eV true 2) eNil))) eNil)) [.sh (eS lot), .sh (eS other), .un] (0, 0) = some (.list (other.map fun n => eS (sortN (lot ++ [n]))), (0, 0)) :=
      eComp_all (enc := PyData.str) (xs := other) (asL_eq rfl) (fun n hn => ⟨_, rfl, eFn1 (eOp_eq rfl (eLst_eq (eCons_eq rfl eNil_eq) (show (1:Nat) ≤ sizeLine by decide)) (gAdd_S lot [n] (by simpa using h1))) (sorted_S _)⟩) h2
    rw [sSeq_nx (sIf_f hc rfl) (sRet_eq q), if_neg Bool.false_ne_true]
    show some (PyData.list _) = some (PyData.list _)
    rw [List.map_map]; rfl
theorem grown_len (lot other : Lot) : (grownT lot other).length ≤ max 1 other.length := by
  unfold grownT
  split
  · simp; omega
  · simp; omega
def madeT (found : List Lot) (lot : Lot) : List Lot := found.foldl (fun made one => made ++ grownT one lot) []
def lhStep (found : List Lot) (lot : Lot) : List Lot := leastT (madeT found lot)
def lhT (fam : List Lot) : List Lot := fam.foldl lhStep [[]]
theorem made_turn {fam : List Lot} {found : List Lot} {lot : Lot} {u : DV} (h1 : found.length ≤ 1024) (h2 : ∀ l ∈ found, l.length ≤ 1024) (h3 : lot.length ≤ 1024) :
    ∃ ρ' y, sFor (asL (eV true 1)) (gN true 4) (sSetN false 3 (eOp gAdd (vV false 3) (eCall 2 s_grown (eCons (eV false 4) (eCons (eV false 2) eNil))))) [.lk (eSS fam), .sh (eSS found), .lk (eS lot), .lk (eSS []), u] (0, 0) = some (.nx, ρ', (0, 0)) ∧ ρ' = [.lk (eSS fam), .sh (eSS found), .lk (eS lot), .lk (eSS (madeT found lot)), y] ∧ (madeT found lot).length ≤ 1024 * 1024 := by
  have big : 2 ^ 23 ≤ sizeLine := by decide
  refine Exists.elim (sFor_invN (τ := List Lot) (enc := eS) (xs := found) (it := asL (eV true 1)) (tgt := gN true 4) (P := (0, 0)) (P0 := (0, 0)) (ρ := [.lk (eSS fam), .sh (eSS found), .lk (eS lot), .lk (eSS []), u]) (st := [])
    (body := sSetN false 3 (eOp gAdd (vV false 3) (eCall 2 s_grown (eCons (eV false 4) (eCons (eV false 2) eNil)))))
    (step := fun made one => made ++ grownT one lot) (I := fun n made ρ => ∃ (y : DV), ρ = [.lk (eSS fam), .sh (eSS found), .lk (eS lot), .lk (eSS made), y] ∧ made.length + 1024 * n ≤ 1024 * 1024)
    (asL_eq rfl) ⟨u, rfl, by simp; omega⟩ (fun n made ρ one hm ⟨y, e, hk⟩ => ?step)) (fun ρ' ⟨q, y, er, hk⟩ => ⟨ρ', y, q, er, hk⟩)
  case step =>
    subst e
    have hg := grown_len one lot
    refine ⟨_, _, rfl, sSetN_eq (eOp_eq rfl (eCall2 rfl rfl (s_grownE one lot (by have := h2 one hm; omega) (by omega))) (gAdd_SS _ _ (by omega))), .sh (eS one), rfl, ?_⟩
    rw [List.length_append]
    omega
theorem s_lh (I0 : List Lot → Prop) (i0 : I0 [[]]) (hI : ∀ found, I0 found → found.length ≤ 1024 ∧ ∀ l ∈ found, l.length ≤ 1024) (fam : List Lot) (hf : ∀ lot ∈ fam, lot.length ≤ 1024) (hs : ∀ found lot, lot ∈ fam → I0 found → I0 (lhStep found lot)) :
    s_least_hitting [eSS fam] = some (eSS (lhT fam)) := by
  have big : 2 ^ 23 ≤ sizeLine := by decide
  have h0 : sSetN true 1 (eLst (eCons (eLst eNil) eNil)) [.lk (eSS fam), .un, .un, .un, .un] (0, 0) = some (.nx, [.lk (eSS fam), .sh (eSS [[]]), .un, .un, .un], (0, 0)) := sSetN_eq (eLst_eq (eCons_eq (eLst_eq eNil_eq (Nat.zero_le _)) eNil_eq) (show (1:Nat) ≤ sizeLine by decide))
  refine Exists.elim (sFor_inv (τ := List Lot) (enc := eS) (xs := fam) (it := asL (eV false 0)) (tgt := gN false 2) (P := (0, 0)) (P0 := (0, 0)) (ρ := [.lk (eSS fam), .sh (eSS [[]]), .un, .un, .un]) (st := [[]])
    (body := sSeq (sSetN false 3 (eLst eNil)) (sSeq (sFor (asL (eV true 1)) (gN true 4) (sSetN false 3 (eOp gAdd (vV false 3) (eCall 2 s_grown (eCons (eV false 4) (eCons (eV false 2) eNil)))))) (sSetN true 1 (eCall 1 s_least_of_lots (eCons (eV false 3) eNil)))))
    (step := lhStep) (I := fun found ρ => ∃ (x y z : DV), ρ = [.lk (eSS fam), .sh (eSS found), x, y, z] ∧ I0 found)
    (asL_eq rfl) ⟨.un, .un, .un, rfl, i0⟩ (fun found ρ lot hm ⟨x, y, z, e, hi⟩ => ?step)) (fun ρ' ⟨q, x, y, z, er, hi⟩ => ?fin)
  case fin =>
    subst er
    show resD (g_least_hitting [.lk (eSS fam), .un, .un, .un, .un] (0, 0)) = _
    unfold g_least_hitting
    rw [sSeq_nx h0 (sSeq_nx q (sRet_eq (d := eSS (lhT fam)) (P1 := (0, 0)) rfl))]
    rfl
  case step =>
    subst e
    obtain ⟨h1, h2⟩ := hI found hi
    obtain ⟨ρ', y', q, e, hl⟩ := made_turn (fam := fam) (found := found) (lot := lot) (u := z) h1 h2 (hf lot hm)
    subst e
    have h3 : sSetN false 3 (eLst eNil) [.lk (eSS fam), .sh (eSS found), .lk (eS lot), y, z] (0, 0) = some (.nx, [.lk (eSS fam), .sh (eSS found), .lk (eS lot), .lk (eSS []), z], (0, 0)) := sSetN_eq (eLst_eq eNil_eq (Nat.zero_le _))
    refine ⟨_, _, rfl, sSeq_nx h3 (sSeq_nx q (sSetN_eq (eCall1 rfl (s_least (madeT found lot) (by omega))))), .lk (eS lot), .lk (eSS (madeT found lot)), y', rfl, hs found lot hm hi⟩
theorem s_thin (fam : List Lot) (hl : fam.length < sizeLine) : s_thinned_family [eSS fam] = some (eSS (leastT fam)) := by
  show resD (g_thinned_family [.sh (eSS fam)] (0, 0)) = _
  unfold g_thinned_family
  rw [sRet_eq (d := eSS (leastT fam)) (P1 := (0, 0)) (eCall1 rfl (s_least fam hl))]; rfl
theorem s_plain (fam : List Lot) (h1 : (setOfS fam.flatten).length + 1 < 4096) (h2 : (namesT fam).length ≤ 20) : s_least_hitting_plain [eSS fam] = some (eSS (leastT ((bySize (allT (namesT fam))).filter fun l => hitT l fam))) := by
  have big : 2 ^ 23 ≤ sizeLine := by decide
  have hlen := all_len _ h2
  have hl : (bySize (allT (namesT fam))).length ≤ 2 ^ 20 := by rw [bySize_len]; exact hlen
  have q : eComp [1] (asL (eCall 1 s_all_lots (eCons (eCall 1 s_names_of_family (eCons (eV true 0) eNil)) eNil))) (gN true 1) (asB (eCall 2 s_hits (eCons (eV true 1) (eCons (eV true 0) eNil)))) (eV true 1) [.sh (eSS fam), .un] (0, 0) = some (eSS ((bySize (allT (namesT fam))).filter fun l => hitT l fam), (0, 0)) :=
    eComp_map (enc := eS) (xs := bySize (allT (namesT fam))) (t := fun l => hitT l fam) (e := eS) (asL_eq (eCall1 (eCall1 rfl (s_names fam h1)) (s_all _ h2))) (fun l hl => ⟨_, rfl, asB_eq (eCall2 rfl rfl (s_hitsE l fam)), fun _ => rfl⟩) (by omega)
  show resD (g_least_hitting_plain [.sh (eSS fam), .un] (0, 0)) = _
  unfold g_least_hitting_plain
  rw [sRet_eq (eCall1 q (s_least _ (Nat.lt_of_le_of_lt (Nat.le_trans (List.length_filter_le _ _) hl) (by decide))))]; rfl
end W62

/-! part M62m -/
set_option Elab.async false
set_option linter.all false
set_option maxRecDepth 100000
set_option maxHeartbeats 4000000
/-! least hitting lots: the mathematics; own work -/
namespace W62
open PySem PySem.Spec PyProof.Rows L2 PD

/-! ### the orders -/
abbrev cp (s : Str) : List Nat := s.cps.toList
theorem cp_inj {a b : Str} (h : cp a = cp b) : a = b := PySem.W.str_of_cps h
theorem leN_eq (a b : Str) : leN a b = decide (cp a ≤ cp b) := by
  show PySem.W.dataLe false (fun b => PyData.str (id b)) a b = _
  rw [PySem.W.dataLe_str]; rfl
theorem leN_trans (a b c : Str) (h1 : leN a b = true) (h2 : leN b c = true) : leN a c = true := by
  rw [leN_eq, decide_eq_true_eq] at *
  exact List.le_trans h1 h2
theorem leN_total (a b : Str) : (leN a b || leN b a) = true := by
  rw [leN_eq, leN_eq]
  rcases List.le_total (cp a) (cp b) with h | h <;> simp [h]
theorem leN_anti {a b : Str} (h1 : leN a b = true) (h2 : leN b a = true) : a = b := by
  rw [leN_eq, decide_eq_true_eq] at *
  exact cp_inj (List.le_antisymm h1 h2)
theorem rowLt_strs : ∀ xs ys : Lot, PySem.W.rowLt (xs.map .str) (ys.map .str) = decide (xs.map cp < ys.map cp)
  | [], [] => by
    have e : PySem.W.rowLt [] [] = false := PyProof.Rows.lex_irrefl _
    simp [e]
  | [], y :: ys => by
    have e : PySem.W.rowLt [] (PyData.str y :: ys.map .str) = true := by
      unfold PySem.W.rowLt
      rw [PySem.W.toks_all_cons]
      simp only [PySem.W.keyToksAll]
      rw [PyProof.Rows.lex_diff (O := PyProof.Rows.itemOrd) (by simp)]
      rfl
    simpa using e
  | x :: xs, [] => by
    have e : PySem.W.rowLt (PyData.str x :: xs.map .str) [] = false := by
      unfold PySem.W.rowLt
      rw [PySem.W.toks_all_cons]
      simp only [PySem.W.keyToksAll]
      rw [PyProof.Rows.lex_diff (O := PyProof.Rows.itemOrd) (by simp)]
      rfl
    simpa using e
  | x :: xs, y :: ys => by
    have e : PySem.W.rowLt (PyData.str x :: xs.map .str) (PyData.str y :: ys.map .str) = if x = y then PySem.W.rowLt (xs.map .str) (ys.map .str) else decide (cp x < cp y) := by
      unfold PySem.W.rowLt
      rw [PySem.W.dataLt_cons (by simp [PySem.W.alike]), PySem.W.dataLt_str]
      simp only [PyData.eqv, beq_iff_eq]
    show PySem.W.rowLt (PyData.str x :: xs.map .str) (PyData.str y :: ys.map .str) = _
    rw [e, List.map_cons, List.map_cons]
    by_cases h : x = y
    · rw [if_pos h, rowLt_strs xs ys]
      simp [h, List.cons_lt_cons_iff]
    · rw [if_neg h]
      have h' : ¬ cp x = cp y := fun q => h (cp_inj q)
      simp [h', List.cons_lt_cons_iff]
theorem dataLt_S (a b : Lot) : PySem.W.dataLt (eS a) (eS b) = decide (a.map cp < b.map cp) := by
  rw [PySem.W.dataLt_list]
  exact rowLt_strs a b
theorem leS_eq (a b : Lot) : leS a b = decide (a.map cp ≤ b.map cp) := by
  show (!PySem.W.dataLt (eS b) (eS a)) = _
  rw [dataLt_S]
  by_cases h : b.map cp < a.map cp
  · have h' : ¬ a.map cp ≤ b.map cp := fun r => List.not_lt.mpr r h
    simp [h, h']
  · have h' : a.map cp ≤ b.map cp := List.not_lt.mp h
    simp [h, h']
theorem leS_trans (a b c : Lot) (h1 : leS a b = true) (h2 : leS b c = true) : leS a c = true := by
  rw [leS_eq, decide_eq_true_eq] at *
  exact List.le_trans h1 h2
theorem leS_total (a b : Lot) : (leS a b || leS b a) = true := by
  rw [leS_eq, leS_eq]
  rcases List.le_total (a.map cp) (b.map cp) with h | h <;> simp [h]
theorem map_cp_inj : ∀ {a b : Lot}, a.map cp = b.map cp → a = b
  | [], [], _ => rfl
  | [], _ :: _, h => by simp at h
  | _ :: _, [], h => by simp at h
  | x :: a, y :: b, h => by
    simp only [List.map_cons, List.cons.injEq] at h
    rw [cp_inj h.1, map_cp_inj h.2]
theorem leS_anti {a b : Lot} (h1 : leS a b = true) (h2 : leS b a = true) : a = b := by
  rw [leS_eq, decide_eq_true_eq] at *
  exact map_cp_inj (List.le_antisymm h1 h2)
theorem leK_eq (a b : Lot) : leK a b = decide (a.length < b.length ∨ (a.length = b.length ∧ a.map cp ≤ b.map cp)) := by
  show (!PySem.W.dataLt (keyD b) (keyD a)) = _
  unfold keyD
  rw [PySem.W.dataLt_pair (by simp [PySem.W.alike]) (alike_S b a), eqv_S, dataLt_S, PySem.W.dataLt_int]
  simp only [PyData.eqv, beq_iff_eq]
  by_cases h1 : b.length = a.length
  · rw [if_pos (by omega)]
    by_cases h2 : b = a
    · subst h2; simp
    · rw [if_neg (by simpa using h2)]
      by_cases h : b.map cp < a.map cp
      · have h' : ¬ a.map cp ≤ b.map cp := fun r => List.not_lt.mpr r h
        simp [h, h', h1]
      · have h' : a.map cp ≤ b.map cp := List.not_lt.mp h
        simp [h, h', h1]
  · rw [if_neg (by omega)]
    by_cases h : b.length < a.length
    · have h3 : ¬ (a.length < b.length ∨ (a.length = b.length ∧ a.map cp ≤ b.map cp)) := by omega
      simp only [h3, decide_false]
      simp; omega
    · have h3 : a.length < b.length := by omega
      simp [h3]; omega
theorem leK_trans (a b c : Lot) (h1 : leK a b = true) (h2 : leK b c = true) : leK a c = true := by
  rw [leK_eq, decide_eq_true_eq] at *
  rcases h1 with h1 | ⟨h1, g1⟩ <;> rcases h2 with h2 | ⟨h2, g2⟩
  · left; omega
  · left; omega
  · left; omega
  · exact .inr ⟨by omega, List.le_trans g1 g2⟩
theorem leK_total (a b : Lot) : (leK a b || leK b a) = true := by
  rw [leK_eq, leK_eq, Bool.or_eq_true, decide_eq_true_eq, decide_eq_true_eq]
  rcases Nat.lt_trichotomy a.length b.length with h | h | h
  · exact .inl (.inl h)
  · rcases List.le_total (a.map cp) (b.map cp) with g | g
    · exact .inl (.inr ⟨h, g⟩)
    · exact .inr (.inr ⟨h.symm, g⟩)
  · exact .inr (.inl h)
theorem leK_len {a b : Lot} (h : leK a b = true) : a.length ≤ b.length := by
  rw [leK_eq, decide_eq_true_eq] at h
  omega
/-- two ordered rows with the same members, each once, are one -/
theorem eq_of_sorted {α : Type} {le : α → α → Bool} (anti : ∀ {a b}, le a b = true → le b a = true → a = b) : ∀ {l1 l2 : List α}, l1.Pairwise (fun a b => le a b = true) → l2.Pairwise (fun a b => le a b = true) → l1.Nodup → l2.Nodup → (∀ x, x ∈ l1 ↔ x ∈ l2) → l1 = l2
  | [], [], _, _, _, _, _ => rfl
  | [], y :: l2, _, _, _, _, h => by have := (h y).mpr (List.mem_cons_self ..); cases this
  | x :: l1, [], _, _, _, _, h => by have := (h x).mp (List.mem_cons_self ..); cases this
  | x :: l1, y :: l2, p1, p2, n1, n2, h => by
    rw [List.pairwise_cons] at p1 p2
    rw [List.nodup_cons] at n1 n2
    have e : x = y := by
      rcases List.mem_cons.mp ((h x).mp (List.mem_cons_self ..)) with e | e
      · exact e
      · rcases List.mem_cons.mp ((h y).mpr (List.mem_cons_self ..)) with e' | e'
        · exact e'.symm
        · exact anti (p1.1 y e') (p2.1 x e)
    subst e
    rw [eq_of_sorted anti p1.2 p2.2 n1.2 n2.2 fun z => ?_]
    constructor
    · intro hz
      rcases List.mem_cons.mp ((h z).mp (List.mem_cons_of_mem _ hz)) with e | e
      · subst e; exact absurd hz n1.1
      · exact e
    · intro hz
      rcases List.mem_cons.mp ((h z).mpr (List.mem_cons_of_mem _ hz)) with e | e
      · subst e; exact absurd hz n2.1
      · exact e
end W62

/-! part M62n -/
set_option Elab.async false
set_option linter.all false
set_option maxRecDepth 100000
set_option maxHeartbeats 4000000
/-! least lots, least hitting lots; own work -/
namespace W62
open PySem PySem.Spec PyProof.Rows L2 PD

/-! ### rising lots -/
def ltN (a b : Str) : Prop := leN a b = true ∧ a ≠ b
theorem ltN_trans {a b c : Str} (h1 : ltN a b) (h2 : ltN b c) : ltN a c := ⟨leN_trans a b c h1.1 h2.1, fun e => by subst e; exact h1.2 (leN_anti h1.1 h2.1)⟩
def Can (l : Lot) : Prop := l.Pairwise ltN
theorem Can.nodup {l : Lot} (h : Can l) : l.Nodup := List.Pairwise.imp (fun h => h.2) h
theorem Can.le {l : Lot} (h : Can l) : l.Pairwise (fun a b => leN a b = true) := List.Pairwise.imp (fun h => h.1) h
theorem can_of {l : Lot} (h : l.Pairwise (fun a b => leN a b = true)) (n : l.Nodup) : Can l := List.Pairwise.and h n
theorem Can.eq {a b : Lot} (ha : Can a) (hb : Can b) (h : ∀ x, x ∈ a ↔ x ∈ b) : a = b := eq_of_sorted (le := leN) leN_anti ha.le hb.le ha.nodup hb.nodup h
theorem Can.sub {a b : Lot} (hb : Can b) (h : a.Sublist b) : Can a := List.Pairwise.sublist h hb
theorem sortN_mem {l : Lot} {x : Str} : x ∈ sortN l ↔ x ∈ l := (List.mergeSort_perm l _).mem_iff
theorem sortS_mem {l : List Lot} {x : Lot} : x ∈ sortS l ↔ x ∈ l := (List.mergeSort_perm l _).mem_iff
theorem bySize_mem {l : List Lot} {x : Lot} : x ∈ bySize l ↔ x ∈ l := (List.mergeSort_perm l _).mem_iff
theorem sortN_le (l : Lot) : (sortN l).Pairwise (fun a b => leN a b = true) := List.pairwise_mergeSort leN_trans leN_total l
theorem sortS_le (l : List Lot) : (sortS l).Pairwise (fun a b => leS a b = true) := List.pairwise_mergeSort leS_trans leS_total l
theorem bySize_le (l : List Lot) : (bySize l).Pairwise (fun a b => leK a b = true) := List.pairwise_mergeSort leK_trans leK_total l
theorem sortN_nodup {l : Lot} (h : l.Nodup) : (sortN l).Nodup := (List.mergeSort_perm l _).nodup_iff.mpr h
theorem sortS_nodup {l : List Lot} (h : l.Nodup) : (sortS l).Nodup := (List.mergeSort_perm l _).nodup_iff.mpr h
theorem sortN_can {l : Lot} (h : l.Nodup) : Can (sortN l) := can_of (sortN_le l) (sortN_nodup h)
theorem insS_mem {L : List Str} {x y : Str} : y ∈ insS L x ↔ y ∈ L ∨ y = x := by
  unfold insS
  split
  · rename_i h
    constructor
    · exact .inl
    · rintro (h' | rfl)
      · exact h'
      · exact h
  · rw [List.mem_cons]
    constructor
    · rintro (h | h)
      · exact .inr h
      · exact .inl h
    · rintro (h | h)
      · exact .inr h
      · exact .inl h
theorem insS_nodup {L : List Str} (h : L.Nodup) (x : Str) : (insS L x).Nodup := by
  unfold insS
  split
  · exact h
  · rename_i n; exact List.nodup_cons.mpr ⟨n, h⟩
theorem setOf_aux : ∀ (l L : List Str), L.Nodup → (l.foldl insS L).Nodup ∧ ∀ y, y ∈ l.foldl insS L ↔ y ∈ L ∨ y ∈ l
  | [], L, h => ⟨h, fun y => by simp⟩
  | x :: l, L, h => by
    obtain ⟨h1, h2⟩ := setOf_aux l (insS L x) (insS_nodup h x)
    refine ⟨h1, fun y => ?_⟩
    rw [List.foldl_cons, h2 y, insS_mem, List.mem_cons]
    constructor
    · rintro ((h | h) | h)
      · exact .inl h
      · exact .inr (.inl h)
      · exact .inr (.inr h)
    · rintro (h | h | h)
      · exact .inl (.inl h)
      · exact .inl (.inr h)
      · exact .inr h
theorem setOf_nodup (l : List Str) : (setOfS l).Nodup := (setOf_aux l [] List.nodup_nil).1
theorem setOf_mem {l : List Str} {y : Str} : y ∈ setOfS l ↔ y ∈ l := by
  unfold setOfS
  rw [(setOf_aux l [] List.nodup_nil).2 y]
  simp
theorem names_can (fam : List Lot) : Can (namesT fam) := sortN_can (setOf_nodup _)
theorem names_mem {fam : List Lot} {x : Str} : x ∈ namesT fam ↔ ∃ o ∈ fam, x ∈ o := by
  unfold namesT
  rw [sortN_mem, setOf_mem, List.mem_flatten]

/-! ### within, sharing -/
theorem inT_iff {a b : Lot} : inT a b = true ↔ ∀ x ∈ a, x ∈ b := by
  unfold inT
  rw [List.all_eq_true]
  simp
theorem shT_iff {a b : Lot} : shT a b = true ↔ ∃ x ∈ a, x ∈ b := by
  unfold shT
  rw [List.any_eq_true]
  simp
theorem hitT_iff {a : Lot} {fam : List Lot} : hitT a fam = true ↔ ∀ o ∈ fam, ∃ x ∈ a, x ∈ o := by
  unfold hitT
  rw [List.all_eq_true]
  constructor
  · exact fun h o ho => shT_iff.mp (h o ho)
  · exact fun h o ho => shT_iff.mpr (h o ho)
theorem inT_refl (a : Lot) : inT a a = true := inT_iff.mpr fun _ h => h
theorem inT_trans {a b c : Lot} (h1 : inT a b = true) (h2 : inT b c = true) : inT a c = true := inT_iff.mpr fun x hx => inT_iff.mp h2 x (inT_iff.mp h1 x hx)
theorem inT_anti {a b : Lot} (ha : Can a) (hb : Can b) (h1 : inT a b = true) (h2 : inT b a = true) : a = b := ha.eq hb fun x => ⟨inT_iff.mp h1 x, inT_iff.mp h2 x⟩
theorem nodup_len : ∀ {a b : Lot}, a.Nodup → (∀ x ∈ a, x ∈ b) → a.length ≤ b.length
  | [], _, _, _ => Nat.zero_le _
  | x :: a, b, n, h => by
    rw [List.nodup_cons] at n
    have hx := h x (List.mem_cons_self ..)
    have ih := nodup_len (a := a) (b := b.erase x) n.2 fun y hy => (List.mem_erase_of_ne fun e => n.1 (by rw [← e]; exact hy)).mpr (h y (List.mem_cons_of_mem _ hy))
    rw [List.length_erase_of_mem hx] at ih
    have : 0 < b.length := List.length_pos_of_mem hx
    simp only [List.length_cons]
    omega
theorem nodup_lenL : ∀ {a b : List Lot}, a.Nodup → (∀ x ∈ a, x ∈ b) → a.length ≤ b.length
  | [], _, _, _ => Nat.zero_le _
  | x :: a, b, n, h => by
    rw [List.nodup_cons] at n
    have hx := h x (List.mem_cons_self ..)
    have ih := nodup_lenL (a := a) (b := b.erase x) n.2 fun y hy => (List.mem_erase_of_ne fun e => n.1 (by rw [← e]; exact hy)).mpr (h y (List.mem_cons_of_mem _ hy))
    rw [List.length_erase_of_mem hx] at ih
    have : 0 < b.length := List.length_pos_of_mem hx
    simp only [List.length_cons]
    omega
/-- within and not shorter: the same -/
theorem same_of_len {a b : Lot} (ha : Can a) (hb : Can b) (h : inT a b = true) (hl : b.length ≤ a.length) : a = b := by
  refine inT_anti ha hb h (inT_iff.mpr fun x hx => ?_)
  by_cases hxa : x ∈ a
  · exact hxa
  · have := nodup_len (a := x :: a) (b := b) (List.nodup_cons.mpr ⟨hxa, ha.nodup⟩) fun y hy => by
      rcases List.mem_cons.mp hy with e | e
      · rw [e]; exact hx
      · exact inT_iff.mp h y e
    simp only [List.length_cons] at this
    omega

/-! ### the least ones -/
/-- what the fold keeps of a row that goes up by size -/
theorem fold_inv : ∀ (l p k : List Lot), (∀ x ∈ p ++ l, Can x) → (p ++ l).Pairwise (fun a b => leK a b = true) → (∀ x ∈ k, x ∈ p) → (∀ x ∈ p, ∃ y ∈ k, inT y x = true) → k.Pairwise (fun a b => inT a b = false ∧ a.length ≤ b.length) →
    let r := l.foldl minStep k
    (∀ x ∈ r, x ∈ p ++ l) ∧ (∀ x ∈ p ++ l, ∃ y ∈ r, inT y x = true) ∧ r.Pairwise (fun a b => inT a b = false ∧ a.length ≤ b.length)
  | [], p, k, _, _, h1, h2, h3 => ⟨fun x hx => by simpa using h1 x hx, fun x hx => h2 x (by simpa using hx), h3⟩
  | x :: l, p, k, hc, hp, h1, h2, h3 => by
    have e : p ++ x :: l = (p ++ [x]) ++ l := by simp
    rw [e] at hc hp ⊢
    have hpx : ∀ y ∈ p, leK y x = true := fun y hy => by
      have := (List.pairwise_append.mp (List.pairwise_append.mp hp).1).2.2 y hy x (List.mem_singleton_self x)
      exact this
    refine fold_inv l (p ++ [x]) (minStep k x) hc hp ?_ ?_ ?_
    · intro y hy
      unfold minStep at hy
      split at hy
      · exact List.mem_append_left _ (h1 y hy)
      · rcases List.mem_append.mp hy with h | h
        · exact List.mem_append_left _ (h1 y h)
        · exact List.mem_append_right _ h
    · intro y hy
      unfold minStep
      rcases List.mem_append.mp hy with h | h
      · obtain ⟨z, hz, hzy⟩ := h2 y h
        refine ⟨z, ?_, hzy⟩
        split
        · exact hz
        · exact List.mem_append_left _ hz
      · rw [List.mem_singleton.mp h]
        split
        · rename_i ha
          obtain ⟨z, hz, hzx⟩ := List.any_eq_true.mp ha
          exact ⟨z, hz, hzx⟩
        · exact ⟨x, List.mem_append_right _ (List.mem_singleton_self x), inT_refl x⟩
    · unfold minStep
      split
      · exact h3
      · rename_i ha
        rw [List.pairwise_append]
        refine ⟨h3, List.pairwise_singleton _ _, fun a hak b hb => ?_⟩
        rw [List.mem_singleton.mp hb]
        refine ⟨?_, leK_len (hpx a (h1 a hak))⟩
        cases q : inT a x with
        | false => rfl
        | true => exact absurd (List.any_eq_true.mpr ⟨a, hak, q⟩) ha
theorem pair_cases {α : Type} {R : α → α → Prop} : ∀ {l : List α}, l.Pairwise R → ∀ {a b : α}, a ∈ l → b ∈ l → a = b ∨ R a b ∨ R b a
  | [], _, _, _, h, _ => by cases h
  | x :: l, p, a, b, ha, hb => by
    rw [List.pairwise_cons] at p
    rcases List.mem_cons.mp ha with ea | ha <;> rcases List.mem_cons.mp hb with eb | hb
    · exact .inl (ea.trans eb.symm)
    · exact .inr (.inl (ea ▸ p.1 b hb))
    · exact .inr (.inr (eb ▸ p.1 a ha))
    · exact pair_cases p.2 ha hb
/-- the least ones of l, each once, in order -/
structure IsLeast (l r : List Lot) : Prop where
  sub : ∀ x ∈ r, x ∈ l
  cov : ∀ x ∈ l, ∃ y ∈ r, inT y x = true
  anti : ∀ x ∈ r, ∀ y ∈ r, inT x y = true → x = y
  nd : r.Nodup
  srt : r.Pairwise fun a b => leS a b = true
theorem least_is {l : List Lot} (hc : ∀ x ∈ l, Can x) : IsLeast l (leastT l) := by
  obtain ⟨h1, h2, h3⟩ := fold_inv (bySize l) [] [] (fun x hx => hc x (bySize_mem.mp (by simpa using hx))) (by simpa using bySize_le l) (fun x hx => by cases hx) (fun x hx => by cases hx) List.Pairwise.nil
  have m1 : ∀ x ∈ (bySize l).foldl minStep [], x ∈ l := fun x hx => bySize_mem.mp (by simpa using h1 x hx)
  refine ⟨fun x hx => m1 x (sortS_mem.mp hx), fun x hx => ?_, fun x hx y hy hxy => ?_, sortS_nodup ?_, sortS_le _⟩
  · obtain ⟨y, hy, hyx⟩ := h2 x (by simpa using bySize_mem.mpr hx)
    exact ⟨y, sortS_mem.mpr hy, hyx⟩
  · have hx := sortS_mem.mp hx
    have hy := sortS_mem.mp hy
    rcases pair_cases h3 hx hy with e | ⟨n, _⟩ | ⟨_, l⟩
    · exact e
    · rw [hxy] at n; cases n
    · exact same_of_len (hc x (m1 x hx)) (hc y (m1 y hy)) hxy l
  · exact List.Pairwise.imp (fun {a b} h e => by subst e; rw [inT_refl] at h; cases h.1) h3
/-- r is the row of all least lots that hit fam -/
structure IsTr (fam r : List Lot) : Prop where
  can : ∀ x ∈ r, Can x
  hit : ∀ x ∈ r, hitT x fam = true
  cov : ∀ y, Can y → hitT y fam = true → ∃ x ∈ r, inT x y = true
  anti : ∀ x ∈ r, ∀ y ∈ r, inT x y = true → x = y
  nd : r.Nodup
  srt : r.Pairwise fun a b => leS a b = true
theorem IsTr.uniq {fam r q : List Lot} (h : IsTr fam r) (g : IsTr fam q) : r = q := by
  have key : ∀ {r q : List Lot}, IsTr fam r → IsTr fam q → ∀ x ∈ r, x ∈ q := fun {r q} h g x hx => by
    obtain ⟨y, hy, hyx⟩ := g.cov x (h.can x hx) (h.hit x hx)
    obtain ⟨z, hz, hzy⟩ := h.cov y (g.can y hy) (g.hit y hy)
    have e := h.anti z hz x hx (inT_trans hzy hyx)
    subst e
    rw [inT_anti (h.can z hz) (g.can y hy) hzy hyx]
    exact hy
  exact eq_of_sorted (le := leS) leS_anti h.srt g.srt h.nd g.nd fun x => ⟨key h g x, key g h x⟩
/-- from all candidates -/
theorem tr_of {fam l : List Lot} (hc : ∀ x ∈ l, Can x) (hh : ∀ x ∈ l, hitT x fam = true) (cov : ∀ y, Can y → hitT y fam = true → ∃ x ∈ l, inT x y = true) : IsTr fam (leastT l) := by
  have h := least_is hc
  refine ⟨fun x hx => hc x (h.sub x hx), fun x hx => hh x (h.sub x hx), fun y hy hyf => ?_, h.anti, h.nd, h.srt⟩
  obtain ⟨x, hx, hxy⟩ := cov y hy hyf
  obtain ⟨z, hz, hzx⟩ := h.cov x hx
  exact ⟨z, hz, inT_trans hzx hxy⟩
end W62

/-! part M62o -/
set_option Elab.async false
set_option linter.all false
set_option maxRecDepth 100000
set_option maxHeartbeats 4000000
/-! from all lots; one lot after the other; twice; own work -/
namespace W62
open PySem PySem.Spec PyProof.Rows L2 PD

/-! ### all lots of names -/
theorem addN_sub {lots : List Lot} {p : Lot} (n : Str) (h : ∀ x, x ∈ lots ↔ x.Sublist p) : ∀ x, x ∈ addN lots n ↔ x.Sublist (p ++ [n]) := fun x => by
  unfold addN
  constructor
  · intro hx
    rcases List.mem_append.mp hx with q | q
    · exact ((h x).mp q).trans (List.sublist_append_left p [n])
    · obtain ⟨y, hy, rfl⟩ := List.mem_map.mp q
      exact ((h y).mp hy).append (List.Sublist.refl [n])
  · intro hx
    obtain ⟨a, b, e, ha, hb⟩ := List.sublist_append_iff.mp hx
    subst e
    rcases List.sublist_cons_iff.mp hb with hb | ⟨r, e, hr⟩
    · rw [List.sublist_nil.mp hb, List.append_nil]
      exact List.mem_append_left _ ((h a).mpr ha)
    · rw [List.sublist_nil.mp hr] at e
      subst e
      exact List.mem_append_right _ (List.mem_map.mpr ⟨a, (h a).mpr ha, rfl⟩)
theorem fold_sub : ∀ (l p : Lot) (lots : List Lot), (∀ x, x ∈ lots ↔ x.Sublist p) → ∀ x, x ∈ l.foldl addN lots ↔ x.Sublist (p ++ l)
  | [], p, lots, h => by simpa using h
  | n :: l, p, lots, h => by
    have := fold_sub l (p ++ [n]) (addN lots n) (addN_sub n h)
    simpa using this
theorem all_iff (p x : Lot) : x ∈ allT p ↔ x.Sublist p := by
  have := fold_sub p [] [[]] (fun x => by rw [List.mem_singleton, List.sublist_nil]) x
  unfold allT
  simpa using this
theorem all_sub (p x : Lot) : x ∈ allT p → x.Sublist p := (all_iff p x).mp
theorem sub_all (p x : Lot) : x.Sublist p → x ∈ allT p := (all_iff p x).mpr
theorem can_sublist : ∀ {a b : Lot}, Can a → Can b → (∀ x ∈ a, x ∈ b) → a.Sublist b
  | [], b, _, _, _ => List.nil_sublist b
  | x :: a, [], _, _, h => by have := h x (List.mem_cons_self ..); cases this
  | x :: a, y :: b, ha, hb, h => by
    unfold Can at ha hb
    rw [List.pairwise_cons] at ha hb
    rcases List.mem_cons.mp (h x (List.mem_cons_self ..)) with e | e
    · subst e
      refine (can_sublist ha.2 hb.2 fun z hz => ?_).cons₂ x
      rcases List.mem_cons.mp (h z (List.mem_cons_of_mem _ hz)) with e | e
      · exact absurd e.symm (ha.1 z hz).2
      · exact e
    · refine (can_sublist (a := x :: a) (List.pairwise_cons.mpr ha) hb.2 fun z hz => ?_).cons y
      rcases List.mem_cons.mp hz with e' | hz'
      · rw [e']; exact e
      · rcases List.mem_cons.mp (h z hz) with e' | e'
        · subst e'
          exact absurd (leN_anti (ha.1 z hz').1 (hb.1 x e).1) (ha.1 z hz').2
        · exact e'
/-- the least ones of all lots of u that hit -/
theorem tr_all {fam l : List Lot} {u : Lot} (hu : Can u) (hf : ∀ o ∈ fam, ∀ x ∈ o, x ∈ u) (hl : ∀ x, x ∈ l ↔ x ∈ allT u) : IsTr fam (leastT (l.filter fun x => hitT x fam)) := by
  refine tr_of (fun x hx => ?_) (fun x hx => (List.mem_filter.mp hx).2) fun y hy hyf => ?_
  · exact hu.sub (all_sub u x ((hl x).mp (List.mem_filter.mp hx).1))
  · have hs : (u.filter fun x => decide (x ∈ y)).Sublist u := List.filter_sublist
    refine ⟨u.filter fun x => decide (x ∈ y), List.mem_filter.mpr ⟨(hl _).mpr (sub_all u _ hs), ?_⟩, inT_iff.mpr fun x hx => by simpa using (List.mem_filter.mp hx).2⟩
    rw [hitT_iff] at hyf ⊢
    intro o ho
    obtain ⟨x, hx, hxo⟩ := hyf o ho
    exact ⟨x, List.mem_filter.mpr ⟨hf o ho x hxo, by simpa using hx⟩, hxo⟩

/-! ### one lot after the other -/
theorem made_mem {found : List Lot} {lot x : Lot} : x ∈ madeT found lot ↔ ∃ o ∈ found, x ∈ grownT o lot := by
  have key : ∀ (l acc : List Lot), x ∈ l.foldl (fun made one => made ++ grownT one lot) acc ↔ x ∈ acc ∨ ∃ o ∈ l, x ∈ grownT o lot := by
    intro l
    induction l with
    | nil => intro acc; simp
    | cons o l ih =>
      intro acc
      rw [List.foldl_cons, ih, List.mem_append]
      simp only [List.mem_cons, exists_eq_or_imp]
      constructor
      · rintro ((h | h) | h)
        · exact .inl h
        · exact .inr (.inl h)
        · exact .inr (.inr h)
      · rintro (h | h | h)
        · exact .inl (.inl h)
        · exact .inl (.inr h)
        · exact .inr h
  unfold madeT
  rw [key]
  simp
theorem grown_mem {o lot x : Lot} (h : x ∈ grownT o lot) : (shT o lot = true ∧ x = o) ∨ (shT o lot = false ∧ ∃ n ∈ lot, x = sortN (o ++ [n])) := by
  unfold grownT at h
  split at h
  · rename_i hs; exact .inl ⟨hs, List.mem_singleton.mp h⟩
  · rename_i hs
    obtain ⟨n, hn, e⟩ := List.mem_map.mp h
    exact .inr ⟨by simpa using hs, n, hn, e.symm⟩
theorem hit_append {x : Lot} {fam : List Lot} {lot : Lot} : hitT x (fam ++ [lot]) = true ↔ hitT x fam = true ∧ shT x lot = true := by
  unfold hitT
  rw [List.all_append]
  simp
theorem tr_step {fam found : List Lot} {lot : Lot} (h : IsTr fam found) : IsTr (fam ++ [lot]) (lhStep found lot) := by
  unfold lhStep
  have grow : ∀ o ∈ found, ∀ n ∈ lot, shT o lot = false → Can (sortN (o ++ [n])) := fun o ho n hn hs => by
    refine sortN_can (List.nodup_append.mpr ⟨(h.can o ho).nodup, by simp, ?_⟩)
    intro a ha b hb e
    rw [List.mem_singleton.mp hb] at e
    subst e
    rw [shT_iff.mpr ⟨a, ha, hn⟩] at hs
    cases hs
  refine tr_of (fun x hx => ?_) (fun x hx => ?_) fun y hy hyf => ?_
  · obtain ⟨o, ho, hg⟩ := made_mem.mp hx
    rcases grown_mem hg with ⟨_, rfl⟩ | ⟨hs, n, hn, rfl⟩
    · exact h.can _ ho
    · exact grow o ho n hn hs
  · obtain ⟨o, ho, hg⟩ := made_mem.mp hx
    rcases grown_mem hg with ⟨hs, rfl⟩ | ⟨hs, n, hn, rfl⟩
    · exact hit_append.mpr ⟨h.hit _ ho, hs⟩
    · refine hit_append.mpr ⟨?_, shT_iff.mpr ⟨n, sortN_mem.mpr (List.mem_append_right _ (List.mem_singleton_self n)), hn⟩⟩
      have ht := h.hit o ho
      rw [hitT_iff] at ht ⊢
      intro q hq
      obtain ⟨z, hz, hzq⟩ := ht q hq
      exact ⟨z, sortN_mem.mpr (List.mem_append_left _ hz), hzq⟩
  · obtain ⟨h1, h2⟩ := hit_append.mp hyf
    obtain ⟨o, ho, hoy⟩ := h.cov y hy h1
    by_cases hs : shT o lot = true
    · refine ⟨o, made_mem.mpr ⟨o, ho, ?_⟩, hoy⟩
      unfold grownT
      rw [if_pos hs]
      exact List.mem_singleton_self o
    · obtain ⟨n, hny, hn⟩ := shT_iff.mp h2
      refine ⟨sortN (o ++ [n]), made_mem.mpr ⟨o, ho, ?_⟩, inT_iff.mpr fun x hx => ?_⟩
      · unfold grownT
        rw [if_neg hs]
        exact List.mem_map.mpr ⟨n, hn, rfl⟩
      · rcases List.mem_append.mp (sortN_mem.mp hx) with h | h
        · exact inT_iff.mp hoy x h
        · rw [List.mem_singleton.mp h]; exact hny
theorem tr_nil : IsTr [] [[]] := ⟨fun x hx => by rw [List.mem_singleton.mp hx]; exact List.Pairwise.nil, fun x _ => rfl, fun y _ _ => ⟨[], List.mem_singleton_self _, rfl⟩, fun x hx y hy _ => by rw [List.mem_singleton.mp hx, List.mem_singleton.mp hy], by simp, List.pairwise_singleton _ _⟩
theorem tr_fold : ∀ (l fam found : List Lot), IsTr fam found → IsTr (fam ++ l) (l.foldl lhStep found)
  | [], fam, found, h => by simpa using h
  | x :: l, fam, found, h => by
    have := tr_fold l (fam ++ [x]) (lhStep found x) (tr_step h)
    simpa using this
theorem tr_lh (fam : List Lot) : IsTr fam (lhT fam) := tr_fold fam [] [[]] tr_nil

/-! ### twice -/
theorem tr_dual {fam due : List Lot} (hc : ∀ x ∈ fam, Can x) (h : IsTr fam due) : IsTr due (leastT fam) := by
  refine tr_of hc (fun x hx => hitT_iff.mpr fun o ho => ?_) fun y hy hyd => ?_
  · obtain ⟨z, hz, hzx⟩ := hitT_iff.mp (h.hit o ho) x hx
    exact ⟨z, hzx, hz⟩
  · by_cases q : ∃ x ∈ fam, inT x y = true
    · exact q
    · exfalso
      have out : ∀ o ∈ fam, ∃ x ∈ (namesT fam).filter (fun x => !decide (x ∈ y)), x ∈ o := fun o ho => by
        by_cases r : ∃ x ∈ o, x ∉ y
        · obtain ⟨x, hx, hxy⟩ := r
          exact ⟨x, List.mem_filter.mpr ⟨names_mem.mpr ⟨o, ho, hx⟩, by simpa using hxy⟩, hx⟩
        · exact absurd ⟨o, ho, inT_iff.mpr fun x hx => Classical.byContradiction fun n => r ⟨x, hx, n⟩⟩ q
      obtain ⟨t, ht, htw⟩ := h.cov ((namesT fam).filter fun x => !decide (x ∈ y)) ((names_can fam).sub List.filter_sublist) (hitT_iff.mpr out)
      obtain ⟨x, hxy, hxt⟩ := hitT_iff.mp hyd t ht
      have := (List.mem_filter.mp (inT_iff.mp htw x hxt)).2
      simp [hxy] at this
end W62

/-! part M62p -/
set_option Elab.async false
set_option linter.all false
set_option maxRecDepth 100000
set_option maxHeartbeats 4000000
/-! names; families of any value; own work -/
namespace W62
open PySem PySem.Spec PyProof.Rows L2 PD

theorem sSeq_go {s1 s2 : Sv} {ρ ρ1 : En} {P P1 : Pt} (h : s1 ρ P = some (.nx, ρ1, P1)) : sSeq s1 s2 ρ P = s2 ρ1 P1 := by unfold sSeq; rw [h]
theorem eOrV_eq {f1 f2 : Ev Dt} {ρ : En} {P P1 : Pt} {a b : Bool} (h1 : f1 ρ P = some (.bool a, P1)) (h2 : f2 ρ P1 = some (.bool b, P1)) : eOrV f1 f2 ρ P = some (.bool (a || b), P1) := by
  unfold eOrV
  rw [h1]
  cases a with
  | true => rfl
  | false => exact h2
theorem gLt_int (a b : Int) : gLt (.int a) (.int b) = some (.bool (decide (a < b))) := by
  have e : cmpOk (.int a) (.int b) = true := by unfold cmpOk; rw [PySem.W.alike]; rfl
  unfold gLt
  rw [if_pos e, PySem.W.dataLt_int]
theorem gGt_int (a b : Int) : gGt (.int a) (.int b) = some (.bool (decide (b < a))) := by
  have e : cmpOk (.int a) (.int b) = true := by unfold cmpOk; rw [PySem.W.alike]; rfl
  unfold gGt
  rw [if_pos e, PySem.W.dataLt_int]
theorem gLe_int (a b : Int) : gLe (.int a) (.int b) = some (.bool (!decide (b < a))) := by
  have e : cmpOk (.int a) (.int b) = true := by unfold cmpOk; rw [PySem.W.alike]; rfl
  unfold gLe
  rw [if_pos e, PySem.W.dataLt_int]
theorem gEq_int (a b : Int) : gEq (.int a) (.int b) = some (.bool (decide (a = b))) := by
  have e : min (PyData.int a).depth (PyData.int b).depth ≤ dline := by simp [PyData.depth, dline]
  unfold gEq
  rw [if_pos e]
  show some (PyData.bool (a == b)) = _
  by_cases h : a = b <;> simp [h]
theorem gLt_str (a b : Str) : gLt (.str a) (.str b) = some (.bool (decide (cp a < cp b))) := by
  have e : cmpOk (.str a) (.str b) = true := by unfold cmpOk; rw [PySem.W.alike]; rfl
  unfold gLt
  rw [if_pos e, PySem.W.dataLt_str]
theorem gGe_str (a b : Str) : gGe (.str a) (.str b) = some (.bool (!decide (cp a < cp b))) := by
  have e : cmpOk (.str a) (.str b) = true := by unfold cmpOk; rw [PySem.W.alike]; rfl
  unfold gGe
  rw [if_pos e, PySem.W.dataLt_str]
theorem isi_eq {t : String} {f : Ev Dt} {ρ : En} {P P1 : Pt} {d : Dt} {k : Bool} (h : f ρ P = some (d, P1)) (hk : kitB (tyD d) t = some k) : eIsi t f ρ P = some (.bool k, P1) := by
  unfold eIsi
  rw [h]
  dsimp only
  rw [hk]

/-! ### signs -/
abbrev LTR : Str := "abcdefghijklmnopqrstuvwxyz"
abbrev DIG : Str := "0123456789"
abbrev LD : Str := "abcdefghijklmnopqrstuvwxyz0123456789"
theorem gIn_sg (c : Nat) (y : Str) : gIn (.str ⟨#[c]⟩) (.str y) = some (.bool (decide (c ∈ cp y))) := by
  show some (PyData.bool (strIn _ _)) = _
  unfold strIn
  rw [PySem.StrLaws.found_one]
theorem gNin_sg (c : Nat) (y : Str) : gNin (.str ⟨#[c]⟩) (.str y) = some (.bool (!decide (c ∈ cp y))) := by
  show some (PyData.bool (!strIn _ _)) = _
  unfold strIn
  rw [PySem.StrLaws.found_one]
theorem ld_eq : cp LD = cp LTR ++ cp DIG := by decide +kernel
def hdL : List Nat → Bool
  | c :: _ => decide (c ∈ cp LTR)
  | [] => false
def nameB (z : Str) : Bool := decide (1 ≤ z.length) && decide (z.length ≤ 8) && hdL (cp z) && (cp z).all fun c => decide (c ∈ cp LD)
def nameD : Dt → Bool
  | .str z => nameB z
  | _ => false
theorem len_cp (z : Str) : (cp z).length = z.length := by
  show z.cps.toList.length = z.cps.size
  simp
/-- short texts -/
def Fit1 (d : Dt) : Prop := ∀ z, d = .str z → z.length ≤ sizeLine
theorem asS_eq {f : Ev Dt} {ρ : En} {P P1 : Pt} {z : Str} (h : f ρ P = some (.str z, P1)) : asS f ρ P = some ((cp z).map fun c => .str ⟨#[c]⟩, P1) := by
  unfold asS
  rw [h]
theorem ix0 {z : Str} {c : Nat} {r : List Nat} (hz : z.length ≤ sizeLine) (h : cp z = c :: r) : gIx (.str z) (.int 0) = some (.str ⟨#[c]⟩) := by
  show (if z.length ≤ sizeLine then (atI (cp z) 0).map fun c => PyData.str ⟨#[c]⟩ else none) = _
  rw [if_pos hz, h]
  have e : atI (c :: r) 0 = some c := by
    unfold atI ixN
    simp
  rw [e]
  rfl
theorem len_str {z : Str} (hz : z.length ≤ sizeLine) : gLen [.str z] = some (.int z.length) := if_pos hz
/-- one of both: the test of length, then the first sign, then all signs -/
theorem name_gen {n : Nat} {g tail : Sv} {d : Dt} (hd : Fit1 d) (hg : g = sSeq (sIf (eOr (eNot (asB (eIsi "str" (vV true 0)))) (eOr (asB (eOp gLt (eFn gLen (eCons (vV true 0) eNil)) (eC (.int 1)))) (asB (eOp gGt (eFn gLen (eCons (vV true 0) eNil)) (eC (.int 8)))))) (sRet (eC (.bool false))) sNil) (sSeq (sIf (asB (eOp gNin (eOp gIx (vV true 0) (eC (.int 0))) (eC (.str LTR)))) (sRet (eC (.bool false))) sNil) tail))
    (ht : ∀ z, d = .str z → tail [.sh d, .un] (0, 0) = some (.rt (.bool ((cp z).all fun c => decide (c ∈ cp LD))), [.sh d, .un], (0, 0))) : resD (g [.sh d, .un] (0, 0)) = some (.bool (nameD d)) := by
  subst hg
  have no : ∀ {b : Bool}, kitB (tyD d) "str" = some b → b = false → resD (sSeq (sIf (eOr (eNot (asB (eIsi "str" (vV true 0)))) (eOr (asB (eOp gLt (eFn gLen (eCons (vV true 0) eNil)) (eC (.int 1)))) (asB (eOp gGt (eFn gLen (eCons (vV true 0) eNil)) (eC (.int 8)))))) (sRet (eC (.bool false))) sNil) (sSeq (sIf (asB (eOp gNin (eOp gIx (vV true 0) (eC (.int 0))) (eC (.str LTR)))) (sRet (eC (.bool false))) sNil) tail) [.sh d, .un] (0, 0)) = some (.bool false) := by
    intro b hk hb
    subst hb
    have h1 : eOr (eNot (asB (eIsi "str" (vV true 0)))) (eOr (asB (eOp gLt (eFn gLen (eCons (vV true 0) eNil)) (eC (.int 1)))) (asB (eOp gGt (eFn gLen (eCons (vV true 0) eNil)) (eC (.int 8))))) [.sh d, .un] (0, 0) = some (true, (0, 0)) :=
      eOr_eq (k := true) (eNot_eq (k := false) (asB_eq (isi_eq rfl hk))) (fun h => by cases h) (fun _ => ⟨rfl, rfl⟩)
    rw [sSeq_rt (sIf_t h1 (sRet_eq (d := .bool false) (P1 := (0, 0)) rfl))]
    rfl
  cases d with
  | str z =>
    have hz := hd z rfl
    have h0 : eIsi "str" (vV true 0) [.sh (.str z), .un] (0, 0) = some (.bool true, (0, 0)) := isi_eq (d := .str z) rfl rfl
    have hl : eFn gLen (eCons (vV true 0) eNil) [.sh (.str z), .un] (0, 0) = some (.int z.length, (0, 0)) := eFn1 rfl (len_str hz)
    have h1 : eOr (eNot (asB (eIsi "str" (vV true 0)))) (eOr (asB (eOp gLt (eFn gLen (eCons (vV true 0) eNil)) (eC (.int 1)))) (asB (eOp gGt (eFn gLen (eCons (vV true 0) eNil)) (eC (.int 8))))) [.sh (.str z), .un] (0, 0) = some (decide ((z.length : Int) < 1) || decide ((8 : Int) < z.length), (0, 0)) :=
      eOr_eq (k := false) (eNot_eq (k := true) (asB_eq h0)) (fun _ => eOr_eq (asB_eq (eOp_eq hl rfl (gLt_int _ _))) (fun h => by rw [h]; exact asB_eq (eOp_eq hl rfl (gGt_int _ _))) (fun h => by rw [h]; exact ⟨rfl, rfl⟩)) (fun h => by cases h)
    show _ = some (PyData.bool (nameB z))
    unfold nameB
    by_cases hs : 1 ≤ z.length ∧ z.length ≤ 8
    · have e1 : (decide ((z.length : Int) < 1) || decide ((8 : Int) < z.length)) = false := by
        simp only [Bool.or_eq_false_iff, decide_eq_false_iff_not]; omega
      rw [e1] at h1
      rw [sSeq_go (sIf_f h1 rfl)]
      cases hc : cp z with
      | nil => have := len_cp z; rw [hc] at this; simp at this; omega
      | cons c r =>
        have h2 : eOp gNin (eOp gIx (vV true 0) (eC (.int 0))) (eC (.str LTR)) [.sh (.str z), .un] (0, 0) = some (.bool (!decide (c ∈ cp LTR)), (0, 0)) := eOp_eq (eOp_eq rfl rfl (ix0 hz hc)) rfl (gNin_sg c _)
        cases hh : decide (c ∈ cp LTR) with
        | false =>
          rw [hh] at h2
          rw [sSeq_rt (sIf_t (asB_eq h2) (sRet_eq (d := .bool false) (P1 := (0, 0)) rfl))]
          simp only [hdL, hh, Bool.and_false, Bool.false_and, resD]
        | true =>
          rw [hh] at h2
          rw [sSeq_go (sIf_f (asB_eq h2) rfl), ht z rfl, hc]
          simp only [hdL, hh, resD, hs.1, hs.2, decide_true, Bool.true_and]
    · have e1 : (decide ((z.length : Int) < 1) || decide ((8 : Int) < z.length)) = true := by
        simp only [Bool.or_eq_true, decide_eq_true_eq]; omega
      rw [e1] at h1
      rw [sSeq_rt (sIf_t h1 (sRet_eq (d := .bool false) (P1 := (0, 0)) rfl))]
      have e2 : (decide (1 ≤ z.length) && decide (z.length ≤ 8)) = false := by
        rw [Bool.and_eq_false_iff, decide_eq_false_iff_not, decide_eq_false_iff_not]; omega
      rw [e2]
      rfl
  | none => exact no (b := false) rfl rfl
  | bool _ => exact no (b := false) rfl rfl
  | int _ => exact no (b := false) rfl rfl
  | list _ => exact no (b := false) rfl rfl
  | tuple _ => exact no (b := false) rfl rfl
  | dict _ => exact no (b := false) rfl rfl
theorem s_isname (d : Dt) (hd : Fit1 d) : s_is_name [d] = some (.bool (nameD d)) := by
  show resD (g_is_name [.sh d, .un] (0, 0)) = _
  refine name_gen (n := 0) hd rfl fun z e => ?_
  subst e
  have hz := hd z rfl
  refine sRet_eq (eFn1 (eComp_all (enc := fun c => PyData.str ⟨#[c]⟩) (xs := cp z) (e := fun c => PyData.bool (decide (c ∈ cp LD))) (asS_eq rfl) (fun c hc => ⟨_, rfl, ?_⟩) (by rw [len_cp]; exact hz)) (gAll_map _ _))
  have h1 : eOp gIn (vV true 1) (eC (.str LTR)) [.sh (.str z), .sh (.str ⟨#[c]⟩)] (0, 0) = some (.bool (decide (c ∈ cp LTR)), (0, 0)) := eOp_eq rfl rfl (gIn_sg c _)
  have h2 : eOp gIn (vV true 1) (eC (.str DIG)) [.sh (.str z), .sh (.str ⟨#[c]⟩)] (0, 0) = some (.bool (decide (c ∈ cp DIG)), (0, 0)) := eOp_eq rfl rfl (gIn_sg c _)
  have e : decide (c ∈ cp LD) = (decide (c ∈ cp LTR) || decide (c ∈ cp DIG)) := by
    rw [ld_eq]; by_cases h1 : c ∈ cp LTR <;> by_cases h2 : c ∈ cp DIG <;> simp [List.mem_append, h1, h2]
  rw [e]
  exact eOrV_eq h1 h2
theorem s_lawisname (d : Dt) (hd : Fit1 d) : s__law_is_name [d] = some (.bool (nameD d)) := by
  show resD (g__law_is_name [.sh d, .un] (0, 0)) = _
  refine name_gen (n := 0) hd rfl fun z e => ?_
  subst e
  have hz := hd z rfl
  exact sRet_eq (eFn1 (eComp_all (enc := fun c => PyData.str ⟨#[c]⟩) (xs := cp z) (e := fun c => PyData.bool (decide (c ∈ cp LD))) (asS_eq rfl) (fun c hc => ⟨_, rfl, eOp_eq rfl rfl (gIn_sg c _)⟩) (by rw [len_cp]; exact hz)) (gAll_map _ _))
end W62

/-! part M62q -/
set_option Elab.async false
set_option linter.all false
set_option maxRecDepth 100000
set_option maxHeartbeats 4000000
/-! families of any value; own work -/
namespace W62
open PySem PySem.Spec PyProof.Rows L2 PD

theorem ltN_iff {a b : Str} : ltN a b ↔ cp a < cp b := by
  unfold ltN
  rw [leN_eq, decide_eq_true_eq]
  constructor
  · rintro ⟨h, n⟩
    rcases Classical.em (cp b ≤ cp a) with q | q
    · exact absurd (cp_inj (List.le_antisymm h q)) n
    · exact List.not_le.mp q
  · intro h
    exact ⟨List.le_of_lt h, fun e => by subst e; exact List.lt_irrefl _ h⟩
def risingB (l : Lot) : Bool := (l.zip l.tail).all fun p => decide (cp p.1 < cp p.2)
theorem rising_cons {x y : Str} {l : Lot} : risingB (x :: y :: l) = (decide (cp x < cp y) && risingB (y :: l)) := rfl
theorem rising_can : ∀ {l : Lot}, risingB l = true ↔ Can l
  | [] => ⟨fun _ => List.Pairwise.nil, fun _ => rfl⟩
  | [x] => ⟨fun _ => List.pairwise_singleton _ _, fun _ => rfl⟩
  | x :: y :: l => by
    rw [rising_cons, Bool.and_eq_true, decide_eq_true_eq, ← ltN_iff, rising_can]
    unfold Can
    rw [List.pairwise_cons (a := x)]
    constructor
    · rintro ⟨h, c⟩
      refine ⟨fun z hz => ?_, c⟩
      rcases List.mem_cons.mp hz with e | hz
      · rw [e]; exact h
      · exact ltN_trans h ((List.pairwise_cons.mp c).1 z hz)
    · rintro ⟨h, c⟩
      exact ⟨h y (List.mem_cons_self ..), c⟩
theorem rising_at {l : Lot} : risingB l = true ↔ ∀ i a b, l[i]? = some a → l[i + 1]? = some b → cp a < cp b := by
  induction l with
  | nil => simp [risingB]
  | cons x l ih =>
    cases l with
    | nil => simp [risingB]
    | cons y l =>
      rw [rising_cons, Bool.and_eq_true, decide_eq_true_eq, ih]
      constructor
      · rintro ⟨h, c⟩ i a b ha hb
        cases i with
        | zero => simp at ha hb; subst ha; subst hb; exact h
        | succ i => exact c i a b (by simpa using ha) (by simpa using hb)
      · intro h
        exact ⟨h 0 x y rfl rfl, fun i a b ha hb => h (i + 1) a b (by simpa using ha) (by simpa using hb)⟩
def strO : Dt → Option Str
  | .str z => some z
  | _ => none
def lotO : Dt → Lot
  | .list ys => ys.filterMap strO
  | _ => []
theorem strO_map : ∀ l : Lot, (l.map PyData.str).filterMap strO = l
  | [] => rfl
  | x :: l => by rw [List.map_cons, List.filterMap_cons]; simp only [strO, strO_map l]
theorem named : ∀ {ys : List Dt}, ys.all nameD = true → ys = (ys.filterMap strO).map .str ∧ ∀ z ∈ ys.filterMap strO, nameB z = true
  | [], _ => ⟨rfl, fun z h => by cases h⟩
  | y :: ys, h => by
    rw [List.all_cons, Bool.and_eq_true] at h
    obtain ⟨e, hz⟩ := named h.2
    cases y with
    | str z =>
      rw [List.filterMap_cons]
      simp only [strO, List.map_cons]
      exact ⟨by rw [← e], fun w hw => by
        rcases List.mem_cons.mp hw with q | q
        · rw [q]; exact h.1
        · exact hz w q⟩
    | _ => exact absurd h.1 (by simp [nameD])
def riseD : Dt → Bool
  | .list ys => ys.all nameD && risingB (ys.filterMap strO)
  | _ => false
def FitL (d : Dt) : Prop := ∀ ys, d = .list ys → ys.length ≤ sizeLine ∧ ∀ y ∈ ys, Fit1 y
theorem zipD_tail : ∀ l : Lot, zipD (l.map PyData.str) (l.tail.map PyData.str) = (l.zip l.tail).map fun p => PyData.tuple [.str p.1, .str p.2]
  | [] => rfl
  | [x] => rfl
  | x :: y :: l => by
    have := zipD_tail (y :: l)
    show PyData.tuple [.str x, .str y] :: zipD ((y :: l).map PyData.str) (l.map PyData.str) = _
    rw [show (l.map PyData.str) = ((y :: l).tail.map PyData.str) from rfl, this]
    rfl
theorem cut1 (ds : List Dt) : PD.cutD ds (some 1) none = ds.tail := by
  unfold PD.cutD
  have e1 : HT.sIx ds.length 0 (some 1) = min 1 ds.length := HT.sIx_nat ds.length 0 1
  rw [e1, HT.sIx_none]
  cases ds with
  | nil => rfl
  | cons d ds => simp
theorem asZ_eq {g : Ev (List Dt)} {ρ : En} {P P1 : Pt} {as bs : List Dt} (h : g ρ P = some ([.list as, .list bs], P1)) : asZ g ρ P = some (zipD as bs, P1) := by unfold asZ; rw [h]
theorem eSl_eq {f : Ev Dt} {lo hi : Eo} {ρ : En} {P P1 P2 P3 : Pt} {a d : Dt} {l h : Option Int} (h1 : f ρ P = some (a, P1)) (h2 : lo ρ P1 = some (l, P2)) (h3 : hi ρ P2 = some (h, P3)) (h4 : gSl l h a = some d) : eSl f lo hi ρ P = some (d, P3) := by
  unfold eSl
  rw [h1]; dsimp only; rw [h2]; dsimp only; rw [h3]; dsimp only; rw [h4]
theorem s_rising (d : Dt) (hf : FitL d) : s_is_rising_lot [d] = some (.bool (riseD d)) := by
  show resD (g_is_rising_lot [.sh d, .un, .un, .un] (0, 0)) = _
  unfold g_is_rising_lot
  have no : ∀ {b : Bool}, kitB (tyD d) "list" = some b → b = false → resD (g_is_rising_lot [.sh d, .un, .un, .un] (0, 0)) = some (.bool false) := by
    intro b hk hb
    subst hb
    have h1 : eOr (eNot (asB (eIsi "list" (vV true 0)))) (eNot (asB (eGen false [3] (asL (vV true 0)) (gN true 3) eYes (eCall 1 s_is_name (eCons (eV true 3) eNil))))) [.sh d, .un, .un, .un] (0, 0) = some (true, (0, 0)) :=
      eOr_eq (k := true) (eNot_eq (k := false) (asB_eq (isi_eq rfl hk))) (fun h => by cases h) (fun _ => ⟨rfl, rfl⟩)
    unfold g_is_rising_lot
    rw [sSeq_rt (sIf_t h1 (sRet_eq (d := .bool false) (P1 := (0, 0)) rfl))]
    rfl
  cases d with
  | list ys =>
    obtain ⟨hl, hy⟩ := hf ys rfl
    have h0 : eIsi "list" (vV true 0) [.sh (.list ys), .un, .un, .un] (0, 0) = some (.bool true, (0, 0)) := isi_eq (d := .list ys) rfl rfl
    have hg : eGen false [3] (asL (vV true 0)) (gN true 3) eYes (eCall 1 s_is_name (eCons (eV true 3) eNil)) [.sh (.list ys), .un, .un, .un] (0, 0) = some (.bool (ys.all nameD), (0, 0)) := by
      refine eGen_map (enc := fun d => d) (xs := ys) (b := nameD) (asL_eq (by rw [List.map_id']; rfl)) (fun y hm => ⟨_, rfl, eCall1 rfl (s_isname y (hy y hm))⟩) rfl
    have h1 : eOr (eNot (asB (eIsi "list" (vV true 0)))) (eNot (asB (eGen false [3] (asL (vV true 0)) (gN true 3) eYes (eCall 1 s_is_name (eCons (eV true 3) eNil))))) [.sh (.list ys), .un, .un, .un] (0, 0) = some (!ys.all nameD, (0, 0)) :=
      eOr_eq (k := false) (eNot_eq (k := true) (asB_eq h0)) (fun _ => eNot_eq (asB_eq hg)) (fun h => by cases h)
    show _ = some (PyData.bool (ys.all nameD && risingB (ys.filterMap strO)))
    cases ha : ys.all nameD with
    | false =>
      rw [ha] at h1
      rw [sSeq_rt (sIf_t h1 (sRet_eq (d := .bool false) (P1 := (0, 0)) rfl))]
      rfl
    | true =>
      rw [ha] at h1
      rw [sSeq_go (sIf_f h1 rfl)]
      obtain ⟨e, hn⟩ := named ha
      generalize ys.filterMap strO = l at e hn
      subst e
      have hz : asZ (eCons (vV true 0) (eCons (eSl (vV true 0) (oAt (eC (.int 1))) oNo) eNil)) [.sh (.list (l.map .str)), .un, .un, .un] (0, 0) = some ((l.zip l.tail).map fun p => PyData.tuple [.str p.1, .str p.2], (0, 0)) := by
        rw [asZ_eq (as := l.map .str) (bs := l.tail.map .str) (P1 := (0, 0)) (eCons_eq rfl (eCons_eq (eSl_eq (d := .list (l.tail.map .str)) rfl rfl rfl ?_) eNil_eq)), zipD_tail]
        show some (PyData.list (PD.cutD (l.map .str) (some 1) none)) = _
        rw [cut1, List.map_tail]
      have hr := sRet_eq (eGen_map (stop := false) (own := [1, 2]) (tgt := gT true [1, 2]) (elt := eOp gLt (vV true 1) (vV true 2)) (enc := fun p : Str × Str => PyData.tuple [.str p.1, .str p.2]) (b := fun p => decide (cp p.1 < cp p.2)) (r := risingB l) hz (fun p hp => ⟨_, rfl, eOp_eq rfl rfl (gLt_str _ _)⟩) rfl)
      rw [hr]
      rfl
  | none => exact no (b := false) rfl rfl
  | bool _ => exact no (b := false) rfl rfl
  | int _ => exact no (b := false) rfl rfl
  | str _ => exact no (b := false) rfl rfl
  | tuple _ => exact no (b := false) rfl rfl
  | dict _ => exact no (b := false) rfl rfl

/-! ### is_family -/
def lens : Dt → Nat
  | .list ys => ys.length
  | _ => 0
def FamFit (v : Dt) : Prop := ∀ xs, v = .list xs → xs.length ≤ sizeLine ∧ (xs.map lens).sum ≤ 4000 ∧ ∀ x ∈ xs, ∀ ys, x = .list ys → ∀ y ∈ ys, Fit1 y
theorem sum_mem : ∀ {l : List Nat} {n : Nat}, n ∈ l → n ≤ l.sum
  | x :: l, n, h => by
    rw [List.sum_cons]
    rcases List.mem_cons.mp h with e | h
    · omega
    · have := sum_mem h; omega
theorem FamFit.lot {xs : List Dt} (h : FamFit (.list xs)) {x : Dt} (hx : x ∈ xs) : FitL x := fun ys e => by
  obtain ⟨_, h2, h3⟩ := h xs rfl
  refine ⟨?_, h3 x hx ys e⟩
  have := sum_mem (List.mem_map_of_mem (f := lens) hx)
  rw [e] at this
  have this : ys.length ≤ (xs.map lens).sum := this
  exact Nat.le_trans (by omega) (show (4000:Nat) ≤ sizeLine by decide)
def famD : Dt → Bool
  | .list xs => decide (xs.length ≤ 300) && (xs.all riseD && decide ((namesT (xs.map lotO)).length ≤ 10))
  | _ => false
theorem rise_enc {x : Dt} (h : riseD x = true) : x = eS (lotO x) ∧ Can (lotO x) ∧ (∀ z ∈ lotO x, nameB z = true) ∧ (lotO x).length = lens x := by
  cases x with
  | list ys =>
    have h' : (ys.all nameD && risingB (ys.filterMap strO)) = true := h
    rw [Bool.and_eq_true] at h'
    obtain ⟨e, hn⟩ := named h'.1
    refine ⟨congrArg PyData.list e, rising_can.mp h'.2, hn, ?_⟩
    show (ys.filterMap strO).length = ys.length
    conv => rhs; rw [e, List.length_map]
  | _ => cases h
theorem rises_enc : ∀ {xs : List Dt}, xs.all riseD = true → xs = (xs.map lotO).map eS
  | [], _ => rfl
  | x :: xs, h => by
    rw [List.all_cons, Bool.and_eq_true] at h
    rw [List.map_cons, List.map_cons, ← (rise_enc h.1).1, ← rises_enc h.2]
theorem setOf_len (l : List Str) : (setOfS l).length ≤ l.length := nodup_len (setOf_nodup l) fun x hx => setOf_mem.mp hx
theorem flat_len : ∀ {xs : List Dt}, xs.all riseD = true → (xs.map lotO).flatten.length = (xs.map lens).sum
  | [], _ => rfl
  | x :: xs, h => by
    rw [List.all_cons, Bool.and_eq_true] at h
    rw [List.map_cons, List.flatten_cons, List.length_append, List.map_cons, List.sum_cons, flat_len h.2, (rise_enc h.1).2.2.2]
theorem s_isfam (v : Dt) (hf : FamFit v) : s_is_family [v] = some (.bool (famD v)) := by
  show resD (g_is_family [.sh v, .un] (0, 0)) = _
  have no : ∀ {b : Bool}, kitB (tyD v) "list" = some b → b = false → resD (g_is_family [.sh v, .un] (0, 0)) = some (.bool false) := by
    intro b hk hb
    subst hb
    have h1 : eOr (eNot (asB (eIsi "list" (vV true 0)))) (asB (eOp gGt (eFn gLen (eCons (vV true 0) eNil)) (eC (.int 300)))) [.sh v, .un] (0, 0) = some (true, (0, 0)) :=
      eOr_eq (k := true) (eNot_eq (k := false) (asB_eq (isi_eq rfl hk))) (fun h => by cases h) (fun _ => ⟨rfl, rfl⟩)
    unfold g_is_family
    rw [sSeq_rt (sIf_t h1 (sRet_eq (d := .bool false) (P1 := (0, 0)) rfl))]
    rfl
  cases v with
  | list xs =>
    obtain ⟨f1, f2, f3⟩ := hf xs rfl
    have h0 : eIsi "list" (vV true 0) [.sh (.list xs), .un] (0, 0) = some (.bool true, (0, 0)) := isi_eq (d := .list xs) rfl rfl
    have hl : eFn gLen (eCons (vV true 0) eNil) [.sh (.list xs), .un] (0, 0) = some (.int xs.length, (0, 0)) := eFn1 rfl rfl
    have h1 : eOr (eNot (asB (eIsi "list" (vV true 0)))) (asB (eOp gGt (eFn gLen (eCons (vV true 0) eNil)) (eC (.int 300)))) [.sh (.list xs), .un] (0, 0) = some (decide ((300 : Int) < xs.length), (0, 0)) :=
      eOr_eq (k := false) (eNot_eq (k := true) (asB_eq h0)) (fun _ => asB_eq (eOp_eq hl rfl (gGt_int _ _))) (fun h => by cases h)
    have hg : eGen false [1] (asL (vV true 0)) (gN true 1) eYes (eCall 1 s_is_rising_lot (eCons (eV true 1) eNil)) [.sh (.list xs), .un] (0, 0) = some (.bool (xs.all riseD), (0, 0)) :=
      eGen_map (enc := fun d => d) (xs := xs) (b := riseD) (asL_eq (by rw [List.map_id']; rfl)) (fun y hm => ⟨_, rfl, eCall1 rfl (s_rising y (hf.lot hm))⟩) rfl
    show _ = some (PyData.bool (decide (xs.length ≤ 300) && (xs.all riseD && decide ((namesT (xs.map lotO)).length ≤ 10))))
    unfold g_is_family
    by_cases h3 : xs.length ≤ 300
    · have e1 : decide ((300 : Int) < xs.length) = false := by rw [decide_eq_false_iff_not]; omega
      rw [e1] at h1
      rw [sSeq_go (sIf_f h1 rfl), decide_eq_true h3, Bool.true_and]
      cases ha : xs.all riseD with
      | false =>
        rw [ha] at hg
        rw [sSeq_rt (sIf_t (eNot_eq (k := false) (asB_eq hg)) (sRet_eq (d := .bool false) (P1 := (0, 0)) rfl))]
        rfl
      | true =>
        rw [ha] at hg
        rw [sSeq_go (sIf_f (eNot_eq (k := true) (asB_eq hg)) rfl)]
        have hs : s_names_of_family [.list xs] = some (eS (namesT (xs.map lotO))) := by
          conv => lhs; rw [rises_enc ha]
          refine s_names (xs.map lotO) ?_
          have a1 := setOf_len (xs.map lotO).flatten
          rw [flat_len ha] at a1
          omega
        have hr := sRet_eq (ρ := [.sh (.list xs), .un]) (P := (0, 0)) (f := eOp gLe (eFn gLen (eCons (eCall 1 s_names_of_family (eCons (eV true 0) eNil)) eNil)) (eC (.int 10))) (eOp_eq (eFn1 (eCall1 rfl hs) rfl) rfl (gLe_int _ _))
        rw [hr]
        show some (PyData.bool (!decide ((10 : Int) < (((namesT (xs.map lotO)).map PyData.str).length : Nat)))) = _
        rw [List.length_map]
        by_cases q : (namesT (xs.map lotO)).length ≤ 10
        · rw [decide_eq_true q, decide_eq_false (by omega)]; rfl
        · rw [decide_eq_false q, decide_eq_true (by omega)]; rfl
    · have e1 : decide ((300 : Int) < xs.length) = true := by rw [decide_eq_true_eq]; omega
      rw [e1] at h1
      rw [sSeq_rt (sIf_t h1 (sRet_eq (d := .bool false) (P1 := (0, 0)) rfl)), decide_eq_false h3]
      rfl
  | none => exact no (b := false) rfl rfl
  | bool _ => exact no (b := false) rfl rfl
  | int _ => exact no (b := false) rfl rfl
  | str _ => exact no (b := false) rfl rfl
  | tuple _ => exact no (b := false) rfl rfl
  | dict _ => exact no (b := false) rfl rfl
end W62

/-! part M62r -/
set_option Elab.async false
set_option linter.all false
set_option maxRecDepth 100000
set_option maxHeartbeats 4000000
/-! families of any value, the law's own look; own work -/
namespace W62
open PySem PySem.Spec PyProof.Rows L2 PD

def addL (acc l : Lot) : Lot := acc ++ l.filter fun x => !acc.contains x
abbrev lfBody : Sv := (sSeq (sIf (eOr (eNot (asB (eIsi "list" (vV true 2)))) (eNot (asB (eFn gAll (eCons (eComp [4] (asL (vV true 2)) (gN true 4) eYes (eCall 1 s__law_is_name (eCons (eV true 4) eNil))) eNil))))) (sRet (eC (.bool false))) sNil) (sSeq (sIf (asB (eFn gAny (eCons (eComp [3] (asR1 (eCons (eOp gSub (eFn gLen (eCons (vV true 2) eNil)) (eC (.int 1))) eNil)) (gN true 3) eYes (eOp gGe (eOp gIx (vV true 2) (vV true 3)) (eOp gIx (vV true 2) (eOp gAdd (vV true 3) (eC (.int 1)))))) eNil))) (sRet (eC (.bool false))) sNil) (sSetN true 1 (eOp gAdd (vV true 1) (eComp [4] (asL (vV true 2)) (gN true 4) (asB (eOp gNin (vV true 4) (vV true 1))) (eV true 4))))))
theorem atI_nat {α : Type} {xs : List α} {i : Nat} {x : α} (h : xs[i]? = some x) : atI xs (i : Int) = some x := by
  have hi : i < xs.length := (List.getElem?_eq_some_iff.mp h).1
  unfold atI ixN
  rw [if_pos (by omega), if_pos (by omega)]
  simpa using h
theorem ixS {l : Lot} {i : Nat} {x : Str} (h : l[i]? = some x) : gIx (eS l) (.int i) = some (.str x) := by
  show atI (l.map PyData.str) (i : Int) = _
  exact atI_nat (by rw [List.getElem?_map, h]; rfl)
theorem asR1_eq {g : Ev (List Dt)} {ρ : En} {P P1 : Pt} {j : Int} (h : g ρ P = some ([.int j], P1)) (h1 : -(2 ^ 62) ≤ j) (h2 : j < 2 ^ 62) : asR1 g ρ P = some ((List.range j.toNat).map fun i : Nat => PyData.int (0 + (i : Int)), P1) := by
  unfold asR1
  rw [h]
  exact if_pos ⟨h1, h2⟩
theorem not_rising {l : Lot} : ((List.range ((l.length : Int) - 1).toNat).any fun i => !decide (cp (l.getD i Str.empty) < cp (l.getD (i + 1) Str.empty))) = !risingB l := by
  rw [Bool.eq_iff_iff, List.any_eq_true]
  constructor
  · rintro ⟨i, hi, h⟩
    rw [List.mem_range] at hi
    cases q : risingB l with
    | false => rfl
    | true =>
      rw [rising_at] at q
      have h1 : l[i]? = some l[i] := List.getElem?_eq_getElem (by omega)
      have h2 : l[i + 1]? = some l[i + 1] := List.getElem?_eq_getElem (by omega)
      have := q i _ _ h1 h2
      simp only [List.getD_eq_getElem?_getD, h1, h2, Option.getD_some, this, decide_true, Bool.not_true] at h
      cases h
  · intro h
    have h : ¬ risingB l = true := by simpa using h
    rw [rising_at] at h
    apply Classical.byContradiction
    intro n
    apply h
    intro i a b ha hb
    apply Classical.byContradiction
    intro n2
    apply n
    have : i + 1 < l.length := (List.getElem?_eq_some_iff.mp hb).1
    refine ⟨i, List.mem_range.mpr (by omega), ?_⟩
    simp only [List.getD_eq_getElem?_getD, ha, hb, Option.getD_some, n2, decide_false, Bool.not_false]
theorem lf_body {v x : Dt} {acc : Lot} {y z : DV} (hf : FitL x) (hs : acc.length + lens x ≤ 4000) :
    (riseD x = true → lfBody [.sh v, .sh (eS acc), .sh x, y, z] (0, 0) = some (.nx, [.sh v, .sh (eS (addL acc (lotO x))), .sh x, y, z], (0, 0))) ∧
    (riseD x = false → ∃ ρ', lfBody [.sh v, .sh (eS acc), .sh x, y, z] (0, 0) = some (.rt (.bool false), ρ', (0, 0))) := by
  have big : 4000 < sizeLine := by decide
  have no : ∀ {b : Bool}, kitB (tyD x) "list" = some b → b = false → ∃ ρ', lfBody [.sh v, .sh (eS acc), .sh x, y, z] (0, 0) = some (.rt (.bool false), ρ', (0, 0)) := by
    intro b hk hb
    subst hb
    have h1 : eOr (eNot (asB (eIsi "list" (vV true 2)))) (eNot (asB (eFn gAll (eCons (eComp [4] (asL (vV true 2)) (gN true 4) eYes (eCall 1 s__law_is_name (eCons (eV true 4) eNil))) eNil)))) [.sh v, .sh (eS acc), .sh x, y, z] (0, 0) = some (true, (0, 0)) :=
      eOr_eq (k := true) (eNot_eq (k := false) (asB_eq (isi_eq rfl hk))) (fun h => by cases h) (fun _ => ⟨rfl, rfl⟩)
    exact ⟨_, sSeq_rt (sIf_t h1 (sRet_eq (d := .bool false) (P1 := (0, 0)) rfl))⟩
  cases x with
  | list ys =>
    obtain ⟨hl, hy⟩ := hf ys rfl
    have hs : acc.length + ys.length ≤ 4000 := hs
    have h0 : eIsi "list" (vV true 2) [.sh v, .sh (eS acc), .sh (.list ys), y, z] (0, 0) = some (.bool true, (0, 0)) := isi_eq (d := .list ys) rfl rfl
    have hg : eFn gAll (eCons (eComp [4] (asL (vV true 2)) (gN true 4) eYes (eCall 1 s__law_is_name (eCons (eV true 4) eNil))) eNil) [.sh v, .sh (eS acc), .sh (.list ys), y, z] (0, 0) = some (.bool (ys.all nameD), (0, 0)) := by
      refine eFn1 (eComp_all (enc := fun d => d) (xs := ys) (e := fun d => PyData.bool (nameD d)) (asL_eq (by rw [List.map_id']; rfl)) (fun y hm => ⟨_, rfl, eCall1 rfl (s_lawisname y (hy y hm))⟩) hl) (gAll_map _ _)
    have h1 : eOr (eNot (asB (eIsi "list" (vV true 2)))) (eNot (asB (eFn gAll (eCons (eComp [4] (asL (vV true 2)) (gN true 4) eYes (eCall 1 s__law_is_name (eCons (eV true 4) eNil))) eNil)))) [.sh v, .sh (eS acc), .sh (.list ys), y, z] (0, 0) = some (!ys.all nameD, (0, 0)) :=
      eOr_eq (k := false) (eNot_eq (k := true) (asB_eq h0)) (fun _ => eNot_eq (asB_eq hg)) (fun h => by cases h)
    have er : riseD (.list ys) = (ys.all nameD && risingB (ys.filterMap strO)) := rfl
    rw [er]
    cases ha : ys.all nameD with
    | false =>
      rw [ha] at h1
      refine ⟨fun h => (by cases h), fun _ => ⟨_, sSeq_rt (sIf_t h1 (sRet_eq (d := .bool false) (P1 := (0, 0)) rfl))⟩⟩
    | true =>
      rw [ha] at h1
      obtain ⟨e, hn⟩ := named ha
      have el : lotO (.list ys) = ys.filterMap strO := rfl
      rw [el]
      generalize ys.filterMap strO = l at e hn
      subst e
      rw [List.length_map] at hs
      rw [Bool.true_and]
      have hr : asR1 (eCons (eOp gSub (eFn gLen (eCons (vV true 2) eNil)) (eC (.int 1))) eNil) [.sh v, .sh (eS acc), .sh (eS l), y, z] (0, 0) = some ((List.range ((l.length : Int) - 1).toNat).map fun i : Nat => PyData.int (0 + (i : Int)), (0, 0)) := by
        refine asR1_eq (j := (l.length : Int) - 1) (eCons_eq (eOp_eq (a := .int l.length) (b := .int 1) (eFn1 rfl (by simp [gLen])) rfl rfl) eNil_eq) (by omega) (by omega)
      have h2 : eFn gAny (eCons (eComp [3] (asR1 (eCons (eOp gSub (eFn gLen (eCons (vV true 2) eNil)) (eC (.int 1))) eNil)) (gN true 3) eYes (eOp gGe (eOp gIx (vV true 2) (vV true 3)) (eOp gIx (vV true 2) (eOp gAdd (vV true 3) (eC (.int 1)))))) eNil) [.sh v, .sh (eS acc), .sh (eS l), y, z] (0, 0) = some (.bool (!risingB l), (0, 0)) := by
        rw [← not_rising]
        refine eFn1 (eComp_all (enc := fun i : Nat => PyData.int (0 + (i : Int))) (xs := List.range ((l.length : Int) - 1).toNat) (e := fun i => PyData.bool (!decide (cp (l.getD i Str.empty) < cp (l.getD (i + 1) Str.empty)))) hr (fun i hi => ?_) (by rw [List.length_range]; omega)) (gAny_map _ _)
        rw [List.mem_range] at hi
        have g1 : l[i]? = some l[i] := List.getElem?_eq_getElem (by omega)
        have g2 : l[i + 1]? = some l[i + 1] := List.getElem?_eq_getElem (by omega)
        have e1 : l.getD i Str.empty = l[i] := by simp only [List.getD_eq_getElem?_getD, g1, Option.getD_some]
        have e2 : l.getD (i + 1) Str.empty = l[i + 1] := by simp only [List.getD_eq_getElem?_getD, g2, Option.getD_some]
        rw [e1, e2]
        refine ⟨[.sh v, .sh (eS acc), .sh (eS l), .sh (.int (0 + (i : Int))), z], rfl, eOp_eq (a := .str l[i]) (b := .str l[i + 1]) (eOp_eq (a := eS l) (b := .int (0 + (i : Int))) rfl rfl ?_) (eOp_eq (a := eS l) (b := .int (((i + 1 : Nat)) : Int)) rfl (eOp_eq (a := .int (0 + (i : Int))) (b := .int 1) rfl rfl ?_) (ixS g2)) (gGe_str _ _)⟩
        · rw [Int.zero_add]; exact ixS g1
        · show some (PyData.int (0 + (i : Int) + 1)) = _
          rw [Int.zero_add]; rfl
      cases hb : risingB l with
      | false =>
        rw [hb] at h2
        exact ⟨fun h => (by cases h), fun _ => ⟨_, by rw [show lfBody = sSeq _ _ from rfl, sSeq_go (sIf_f h1 rfl)]; exact sSeq_rt (sIf_t (asB_eq h2) (sRet_eq (d := .bool false) (P1 := (0, 0)) rfl))⟩⟩
      | true =>
        rw [hb] at h2
        refine ⟨fun _ => ?_, fun h => by cases h⟩
        rw [show lfBody = sSeq _ _ from rfl, sSeq_go (sIf_f h1 rfl), sSeq_go (sIf_f (asB_eq h2) rfl)]
        have hc : eComp [4] (asL (vV true 2)) (gN true 4) (asB (eOp gNin (vV true 4) (vV true 1))) (eV true 4) [.sh v, .sh (eS acc), .sh (eS l), y, z] (0, 0) = some (eS (l.filter fun x => !acc.contains x), (0, 0)) :=
          eComp_map (enc := PyData.str) (xs := l) (t := fun x => !acc.contains x) (e := PyData.str) (asL_eq rfl) (fun x hx => ⟨_, rfl, asB_eq (eOp_eq rfl rfl (gNin_S x acc)), fun _ => rfl⟩) (by omega)
        have hfl : (l.filter fun x => !acc.contains x).length ≤ l.length := List.length_filter_le _ _
        exact sSetN_eq (eOp_eq rfl hc (gAdd_S acc _ (by omega)))
  | none => exact ⟨fun h => (by cases h), fun _ => no (b := false) rfl rfl⟩
  | bool _ => exact ⟨fun h => (by cases h), fun _ => no (b := false) rfl rfl⟩
  | int _ => exact ⟨fun h => (by cases h), fun _ => no (b := false) rfl rfl⟩
  | str _ => exact ⟨fun h => (by cases h), fun _ => no (b := false) rfl rfl⟩
  | tuple _ => exact ⟨fun h => (by cases h), fun _ => no (b := false) rfl rfl⟩
  | dict _ => exact ⟨fun h => (by cases h), fun _ => no (b := false) rfl rfl⟩
theorem lf_loop {v : Dt} : ∀ {xs : List Dt} {acc : Lot} {x y z : DV}, (∀ d ∈ xs, FitL d) → acc.length + (xs.map lens).sum ≤ 4000 →
    (xs.all riseD = true → ∃ x' y' z', forL (gN true 2) lfBody xs [.sh v, .sh (eS acc), x, y, z] (0, 0) = some (.nx, [.sh v, .sh (eS ((xs.map lotO).foldl addL acc)), x', y', z'], (0, 0))) ∧
    (xs.all riseD = false → ∃ ρ', forL (gN true 2) lfBody xs [.sh v, .sh (eS acc), x, y, z] (0, 0) = some (.rt (.bool false), ρ', (0, 0)))
  | [], acc, x, y, z, _, _ => ⟨fun _ => ⟨x, y, z, rfl⟩, fun h => by cases h⟩
  | d :: xs, acc, x, y, z, hf, hs => by
    rw [List.map_cons, List.sum_cons] at hs
    obtain ⟨b1, b2⟩ := lf_body (v := v) (acc := acc) (y := y) (z := z) (hf d (List.mem_cons_self ..)) (by omega)
    have hl : forL (gN true 2) lfBody (d :: xs) [.sh v, .sh (eS acc), x, y, z] (0, 0) = match lfBody [.sh v, .sh (eS acc), .sh d, y, z] (0, 0) with
      | none => none
      | some (.nx, ρ2, P2) => forL (gN true 2) lfBody xs ρ2 P2
      | some (.ct, ρ2, P2) => forL (gN true 2) lfBody xs ρ2 P2
      | some (.bk, ρ2, P2) => some (.nx, ρ2, P2)
      | some (.rt d, ρ2, P2) => some (.rt d, ρ2, P2) := rfl
    rw [hl, List.all_cons]
    cases hr : riseD d with
    | false =>
      obtain ⟨ρ', q⟩ := b2 hr
      rw [q]
      exact ⟨fun h => (by cases h), fun _ => ⟨ρ', rfl⟩⟩
    | true =>
      rw [b1 hr, Bool.true_and]
      have hlen : (addL acc (lotO d)).length ≤ acc.length + lens d := by
        unfold addL
        rw [List.length_append, ← (rise_enc hr).2.2.2]
        have := List.length_filter_le (fun x => !acc.contains x) (lotO d)
        omega
      exact lf_loop (fun e he => hf e (List.mem_cons_of_mem _ he)) (by omega)
/-- the names gathered lot by lot are those of the set -/
theorem addL_mem {acc l : Lot} {x : Str} : x ∈ addL acc l ↔ x ∈ acc ∨ x ∈ l := by
  unfold addL
  rw [List.mem_append, List.mem_filter]
  constructor
  · rintro (h | ⟨h, _⟩)
    · exact .inl h
    · exact .inr h
  · rintro (h | h)
    · exact .inl h
    · by_cases q : x ∈ acc
      · exact .inl q
      · exact .inr ⟨h, by simpa using q⟩
theorem addL_nodup {acc l : Lot} (ha : acc.Nodup) (hl : l.Nodup) : (addL acc l).Nodup := by
  unfold addL
  refine List.nodup_append.mpr ⟨ha, hl.sublist List.filter_sublist, fun a h1 b h2 e => ?_⟩
  subst e
  have := (List.mem_filter.mp h2).2
  simp [h1] at this
theorem adds : ∀ {ls : List Lot} {acc : Lot}, acc.Nodup → (∀ l ∈ ls, l.Nodup) → (ls.foldl addL acc).Nodup ∧ ∀ x, x ∈ ls.foldl addL acc ↔ x ∈ acc ∨ x ∈ ls.flatten
  | [], acc, h, _ => ⟨h, fun x => by simp⟩
  | l :: ls, acc, h, hl => by
    obtain ⟨h1, h2⟩ := adds (ls := ls) (addL_nodup h (hl l (List.mem_cons_self ..))) fun m hm => hl m (List.mem_cons_of_mem _ hm)
    refine ⟨h1, fun x => ?_⟩
    rw [List.foldl_cons, h2 x, addL_mem, List.flatten_cons, List.mem_append, or_assoc]
theorem adds_len {ls : List Lot} (hl : ∀ l ∈ ls, l.Nodup) : (ls.foldl addL []).length = (namesT ls).length := by
  obtain ⟨h1, h2⟩ := adds (acc := []) List.nodup_nil hl
  have e : (namesT ls).length = (setOfS ls.flatten).length := sortN_len _
  rw [e]
  refine Nat.le_antisymm (nodup_len h1 fun x hx => setOf_mem.mpr ?_) (nodup_len (setOf_nodup _) fun x hx => (h2 x).mpr (.inr (setOf_mem.mp hx)))
  rcases (h2 x).mp hx with h | h
  · cases h
  · exact h
theorem s_lawisfam (v : Dt) (hf : FamFit v) : s__law_is_family [v] = some (.bool (famD v)) := by
  show resD (g__law_is_family [.sh v, .un, .un, .un, .un] (0, 0)) = _
  have no : ∀ {b : Bool}, kitB (tyD v) "list" = some b → b = false → resD (g__law_is_family [.sh v, .un, .un, .un, .un] (0, 0)) = some (.bool false) := by
    intro b hk hb
    subst hb
    have h1 : eOr (eNot (asB (eIsi "list" (vV true 0)))) (asB (eOp gGt (eFn gLen (eCons (vV true 0) eNil)) (eC (.int 300)))) [.sh v, .un, .un, .un, .un] (0, 0) = some (true, (0, 0)) :=
      eOr_eq (k := true) (eNot_eq (k := false) (asB_eq (isi_eq rfl hk))) (fun h => by cases h) (fun _ => ⟨rfl, rfl⟩)
    unfold g__law_is_family
    rw [sSeq_rt (sIf_t h1 (sRet_eq (d := .bool false) (P1 := (0, 0)) rfl))]
    rfl
  cases v with
  | list xs =>
    obtain ⟨f1, f2, f3⟩ := hf xs rfl
    have h0 : eIsi "list" (vV true 0) [.sh (.list xs), .un, .un, .un, .un] (0, 0) = some (.bool true, (0, 0)) := isi_eq (d := .list xs) rfl rfl
    have hl : eFn gLen (eCons (vV true 0) eNil) [.sh (.list xs), .un, .un, .un, .un] (0, 0) = some (.int xs.length, (0, 0)) := eFn1 rfl rfl
    have h1 : eOr (eNot (asB (eIsi "list" (vV true 0)))) (asB (eOp gGt (eFn gLen (eCons (vV true 0) eNil)) (eC (.int 300)))) [.sh (.list xs), .un, .un, .un, .un] (0, 0) = some (decide ((300 : Int) < xs.length), (0, 0)) :=
      eOr_eq (k := false) (eNot_eq (k := true) (asB_eq h0)) (fun _ => asB_eq (eOp_eq hl rfl (gGt_int _ _))) (fun h => by cases h)
    show _ = some (PyData.bool (decide (xs.length ≤ 300) && (xs.all riseD && decide ((namesT (xs.map lotO)).length ≤ 10))))
    unfold g__law_is_family
    by_cases h3 : xs.length ≤ 300
    · have e1 : decide ((300 : Int) < xs.length) = false := by rw [decide_eq_false_iff_not]; omega
      rw [e1] at h1
      have h2 : sSetN true 1 (eLst eNil) [.sh (.list xs), .un, .un, .un, .un] (0, 0) = some (.nx, [.sh (.list xs), .sh (eS []), .un, .un, .un], (0, 0)) := sSetN_eq (eLst_eq eNil_eq (Nat.zero_le _))
      rw [sSeq_go (sIf_f h1 rfl), sSeq_go h2, decide_eq_true h3, Bool.true_and]
      obtain ⟨l1, l2⟩ := lf_loop (v := .list xs) (xs := xs) (acc := []) (x := .un) (y := .un) (z := .un) (fun d hd => hf.lot hd) (by simpa using f2)
      cases ha : xs.all riseD with
      | false =>
        obtain ⟨ρ', q⟩ := l2 ha
        have q' : sFor (asL (eV true 0)) (gN true 2) lfBody [.sh (.list xs), .sh (eS []), .un, .un, .un] (0, 0) = some (.rt (.bool false), ρ', (0, 0)) := q
        rw [sSeq_rt q']
        rfl
      | true =>
        obtain ⟨x', y', z', q⟩ := l1 ha
        have q' : sFor (asL (eV true 0)) (gN true 2) lfBody [.sh (.list xs), .sh (eS []), .un, .un, .un] (0, 0) = some (.nx, [.sh (.list xs), .sh (eS ((xs.map lotO).foldl addL [])), x', y', z'], (0, 0)) := q
        have hr := sRet_eq (ρ := [.sh (.list xs), .sh (eS ((xs.map lotO).foldl addL [])), x', y', z']) (P := (0, 0)) (f := eOp gLe (eFn gLen (eCons (vV true 1) eNil)) (eC (.int 10))) (eOp_eq (eFn1 rfl rfl) rfl (gLe_int _ _))
        rw [sSeq_go q', hr, ← adds_len (ls := xs.map lotO) fun l hl => by
          obtain ⟨d, hd, rfl⟩ := List.mem_map.mp hl
          exact (rise_enc (List.all_eq_true.mp ha d hd)).2.1.nodup]
        show some (PyData.bool (!decide ((10 : Int) < ((((xs.map lotO).foldl addL []).map PyData.str).length : Nat)))) = _
        rw [List.length_map]
        by_cases q : ((xs.map lotO).foldl addL []).length ≤ 10
        · rw [decide_eq_true q, decide_eq_false (by omega)]; rfl
        · rw [decide_eq_false q, decide_eq_true (by omega)]; rfl
    · have e1 : decide ((300 : Int) < xs.length) = true := by rw [decide_eq_true_eq]; omega
      rw [e1] at h1
      rw [sSeq_rt (sIf_t h1 (sRet_eq (d := .bool false) (P1 := (0, 0)) rfl)), decide_eq_false h3]
      rfl
  | none => exact no (b := false) rfl rfl
  | bool _ => exact no (b := false) rfl rfl
  | int _ => exact no (b := false) rfl rfl
  | str _ => exact no (b := false) rfl rfl
  | tuple _ => exact no (b := false) rfl rfl
  | dict _ => exact no (b := false) rfl rfl
end W62

/-! part M62s -/
set_option Elab.async false
set_option linter.all false
set_option maxRecDepth 100000
set_option maxHeartbeats 4000000
/-! drawn numbers, drawn names; own work -/
namespace W62
open PySem PySem.Spec PyProof.Rows L2 PD

def PotOk (P : Pt) : Prop := -(2 ^ 64) < P.2 ∧ P.2 < 2 ^ 64
theorem draw_ok {P : Pt} (h : PotOk P) {m : Int} (h1 : 0 < m) (h2 : m < 1073741824) : ∃ z P1, s__law_draw P [.int m] = some (.int z, P1) ∧ 0 ≤ z ∧ z < m ∧ PotOk P1 := by
  obtain ⟨p1, p2⟩ := h
  have e : s__law_draw P [.int m] = if 0 < P.1 then some (.int (P.1 % m), (P.1 / m, P.2)) else some (.int (((P.2 * 39373 + 8167) % 2147483587 * ((P.2 * 39373 + 8167) % 2147483587) % 2147483563 / 19) % m), (P.1, (P.2 * 39373 + 8167) % 2147483587)) := if_pos ⟨h1, h2, p1, p2⟩
  rw [e]
  by_cases h0 : 0 < P.1
  · rw [if_pos h0]
    exact ⟨_, _, rfl, Int.emod_nonneg _ (by omega), Int.emod_lt_of_pos _ h1, p1, p2⟩
  · rw [if_neg h0]
    refine ⟨_, _, rfl, Int.emod_nonneg _ (by omega), Int.emod_lt_of_pos _ h1, ?_, ?_⟩
    · have : 0 ≤ (P.2 * 39373 + 8167) % 2147483587 := Int.emod_nonneg _ (by omega)
      show -(2 ^ 64) < (P.2 * 39373 + 8167) % 2147483587
      omega
    · have : (P.2 * 39373 + 8167) % 2147483587 < 2147483587 := Int.emod_lt_of_pos _ (by omega)
      show (P.2 * 39373 + 8167) % 2147483587 < 2 ^ 64
      omega
theorem eDraw {i : Nat} {ρ : En} {P P1 : Pt} {f : Ev Dt} {m : Int} (hi : ρ[i]? = some .pt) (hf : f ρ P = some (.int m, P1)) (h : PotOk P1) (h1 : 0 < m) (h2 : m < 1073741824) :
    ∃ z P2, eCallP 1 i s__law_draw (eCons f eNil) ρ P = some (.int z, P2) ∧ 0 ≤ z ∧ z < m ∧ PotOk P2 := by
  obtain ⟨z, P2, q, r⟩ := draw_ok h h1 h2
  exact ⟨z, P2, eCallP1 hi hf q, r⟩
theorem atI_some {α : Type} {xs : List α} {z : Int} (h0 : 0 ≤ z) (h1 : z < xs.length) : ∃ x, atI xs z = some x ∧ x ∈ xs := by
  have e : ((z.toNat : Nat) : Int) = z := by omega
  have hx : xs[z.toNat]? = some xs[z.toNat] := List.getElem?_eq_getElem (by omega)
  exact ⟨_, (congrArg (atI xs) e).symm.trans (atI_nat hx), List.getElem_mem (by omega : z.toNat < xs.length)⟩
theorem pick_list {P : Pt} (h : PotOk P) {ds : List Dt} (h1 : ds ≠ []) (h2 : ds.length < 1073741824) : ∃ d P1, s__law_pick P [.list ds] = some (d, P1) ∧ d ∈ ds ∧ PotOk P1 := by
  have hp : 0 < ds.length := List.length_pos_iff.mpr h1
  obtain ⟨z, P1, q, z0, z1, ok⟩ := eDraw (i := 0) (ρ := [.pt, .vw (.list ds)]) (P := P) (f := eFn gLen (eCons (vV true 1) eNil)) (m := ds.length) rfl (eFn1 rfl rfl) h (by omega) (by omega)
  obtain ⟨d, e, hd⟩ := atI_some z0 z1
  refine ⟨d, P1, ?_, hd, ok⟩
  show resP (g__law_pick [.pt, .vw (.list ds)] P) = _
  unfold g__law_pick
  rw [sRet_eq (eOp_eq (a := .list ds) (b := .int z) rfl q (show gIx (.list ds) (.int z) = some d from e))]
  rfl
theorem pick_str {P : Pt} (h : PotOk P) {z : Str} (h1 : 0 < z.length) (h2 : z.length < 1073741824) (h3 : z.length ≤ sizeLine) : ∃ c P1, s__law_pick P [.str z] = some (.str ⟨#[c]⟩, P1) ∧ c ∈ cp z ∧ PotOk P1 := by
  obtain ⟨i, P1, q, z0, z1, ok⟩ := eDraw (i := 0) (ρ := [.pt, .vw (.str z)]) (P := P) (f := eFn gLen (eCons (vV true 1) eNil)) (m := z.length) rfl (eFn1 rfl (len_str h3)) h (by omega) (by omega)
  obtain ⟨c, e, hc⟩ := atI_some (xs := cp z) z0 (by rw [len_cp]; exact z1)
  refine ⟨c, P1, ?_, hc, ok⟩
  show resP (g__law_pick [.pt, .vw (.str z)] P) = _
  unfold g__law_pick
  have hx : gIx (.str z) (.int i) = some (.str ⟨#[c]⟩) := by
    show (if z.length ≤ sizeLine then (atI (cp z) i).map fun c => PyData.str ⟨#[c]⟩ else none) = _
    rw [if_pos h3, e]; rfl
  rw [sRet_eq (eOp_eq (a := .str z) (b := .int i) rfl q hx)]
  rfl
/-- a comprehension that draws -/
theorem compL_pot {α : Type} {enc : α → Dt} {ρw : En} {tgt : Tgt} {elt : Ev Dt} {R : Dt → Prop} : ∀ {xs : List α} {P : Pt}, PotOk P → (∀ x ∈ xs, ∀ P, PotOk P → ∃ ρ1 d P1, tgt (enc x) ρw = some ρ1 ∧ elt ρ1 P = some (d, P1) ∧ R d ∧ PotOk P1) →
    ∃ ds P', compL ρw tgt eYes elt (xs.map enc) P = some (ds, P') ∧ (∀ d ∈ ds, R d) ∧ ds.length = xs.length ∧ PotOk P'
  | [], P, h, _ => ⟨[], P, rfl, fun d hd => (by cases hd), rfl, h⟩
  | x :: xs, P, h, hx => by
    obtain ⟨ρ1, d, P1, h1, h2, r, ok⟩ := hx x (List.mem_cons_self ..) P h
    obtain ⟨ds, P', q, rs, e, ok'⟩ := compL_pot (xs := xs) ok fun y hy => hx y (List.mem_cons_of_mem _ hy)
    refine ⟨d :: ds, P', ?_, fun b hb => ?_, by rw [List.length_cons, e, List.length_cons], ok'⟩
    · rw [List.map_cons, compL, h1]
      dsimp only [eYes]
      rw [h2]
      dsimp only
      rw [q]
    · rcases List.mem_cons.mp hb with e | hb
      · rw [e]; exact r
      · exact rs b hb
/-- .. with a drawn test -/
theorem compL_potT {α : Type} {enc : α → Dt} {ρw : En} {tgt : Tgt} {test : Ev Bool} {elt : Ev Dt} : ∀ {xs : List α} {P : Pt}, PotOk P → (∀ x ∈ xs, ∀ P, PotOk P → ∃ ρ1 k P1, tgt (enc x) ρw = some ρ1 ∧ test ρ1 P = some (k, P1) ∧ elt ρ1 P1 = some (enc x, P1) ∧ PotOk P1) →
    ∃ (ys : List α) (P' : Pt), compL ρw tgt test elt (xs.map enc) P = some (ys.map enc, P') ∧ ys.Sublist xs ∧ PotOk P'
  | [], P, h, _ => ⟨[], P, rfl, List.Sublist.refl _, h⟩
  | x :: xs, P, h, hx => by
    obtain ⟨ρ1, k, P1, h1, h2, h3, ok⟩ := hx x (List.mem_cons_self ..) P h
    obtain ⟨ys, P', q, hs, ok'⟩ := compL_potT (xs := xs) ok fun y hy => hx y (List.mem_cons_of_mem _ hy)
    cases k with
    | false =>
      refine ⟨ys, P', ?_, hs.cons x, ok'⟩
      rw [List.map_cons, compL, h1]
      dsimp only
      rw [h2]
      exact q
    | true =>
      refine ⟨x :: ys, P', ?_, hs.cons₂ x, ok'⟩
      rw [List.map_cons, compL, h1]
      dsimp only
      rw [h2]
      dsimp only
      rw [h3]
      dsimp only
      rw [q]
      rfl
theorem cp_append (x y : Str) : cp (x ++ y) = cp x ++ cp y := by
  show (x.cps ++ y.cps).toList = _
  rw [Array.toList_append]
theorem cp_join : ∀ l : List Str, cp (Str.join Str.empty l) = (l.map cp).flatten
  | [] => rfl
  | [x] => by simp [Str.join]
  | x :: y :: l => by
    show cp (x ++ Str.empty ++ Str.join Str.empty (y :: l)) = _
    rw [cp_append, cp_append, cp_join (y :: l), List.map_cons (a := x), List.flatten_cons]
    simp [Str.empty]
theorem eJoin_eq {f1 f2 : Ev Dt} {ρ : En} {P P1 P2 : Pt} {a : Str} {l : List Str} (h1 : f1 ρ P = some (.str a, P1)) (h2 : f2 ρ P1 = some (.list (l.map .str), P2)) (hl : (l.map (·.length)).sum + l.length * a.length ≤ 16777216) : eJoin f1 f2 ρ P = some (.str (Txt.join a l), P2) := by
  unfold eJoin
  rw [h1]; dsimp only; rw [h2]; dsimp only; rw [strsOf_map]; dsimp only; rw [if_pos hl]
theorem strs_of {R : Str → Prop} : ∀ {ds : List Dt}, (∀ d ∈ ds, ∃ z, d = .str z ∧ R z) → ∃ l : Lot, ds = l.map .str ∧ ∀ z ∈ l, R z
  | [], _ => ⟨[], rfl, fun z h => by cases h⟩
  | d :: ds, h => by
    obtain ⟨z, e, r⟩ := h d (List.mem_cons_self ..)
    obtain ⟨l, e2, rs⟩ := strs_of (ds := ds) fun b hb => h b (List.mem_cons_of_mem _ hb)
    refine ⟨z :: l, by rw [e, e2]; rfl, fun w hw => ?_⟩
    rcases List.mem_cons.mp hw with q | q
    · rw [q]; exact r
    · exact rs w q
theorem eComp_of {own : List Nat} {it : Ev (List Dt)} {tgt : Tgt} {test : Ev Bool} {elt : Ev Dt} {ρ : En} {P P1 P2 : Pt} {ds es : List Dt} (h1 : it ρ P = some (ds, P1)) (h2 : compL (wipeD ρ own) tgt test elt ds P1 = some (es, P2)) (hl : es.length ≤ sizeLine) : eComp own it tgt test elt ρ P = some (.list es, P2) := by
  unfold eComp
  rw [h1]; dsimp only; rw [h2]; dsimp only; rw [if_pos hl]
theorem sPar_eq {i j : Nat} {g : Ev (List Dt)} {ρ : En} {P P1 : Pt} {d1 d2 : Dt} (h : g ρ P = some ([d1, d2], P1)) : sPar i j g ρ P = some (.nx, (ρ.set i (.sh d1)).set j (.sh d2), P1) := by unfold sPar; rw [h]
theorem one_chars : ∀ {l : Lot}, (∀ z ∈ l, ∃ c, z = ⟨#[c]⟩ ∧ c ∈ cp LTR) → (∀ c ∈ (l.map cp).flatten, c ∈ cp LTR) ∧ (l.map cp).flatten.length = l.length ∧ (l.map (·.length)).sum = l.length
  | [], _ => ⟨fun c h => (by cases h), rfl, rfl⟩
  | z :: l, h => by
    obtain ⟨h1, h2, h3⟩ := one_chars (l := l) fun w hw => h w (List.mem_cons_of_mem _ hw)
    obtain ⟨c, rfl, hc⟩ := h z (List.mem_cons_self ..)
    have ec : cp ⟨#[c]⟩ = [c] := rfl
    refine ⟨fun d hd => ?_, ?_, ?_⟩
    · rw [List.map_cons, List.flatten_cons, ec] at hd
      rcases List.mem_append.mp hd with q | q
      · rw [List.mem_singleton.mp q]; exact hc
      · exact h1 d q
    · rw [List.map_cons, List.flatten_cons, ec, List.length_append, h2]; simp; omega
    · rw [List.map_cons, List.sum_cons, h3]
      show 1 + _ = _
      simp; omega
/-- the stem -/
theorem stem_ok {P : Pt} (h : PotOk P) {many a3 a4 a5 a6 a7 a8 a9 a10 a11 : DV} : ∃ st P1, eJoin (eC (.str "")) (eComp [11] (asR1 (eCons (eOp gAdd (eC (.int 1)) (eCallP 1 0 s__law_draw (eCons (eC (.int 5)) eNil))) eNil)) (gN true 11) eYes (eCallP 1 0 s__law_pick (eCons (vV true 2) eNil))) [.pt, many, .sh (.str LTR), a3, a4, a5, a6, a7, a8, a9, a10, a11] P = some (.str st, P1) ∧ PotOk P1 ∧ 1 ≤ st.length ∧ st.length ≤ 5 ∧ ∀ c ∈ cp st, c ∈ cp LTR := by
  obtain ⟨z, P1, q, z0, z1, ok⟩ := eDraw (i := 0) (ρ := [.pt, many, .sh (.str LTR), a3, a4, a5, a6, a7, a8, a9, a10, a11]) (P := P) (f := eC (.int 5)) (m := 5) rfl rfl h (by omega) (by omega)
  have hr : asR1 (eCons (eOp gAdd (eC (.int 1)) (eCallP 1 0 s__law_draw (eCons (eC (.int 5)) eNil))) eNil) [.pt, many, .sh (.str LTR), a3, a4, a5, a6, a7, a8, a9, a10, a11] P = some ((List.range (1 + z).toNat).map fun i : Nat => PyData.int (0 + (i : Int)), P1) :=
    asR1_eq (eCons_eq (eOp_eq (a := .int 1) (b := .int z) rfl q rfl) eNil_eq) (by omega) (by omega)
  obtain ⟨ds, P2, q2, rs, e, ok2⟩ := compL_pot (enc := fun i : Nat => PyData.int (0 + (i : Int))) (xs := List.range (1 + z).toNat) (ρw := wipeD [.pt, many, .sh (.str LTR), a3, a4, a5, a6, a7, a8, a9, a10, a11] [11]) (tgt := gN true 11) (elt := eCallP 1 0 s__law_pick (eCons (vV true 2) eNil)) (R := fun d => ∃ s, d = .str s ∧ ∃ c, s = ⟨#[c]⟩ ∧ c ∈ cp LTR) ok fun i hi P hP => by
    obtain ⟨c, P1, q, hc, ok⟩ := pick_str hP (z := LTR) (by decide +kernel) (by decide +kernel) (by decide +kernel)
    exact ⟨_, _, P1, rfl, eCallP1 rfl rfl q, ⟨_, rfl, c, rfl, hc⟩, ok⟩
  obtain ⟨l, rfl, hl⟩ := strs_of rs
  obtain ⟨g1, g2, g3⟩ := one_chars hl
  rw [List.length_map, List.length_range] at e
  have ej : cp (Txt.join "" l) = (l.map cp).flatten := by rw [TL.join_eq]; exact cp_join l
  have elen : (Txt.join "" l).length = l.length := by rw [← len_cp, ej, g2]
  refine ⟨_, P2, eJoin_eq (a := "") (l := l) rfl (eComp_of hr q2 ?_) ?_, ok2, ?_, ?_, ?_⟩
  · rw [List.length_map]; exact Nat.le_trans (by omega) (show 5 ≤ sizeLine by decide)
  · rw [g3, show ("" : Str).length = 0 from rfl]; omega
  · rw [elen]; omega
  · rw [elen]; omega
  · rw [ej]; exact g1
theorem cut_to {z : Str} {k : Int} (h0 : 0 ≤ k) (h1 : k ≤ z.length) : cp (cutS z none (some k)) = (cp z).take k.toNat := by
  have e : ((k.toNat : Nat) : Int) = k := by omega
  show ((cp z).drop (HT.sIx z.length 0 none)).take (HT.sIx z.length z.length (some k) - HT.sIx z.length 0 none) = _
  rw [← e, HT.sIx_nat, HT.sIx_none, List.drop_zero, Int.toNat_natCast]
  congr 1
  omega
theorem cut_from {z : Str} {k : Int} (h0 : 0 ≤ k) (h1 : k ≤ z.length) : cp (cutS z (some k) none) = (cp z).drop k.toNat := by
  have e : ((k.toNat : Nat) : Int) = k := by omega
  show ((cp z).drop (HT.sIx z.length 0 (some k))).take (HT.sIx z.length z.length none - HT.sIx z.length 0 (some k)) = _
  rw [← e, HT.sIx_nat, HT.sIx_none, Int.toNat_natCast]
  have e1 : min k.toNat z.length = k.toNat := by omega
  rw [e1]
  exact List.take_of_length_le (by rw [List.length_drop, len_cp]; omega)
def bys : List Int := [1, 3, 5, 7, 11, 17, 25]
def mores : Lot := ["", "0", "9", "zz"]
theorem ld_of {c : Nat} (h : c ∈ cp LTR) : c ∈ cp LD := by rw [ld_eq]; exact List.mem_append_left _ h
theorem mores_ok : ∀ m ∈ mores, m.length ≤ 2 ∧ ∀ c ∈ cp m, c ∈ cp LD := by decide +kernel
theorem ltr_len : (cp LTR).length = 26 := by decide +kernel
theorem ltr_nodup : (cp LTR).Nodup := by decide +kernel
/-- one name: stem up to at, the sign, the rest, more -/
structure IsNm (at_ first by_ : Int) (k : Nat) (z : Str) : Prop where
  nm : nameB z = true
  sg : (cp z)[at_.toNat]? = (cp LTR)[((first + by_ * (k : Int)) % 26).toNat]?
theorem nm_ok {st m : Str} {at_ first by_ : Int} {k c : Nat} (h1 : 1 ≤ st.length) (h2 : st.length ≤ 5) (h3 : ∀ c ∈ cp st, c ∈ cp LTR) (h4 : 0 ≤ at_) (h5 : at_ ≤ st.length) (hm : m ∈ mores) (hc : (cp LTR)[((first + by_ * (k : Int)) % 26).toNat]? = some c) :
    IsNm at_ first by_ k (cutS st none (some at_) ++ ⟨#[c]⟩ ++ cutS st (some at_) none ++ m) := by
  obtain ⟨m1, m2⟩ := mores_ok m hm
  have hcl : c ∈ cp LTR := List.mem_of_getElem? hc
  have e : cp (cutS st none (some at_) ++ ⟨#[c]⟩ ++ cutS st (some at_) none ++ m) = (cp st).take at_.toNat ++ c :: ((cp st).drop at_.toNat ++ cp m) := by
    rw [cp_append, cp_append, cp_append, cut_to h4 h5, cut_from h4 h5, show cp ⟨#[c]⟩ = [c] from rfl]
    simp
  have hl := len_cp st
  constructor
  · unfold nameB
    rw [← len_cp, e]
    have l1 : ((cp st).take at_.toNat ++ c :: ((cp st).drop at_.toNat ++ cp m)).length = st.length + 1 + m.length := by
      rw [List.length_append, List.length_take, List.length_cons, List.length_append, List.length_drop, hl, len_cp m]
      omega
    rw [l1]
    have a1 : hdL ((cp st).take at_.toNat ++ c :: ((cp st).drop at_.toNat ++ cp m)) = true := by
      cases q : (cp st).take at_.toNat with
      | nil => exact decide_eq_true hcl
      | cons d r => exact decide_eq_true (h3 d (List.mem_of_mem_take (q ▸ List.mem_cons_self ..)))
    have a2 : ((cp st).take at_.toNat ++ c :: ((cp st).drop at_.toNat ++ cp m)).all (fun c => decide (c ∈ cp LD)) = true := by
      rw [List.all_eq_true]
      intro d hd
      rw [decide_eq_true_eq]
      rcases List.mem_append.mp hd with q | q
      · exact ld_of (h3 d (List.mem_of_mem_take q))
      · rcases List.mem_cons.mp q with q | q
        · rw [q]; exact ld_of hcl
        · rcases List.mem_append.mp q with q | q
          · exact ld_of (h3 d (List.mem_of_mem_drop q))
          · exact m2 d q
    rw [a1, a2]
    simp only [Bool.and_true, Bool.and_eq_true, decide_eq_true_eq]
    omega
  · rw [e, hc, List.getElem?_append_right (by rw [List.length_take]; omega), List.length_take, hl, show at_.toNat - min at_.toNat st.length = 0 by omega]
    rfl
abbrev nmBody : Sv := (sSeq (sSetN true 10 (eIf (asB (eOp gEq (vV true 9) (eC (.int 1)))) (eCallP 1 0 s__law_pick (eCons (eLst (eCons (eC (.str "")) (eCons (eC (.str "0")) (eCons (eC (.str "9")) (eCons (eC (.str "zz")) eNil))))) eNil)) (eC (.str "")))) (sApp 4 (eOp gAdd (eOp gAdd (eOp gAdd (eSl (vV true 3) oNo (oAt (vV true 6))) (eOp gIx (vV true 2) (eOp gMod (eFn gInt (eCons (eOp gAdd (vV true 7) (eOp gMul (vV true 8) (vV true 5))) eNil)) (eC (.int 26))))) (eSl (vV true 3) (oAt (vV true 6)) oNo)) (vV true 10))))
theorem gAdd_str {a b : Str} (h : a.length + b.length ≤ sizeLine) : gAdd (.str a) (.str b) = some (.str (a ++ b)) := if_pos h
theorem len_append (a b : Str) : (a ++ b).length = a.length + b.length := by
  rw [← len_cp, cp_append, List.length_append, len_cp, len_cp]
theorem gMul_small {a b : Int} (h1 : 0 ≤ a) (h2 : a < 1024) (h3 : 0 ≤ b) (h4 : b < 1024) : gMul (.int a) (.int b) = some (.int (a * b)) := by
  have e : cMul a b = true := by
    unfold cMul
    rw [decide_eq_true_eq]
    have f1 : a.natAbs.log2 < 1024 := by
      have := Nat.log2_le_self a.natAbs
      omega
    have f2 : b.natAbs.log2 < 1024 := by
      have := Nat.log2_le_self b.natAbs
      omega
    omega
  show (if cMul a b = true then some (PyData.int (a * b)) else none) = _
  rw [if_pos e]
theorem nm_body {P : Pt} (hP : PotOk P) {st : Str} {at_ first by_ loose many : Int} {k : Nat} {l : Lot} {a5 a10 a11 : DV} (h1 : 1 ≤ st.length) (h2 : st.length ≤ 5) (h3 : ∀ c ∈ cp st, c ∈ cp LTR) (h4 : 0 ≤ at_) (h5 : at_ ≤ st.length) (h6 : 0 ≤ first ∧ first < 26) (h7 : by_ ∈ bys) (hk : k < 11) (hl : l.length = k) :
    ∃ z P1 a10', nmBody [.pt, .sh (.int many), .sh (.str LTR), .sh (.str st), .ow (l.map .str), .sh (.int (0 + (k : Int))), .sh (.int at_), .sh (.int first), .sh (.int by_), .sh (.int loose), a10, a11] P = some (.nx, [.pt, .sh (.int many), .sh (.str LTR), .sh (.str st), .ow ((l ++ [z]).map .str), .sh (.int (0 + (k : Int))), .sh (.int at_), .sh (.int first), .sh (.int by_), .sh (.int loose), a10', a11], P1) ∧ PotOk P1 ∧ IsNm at_ first by_ k z := by
  have big : 1000 ≤ sizeLine := by decide
  have hby : 0 ≤ by_ ∧ by_ < 26 := by
    have : ∀ b ∈ bys, 0 ≤ b ∧ b < 26 := by decide
    exact this _ h7
  have hm : ∃ m P1, eIf (asB (eOp gEq (vV true 9) (eC (.int 1)))) (eCallP 1 0 s__law_pick (eCons (eLst (eCons (eC (.str "")) (eCons (eC (.str "0")) (eCons (eC (.str "9")) (eCons (eC (.str "zz")) eNil))))) eNil)) (eC (.str "")) [.pt, .sh (.int many), .sh (.str LTR), .sh (.str st), .ow (l.map .str), .sh (.int (0 + (k : Int))), .sh (.int at_), .sh (.int first), .sh (.int by_), .sh (.int loose), a10, a11] P = some (.str m, P1) ∧ PotOk P1 ∧ m ∈ mores := by
    have ht : asB (eOp gEq (vV true 9) (eC (.int 1))) [.pt, .sh (.int many), .sh (.str LTR), .sh (.str st), .ow (l.map .str), .sh (.int (0 + (k : Int))), .sh (.int at_), .sh (.int first), .sh (.int by_), .sh (.int loose), a10, a11] P = some (decide (loose = 1), P) := asB_eq (eOp_eq (a := .int loose) (b := .int 1) rfl rfl (gEq_int _ _))
    cases hq : decide (loose = 1) with
    | false =>
      rw [hq] at ht
      exact ⟨_, P, eIf_f ht rfl, hP, by decide +kernel⟩
    | true =>
      rw [hq] at ht
      obtain ⟨d, P1, q, hd, ok⟩ := pick_list hP (ds := mores.map .str) (by decide +kernel) (by decide +kernel)
      obtain ⟨m, hm, rfl⟩ := List.mem_map.mp hd
      exact ⟨m, P1, eIf_t ht (eCallP1 rfl (eLst_eq (ds := mores.map .str) (P1 := P) rfl (by decide +kernel)) q), ok, hm⟩
  obtain ⟨m, P1, q1, ok1, hmm⟩ := hm
  have hr : ((first + by_ * (k : Int)) % 26).toNat < (cp LTR).length := by
    rw [ltr_len]
    have := Int.emod_lt_of_pos (first + by_ * (k : Int)) (show (0:Int) < 26 by omega)
    have := Int.emod_nonneg (first + by_ * (k : Int)) (show (26:Int) ≠ 0 by omega)
    omega
  have hc : (cp LTR)[((first + by_ * (k : Int)) % 26).toNat]? = some (cp LTR)[((first + by_ * (k : Int)) % 26).toNat] := List.getElem?_eq_getElem hr
  generalize (cp LTR)[((first + by_ * (k : Int)) % 26).toNat] = c at hc
  refine ⟨_, P1, .sh (.str m), ?_, ok1, nm_ok (c := c) h1 h2 h3 h4 h5 hmm hc⟩
  rw [show nmBody = sSeq _ _ from rfl, sSeq_go (sSetN_eq q1)]
  obtain ⟨mm1, _⟩ := mores_ok m hmm
  have ha := sApp_eq (i := 4) (P := P1) (P1 := P1) (ds := l.map .str) (d := .str (cutS st none (some at_) ++ ⟨#[c]⟩ ++ cutS st (some at_) none ++ m)) (ρ := [.pt, .sh (.int many), .sh (.str LTR), .sh (.str st), .ow (l.map .str), .sh (.int (0 + (k : Int))), .sh (.int at_), .sh (.int first), .sh (.int by_), .sh (.int loose), .sh (.str m), a11])
    (f := eOp gAdd (eOp gAdd (eOp gAdd (eSl (vV true 3) oNo (oAt (vV true 6))) (eOp gIx (vV true 2) (eOp gMod (eFn gInt (eCons (eOp gAdd (vV true 7) (eOp gMul (vV true 8) (vV true 5))) eNil)) (eC (.int 26))))) (eSl (vV true 3) (oAt (vV true 6)) oNo)) (vV true 10)) ?_ rfl (by rw [List.length_map]; omega)
  · refine ha.trans ?_
    rw [List.map_append]
    rfl
  · have c1 := L2.cutS_length st none (some at_)
    have c2 := L2.cutS_length st (some at_) none
    have c3 : (⟨#[c]⟩ : Str).length = 1 := rfl
    have s1 : eSl (vV true 3) oNo (oAt (vV true 6)) [.pt, .sh (.int many), .sh (.str LTR), .sh (.str st), .ow (l.map .str), .sh (.int (0 + (k : Int))), .sh (.int at_), .sh (.int first), .sh (.int by_), .sh (.int loose), .sh (.str m), a11] P1 = some (.str (cutS st none (some at_)), P1) :=
      eSl_eq (a := .str st) rfl rfl rfl (if_pos (by omega))
    have s2 : eSl (vV true 3) (oAt (vV true 6)) oNo [.pt, .sh (.int many), .sh (.str LTR), .sh (.str st), .ow (l.map .str), .sh (.int (0 + (k : Int))), .sh (.int at_), .sh (.int first), .sh (.int by_), .sh (.int loose), .sh (.str m), a11] P1 = some (.str (cutS st (some at_) none), P1) :=
      eSl_eq (a := .str st) rfl rfl rfl (if_pos (by omega))
    have s3 : eOp gMod (eFn gInt (eCons (eOp gAdd (vV true 7) (eOp gMul (vV true 8) (vV true 5))) eNil)) (eC (.int 26)) [.pt, .sh (.int many), .sh (.str LTR), .sh (.str st), .ow (l.map .str), .sh (.int (0 + (k : Int))), .sh (.int at_), .sh (.int first), .sh (.int by_), .sh (.int loose), .sh (.str m), a11] P1 = some (.int ((first + by_ * (k : Int)) % 26), P1) := by
      refine eOp_eq (a := .int (first + by_ * (k : Int))) (b := .int 26) (eFn1 (eOp_eq (a := .int first) (b := .int (by_ * (k : Int))) rfl (eOp_eq (a := .int by_) (b := .int (0 + (k : Int))) rfl rfl ?_) rfl) rfl) rfl rfl
      rw [Int.zero_add]
      exact gMul_small hby.1 (by omega) (by omega) (by omega)
    have s4 : gIx (.str LTR) (.int ((first + by_ * (k : Int)) % 26)) = some (.str ⟨#[c]⟩) := by
      show (if LTR.length ≤ sizeLine then (atI (cp LTR) ((first + by_ * (k : Int)) % 26)).map fun c => PyData.str ⟨#[c]⟩ else none) = _
      have e : (((((first + by_ * (k : Int)) % 26).toNat : Nat)) : Int) = (first + by_ * (k : Int)) % 26 := by
        have := Int.emod_nonneg (first + by_ * (k : Int)) (show (26:Int) ≠ 0 by omega)
        omega
      rw [if_pos (by decide +kernel), ← e, atI_nat hc]
      rfl
    exact eOp_eq (eOp_eq (eOp_eq s1 (eOp_eq (a := .str LTR) rfl s3 s4) (gAdd_str (by omega))) s2 (gAdd_str (by rw [len_append]; omega))) rfl (gAdd_str (by rw [len_append, len_append]; omega))
theorem nm_loop {st : Str} {at_ first by_ loose many : Int} {a11 : DV} (h1 : 1 ≤ st.length) (h2 : st.length ≤ 5) (h3 : ∀ c ∈ cp st, c ∈ cp LTR) (h4 : 0 ≤ at_) (h5 : at_ ≤ st.length) (h6 : 0 ≤ first ∧ first < 26) (h7 : by_ ∈ bys) : ∀ (n k : Nat) (l : Lot) (P : Pt) (a5 a10 : DV), PotOk P → k + n ≤ 11 → l.length = k → (∀ i z, l[i]? = some z → IsNm at_ first by_ i z) →
    ∃ (l' : Lot) (P1 : Pt) (a5' a10' : DV), forL (gN true 5) nmBody ((List.range' k n).map fun i : Nat => PyData.int (0 + (i : Int))) [.pt, .sh (.int many), .sh (.str LTR), .sh (.str st), .ow (l.map .str), a5, .sh (.int at_), .sh (.int first), .sh (.int by_), .sh (.int loose), a10, a11] P = some (.nx, [.pt, .sh (.int many), .sh (.str LTR), .sh (.str st), .ow (l'.map .str), a5', .sh (.int at_), .sh (.int first), .sh (.int by_), .sh (.int loose), a10', a11], P1) ∧ PotOk P1 ∧ l'.length = k + n ∧ ∀ i z, l'[i]? = some z → IsNm at_ first by_ i z
  | 0, k, l, P, a5, a10, hP, hk, hl, hi => ⟨l, P, a5, a10, rfl, hP, hl, hi⟩
  | n + 1, k, l, P, a5, a10, hP, hk, hl, hi => by
    obtain ⟨z, P1, b10, q, ok, hz⟩ := nm_body (many := many) (loose := loose) (a5 := a5) (a10 := a10) (a11 := a11) hP h1 h2 h3 h4 h5 h6 h7 (show k < 11 by omega) hl
    obtain ⟨l', P2, c5, c10, q2, ok2, hl', hi'⟩ := nm_loop h1 h2 h3 h4 h5 h6 h7 n (k + 1) (l ++ [z]) P1 (.sh (.int (0 + (k : Int)))) b10 ok (by omega) (by simp [hl]) (fun i w hw => by
      by_cases q : i < l.length
      · rw [List.getElem?_append_left q] at hw
        exact hi i w hw
      · rw [List.getElem?_append_right (by omega)] at hw
        have e : i - l.length = 0 := by
          cases r : i - l.length with
          | zero => rfl
          | succ j => rw [r] at hw; simp at hw
        rw [e] at hw
        simp at hw
        subst hw
        have : i = k := by omega
        subst this
        exact hz)
    refine ⟨l', P2, c5, c10, ?_, ok2, by omega, hi'⟩
    have hx : forL (gN true 5) nmBody ((List.range' k (n + 1)).map fun i : Nat => PyData.int (0 + (i : Int))) [.pt, .sh (.int many), .sh (.str LTR), .sh (.str st), .ow (l.map .str), a5, .sh (.int at_), .sh (.int first), .sh (.int by_), .sh (.int loose), a10, a11] P = match nmBody [.pt, .sh (.int many), .sh (.str LTR), .sh (.str st), .ow (l.map .str), .sh (.int (0 + (k : Int))), .sh (.int at_), .sh (.int first), .sh (.int by_), .sh (.int loose), a10, a11] P with
      | none => none
      | some (.nx, ρ2, P2) => forL (gN true 5) nmBody ((List.range' (k + 1) n).map fun i : Nat => PyData.int (0 + (i : Int))) ρ2 P2
      | some (.ct, ρ2, P2) => forL (gN true 5) nmBody ((List.range' (k + 1) n).map fun i : Nat => PyData.int (0 + (i : Int))) ρ2 P2
      | some (.bk, ρ2, P2) => some (.nx, ρ2, P2)
      | some (.rt d, ρ2, P2) => some (.rt d, ρ2, P2) := rfl
    rw [hx, q]
    exact q2
theorem nm_nodup {at_ first by_ : Int} {l : Lot} (h7 : by_ ∈ bys) (hl : l.length ≤ 11) (hi : ∀ i z, l[i]? = some z → IsNm at_ first by_ i z) : l.Nodup := by
  refine List.pairwise_iff_getElem.mpr fun i j _ hj hij e => ?_
  have h1 : l[i]? = some l[i] := List.getElem?_eq_getElem (by omega)
  have h2 : l[j]? = some l[j] := List.getElem?_eq_getElem (by omega)
  have g1 := (hi i _ h1).sg
  have g2 := (hi j _ h2).sg
  rw [e] at g1
  have g := g1.symm.trans g2
  have b1 := Int.emod_lt_of_pos (first + by_ * (i : Int)) (show (0:Int) < 26 by omega)
  have b2 := Int.emod_nonneg (first + by_ * (i : Int)) (show (26:Int) ≠ 0 by omega)
  have b3 := Int.emod_lt_of_pos (first + by_ * (j : Int)) (show (0:Int) < 26 by omega)
  have b4 := Int.emod_nonneg (first + by_ * (j : Int)) (show (26:Int) ≠ 0 by omega)
  have hlt : ((first + by_ * (i : Int)) % 26).toNat < (cp LTR).length := by rw [ltr_len]; omega
  have e2 := (List.getElem?_inj hlt ltr_nodup).mp g
  have e3 : (first + by_ * (i : Int)) % 26 = (first + by_ * (j : Int)) % 26 := by omega
  simp only [bys, List.mem_cons, List.not_mem_nil, or_false] at h7
  rcases h7 with rfl | rfl | rfl | rfl | rfl | rfl | rfl <;> omega
theorem names_ok {P : Pt} (h : PotOk P) {many : Int} (h0 : 0 ≤ many) (h1 : many ≤ 11) : ∃ l P1, s__law_names P [.int many] = some (eS l, P1) ∧ PotOk P1 ∧ l.length = many.toNat ∧ l.Nodup ∧ ∀ z ∈ l, nameB z = true := by
  obtain ⟨st, P1, q1, ok1, s1, s2, s3⟩ := stem_ok h (many := .sh (.int many)) (a3 := .un) (a4 := .un) (a5 := .un) (a6 := .un) (a7 := .un) (a8 := .un) (a9 := .un) (a10 := .un) (a11 := .un)
  have slen : gLen [.str st] = some (.int st.length) := len_str (Nat.le_trans s2 (by decide))
  obtain ⟨at_, P2, q2, a0, a1, ok2⟩ := eDraw (i := 0) (ρ := [.pt, .sh (.int many), .sh (.str LTR), .sh (.str st), .un, .un, .un, .un, .un, .un, .un, .un]) (P := P1) (f := eOp gAdd (eFn gLen (eCons (vV true 3) eNil)) (eC (.int 1))) (m := (st.length : Int) + 1) rfl (eOp_eq (a := .int st.length) (b := .int 1) (eFn1 rfl slen) rfl rfl) ok1 (by omega) (by omega)
  obtain ⟨first, P3, q3, f0, f1, ok3⟩ := eDraw (i := 0) (ρ := [.pt, .sh (.int many), .sh (.str LTR), .sh (.str st), .un, .un, .un, .un, .un, .un, .un, .un]) (P := P2) (f := eC (.int 26)) (m := 26) rfl rfl ok2 (by omega) (by omega)
  obtain ⟨d, P4, q4, hd, ok4⟩ := pick_list ok3 (ds := bys.map .int) (by decide) (by decide)
  obtain ⟨by_, hby, rfl⟩ := List.mem_map.mp hd
  obtain ⟨loose, P5, q5, l0, l1, ok5⟩ := eDraw (i := 0) (ρ := [.pt, .sh (.int many), .sh (.str LTR), .sh (.str st), .un, .un, .sh (.int at_), .sh (.int first), .un, .un, .un, .un]) (P := P4) (f := eC (.int 2)) (m := 2) rfl rfl ok4 (by omega) (by omega)
  obtain ⟨l, P6, x5, x10, q6, ok6, ll, hi⟩ := nm_loop (many := many) (loose := loose) (a11 := .un) s1 s2 s3 a0 (show at_ ≤ st.length by omega) ⟨f0, f1⟩ hby many.toNat 0 [] P5 .un .un ok5 (by omega) rfl (fun i z hz => by simp at hz)
  refine ⟨l, P6, ?_, ok6, by omega, nm_nodup hby (by omega) hi, fun z hz => ?_⟩
  · show resP (g__law_names [.pt, .sh (.int many), .un, .un, .un, .un, .un, .un, .un, .un, .un, .un] P) = _
    unfold g__law_names
    have t0 : sSetN true 2 (eC (.str LTR)) [.pt, .sh (.int many), .un, .un, .un, .un, .un, .un, .un, .un, .un, .un] P = some (.nx, [.pt, .sh (.int many), .sh (.str LTR), .un, .un, .un, .un, .un, .un, .un, .un, .un], P) := sSetN_eq rfl
    have t1 : sSetN true 3 (eJoin (eC (.str "")) (eComp [11] (asR1 (eCons (eOp gAdd (eC (.int 1)) (eCallP 1 0 s__law_draw (eCons (eC (.int 5)) eNil))) eNil)) (gN true 11) eYes (eCallP 1 0 s__law_pick (eCons (vV true 2) eNil)))) [.pt, .sh (.int many), .sh (.str LTR), .un, .un, .un, .un, .un, .un, .un, .un, .un] P = some (.nx, [.pt, .sh (.int many), .sh (.str LTR), .sh (.str st), .un, .un, .un, .un, .un, .un, .un, .un], P1) := sSetN_eq q1
    have t2 : sPar 6 7 (eCons (eCallP 1 0 s__law_draw (eCons (eOp gAdd (eFn gLen (eCons (vV true 3) eNil)) (eC (.int 1))) eNil)) (eCons (eCallP 1 0 s__law_draw (eCons (eC (.int 26)) eNil)) eNil)) [.pt, .sh (.int many), .sh (.str LTR), .sh (.str st), .un, .un, .un, .un, .un, .un, .un, .un] P1 = some (.nx, [.pt, .sh (.int many), .sh (.str LTR), .sh (.str st), .un, .un, .sh (.int at_), .sh (.int first), .un, .un, .un, .un], P3) := sPar_eq (eCons_eq q2 (eCons_eq q3 eNil_eq))
    have t3 : sPar 8 9 (eCons (eCallP 1 0 s__law_pick (eCons (eLst (eCons (eC (.int 1)) (eCons (eC (.int 3)) (eCons (eC (.int 5)) (eCons (eC (.int 7)) (eCons (eC (.int 11)) (eCons (eC (.int 17)) (eCons (eC (.int 25)) eNil)))))))) eNil)) (eCons (eCallP 1 0 s__law_draw (eCons (eC (.int 2)) eNil)) eNil)) [.pt, .sh (.int many), .sh (.str LTR), .sh (.str st), .un, .un, .sh (.int at_), .sh (.int first), .un, .un, .un, .un] P3 = some (.nx, [.pt, .sh (.int many), .sh (.str LTR), .sh (.str st), .un, .un, .sh (.int at_), .sh (.int first), .sh (.int by_), .sh (.int loose), .un, .un], P5) :=
      sPar_eq (eCons_eq (eCallP1 rfl (eLst_eq (ds := bys.map .int) (P1 := P3) rfl (by decide)) q4) (eCons_eq q5 eNil_eq))
    have t4 : sNew 4 eNil [.pt, .sh (.int many), .sh (.str LTR), .sh (.str st), .un, .un, .sh (.int at_), .sh (.int first), .sh (.int by_), .sh (.int loose), .un, .un] P5 = some (.nx, [.pt, .sh (.int many), .sh (.str LTR), .sh (.str st), .ow [], .un, .sh (.int at_), .sh (.int first), .sh (.int by_), .sh (.int loose), .un, .un], P5) := sNew_eq eNil_eq (Nat.zero_le _)
    have t5 : sFor (asR1 (eCons (eV true 1) eNil)) (gN true 5) nmBody [.pt, .sh (.int many), .sh (.str LTR), .sh (.str st), .ow [], .un, .sh (.int at_), .sh (.int first), .sh (.int by_), .sh (.int loose), .un, .un] P5 = some (.nx, [.pt, .sh (.int many), .sh (.str LTR), .sh (.str st), .ow (l.map .str), x5, .sh (.int at_), .sh (.int first), .sh (.int by_), .sh (.int loose), x10, .un], P6) := by
      unfold sFor
      rw [asR1_eq (j := many) (P1 := P5) (eCons_eq (d := .int many) rfl eNil_eq) (by omega) (by omega), List.range_eq_range']
      exact q6
    rw [sSeq_go t0, sSeq_go t1, sSeq_go t2, sSeq_go t3, sSeq_go t4, sSeq_go t5, sFrz_eq (ds := l.map .str) rfl (sRet_eq (d := eS l) (P1 := P6) rfl)]
    rfl
  · obtain ⟨i, hi2⟩ := List.mem_iff_getElem?.mp hz
    exact (hi i z hi2).nm
end W62

/-! part M62t -/
set_option Elab.async false
set_option linter.all false
set_option maxRecDepth 100000
set_option maxHeartbeats 4000000
/-! bent values, great families; own work -/
namespace W62
open PySem PySem.Spec PyProof.Rows L2 PD

abbrev Sh (l : Lot) : Prop := ∀ z ∈ l, z.length ≤ 9
def Short (y : Dt) : Prop := ∀ z, y = .str z → z.length ≤ 9
theorem Short.fit {y : Dt} (h : Short y) : Fit1 y := fun z e => Nat.le_trans (h z e) (by decide)
structure FFb (a s : Nat) (xs : List Dt) : Prop where
  len : xs.length ≤ a
  sum : (xs.map lens).sum ≤ s
  fit : ∀ x ∈ xs, ∀ ys, x = .list ys → ∀ y ∈ ys, Short y
theorem FFb.fam {a s : Nat} {xs : List Dt} (h : FFb a s xs) (ha : a ≤ 1000) (hs : s ≤ 4000) : FamFit (.list xs) := fun zs e => by
  cases e
  exact ⟨Nat.le_trans h.len (Nat.le_trans ha (by decide)), Nat.le_trans h.sum hs, fun x hx ys e y hy => (h.fit x hx ys e y hy).fit⟩
theorem FFb.app {a s b t : Nat} {xs ys : List Dt} (h : FFb a s xs) (g : FFb b t ys) : FFb (a + b) (s + t) (xs ++ ys) := by
  refine ⟨?_, ?_, fun x hx => ?_⟩
  · rw [List.length_append]; have := h.len; have := g.len; omega
  · rw [List.map_append, List.sum_append]; have := h.sum; have := g.sum; omega
  · rcases List.mem_append.mp hx with q | q
    · exact h.fit x q
    · exact g.fit x q
theorem FFb.nil : FFb 0 0 [] := ⟨Nat.le_refl _, Nat.le_refl _, fun x h => by cases h⟩
theorem FFb.one {ds : List Dt} {s : Nat} (h : ds.length ≤ s) (hd : ∀ d ∈ ds, Short d) : FFb 1 s [.list ds] := by
  refine ⟨Nat.le_refl _, ?_, fun x hx ys e y hy => ?_⟩
  · simp [lens]; exact h
  · rw [List.mem_singleton.mp hx] at e
    cases e
    exact hd y hy
theorem FFb.other {x : Dt} (h : ∀ ys, x ≠ .list ys) : FFb 1 0 [x] := by
  refine ⟨Nat.le_refl _, ?_, fun y hx ys e => ?_⟩
  · cases x with
    | list ys => exact absurd rfl (h ys)
    | _ => simp [lens]
  · rw [List.mem_singleton.mp hx] at e
    exact absurd e (h ys)
theorem FFb.cons {a s b t : Nat} {x : Dt} {ys : List Dt} (h : FFb a s [x]) (g : FFb b t ys) : FFb (a + b) (s + t) (x :: ys) := h.app g
theorem short_str {z : Str} (h : z.length ≤ 9) : Short (.str z) := fun w e => by cases e; exact h
theorem short_map {l : Lot} (h : Sh l) : ∀ d ∈ l.map PyData.str, Short d := fun d hd => by
  obtain ⟨z, hz, rfl⟩ := List.mem_map.mp hd
  exact short_str (h z hz)
theorem ffb_fam : ∀ {fam : List Lot}, (∀ l ∈ fam, l.length ≤ 11 ∧ Sh l) → FFb fam.length (11 * fam.length) (fam.map eS)
  | [], _ => FFb.nil
  | l :: fam, h => by
    obtain ⟨h1, h2⟩ := h l (List.mem_cons_self ..)
    have g := ffb_fam (fam := fam) fun m hm => h m (List.mem_cons_of_mem _ hm)
    have q := FFb.cons (FFb.one (ds := l.map PyData.str) (s := 11) (by rw [List.length_map]; exact h1) (short_map h2)) g
    refine ⟨Nat.le_trans q.len ?_, Nat.le_trans q.sum ?_, q.fit⟩
    · rw [List.length_cons]; omega
    · rw [List.length_cons]; omega
theorem cut_mem {ds : List Dt} {lo hi : Option Int} {d : Dt} (h : d ∈ PD.cutD ds lo hi) : d ∈ ds := List.mem_of_mem_drop (List.mem_of_mem_take h)
theorem cut_len (ds : List Dt) (lo hi : Option Int) : (PD.cutD ds lo hi).length ≤ ds.length := by
  unfold PD.cutD
  rw [List.length_take, List.length_drop]
  omega
theorem gNe_nil (xs : List Dt) : gNe (.list xs) (.list []) = some (.bool (!xs.isEmpty)) := by
  have e : min (PyData.list xs).depth (PyData.list []).depth ≤ dline := Nat.le_trans (Nat.min_le_right _ _) (by simp [PyData.depth, PyData.depthAll, dline])
  unfold gNe
  rw [if_pos e, PyData.eqv]
  cases xs with
  | nil => rw [PyData.eqvAll]; rfl
  | cons x xs => rw [PyData.eqvAll]; rfl
  all_goals simp
theorem gEq_nil (xs : List Dt) : gEq (.list xs) (.list []) = some (.bool xs.isEmpty) := by
  have e : min (PyData.list xs).depth (PyData.list []).depth ≤ dline := Nat.le_trans (Nat.min_le_right _ _) (by simp [PyData.depth, PyData.depthAll, dline])
  unfold gEq
  rw [if_pos e, PyData.eqv]
  cases xs with
  | nil => rw [PyData.eqvAll]; rfl
  | cons x xs => rw [PyData.eqvAll]; rfl
  all_goals simp
theorem atI_last {α : Type} {xs : List α} (h : xs ≠ []) : ∃ x, atI xs (-1) = some x ∧ x ∈ xs := by
  have hp : 0 < xs.length := List.length_pos_iff.mpr h
  have hx : xs[xs.length - 1]? = some xs[xs.length - 1] := List.getElem?_eq_getElem (by omega)
  refine ⟨_, ?_, List.getElem_mem (by omega : xs.length - 1 < xs.length)⟩
  unfold atI ixN
  rw [if_neg (by omega), if_pos (by omega), show (-1 + (xs.length : Int)).toNat = xs.length - 1 by omega]
  exact hx
theorem sOwn_eq {i : Nat} {g : Ev (List Dt)} {ρ : En} {P P1 : Pt} {ds : List Dt} (h : g ρ P = some (ds, P1)) : sOwn i g ρ P = some (.nx, ρ.set i (.ow ds), P1) := by unfold sOwn; rw [h]
theorem eCat_eq {f1 f2 : Ev Dt} {ρ : En} {P P1 P2 : Pt} {xs ys : List Dt} (h1 : f1 ρ P = some (.list xs, P1)) (h2 : f2 ρ P1 = some (.list ys, P2)) (hl : xs.length + ys.length ≤ sizeLine) : eCat f1 f2 ρ P = some (xs ++ ys, P2) := by
  unfold eCat
  rw [h1]; dsimp only; rw [h2]; dsimp only; rw [if_pos hl]
theorem eNeg_eq {f : Ev Dt} {ρ : En} {P P1 : Pt} {i : Int} (h : f ρ P = some (.int i, P1)) : eNeg f ρ P = some (.int (-i), P1) := by unfold eNeg; rw [h]
theorem oAt_eq {f : Ev Dt} {ρ : En} {P P1 : Pt} {i : Int} (h : f ρ P = some (.int i, P1)) : oAt f ρ P = some (some i, P1) := by unfold oAt; rw [h]
theorem eRev_eq {f : Ev Dt} {ρ : En} {P P1 : Pt} {ds : List Dt} (h : f ρ P = some (.list ds, P1)) : eRev f ρ P = some (.list ds.reverse, P1) := by unfold eRev; rw [h]
abbrev odd : List Dt := [.str "", .str "9a", .str "a_", .str "Ab", .str "a b", .str "abcdefghi", .str "abcdefgh", .str "z9", .int 1, .none, .list [.str "a"]]
theorem odd_short : ∀ d ∈ odd, Short d := by
  intro d hd z e
  subst e
  simp only [odd, List.mem_cons, List.not_mem_nil, or_false, PyData.str.injEq, reduceCtorEq, false_or] at hd
  rcases hd with rfl | rfl | rfl | rfl | rfl | rfl | rfl | rfl <;> decide +kernel
theorem mem_sg {a : Dt} {p : Dt → Prop} (h : p a) : ∀ v ∈ [a], p v := fun v hv => by rw [List.mem_singleton.mp hv]; exact h
theorem all_cons {p : Dt → Prop} {a : Dt} {l : List Dt} (h : p a) (hl : ∀ v ∈ l, p v) : ∀ v ∈ a :: l, p v := fun v hv => by
  rcases List.mem_cons.mp hv with e | q
  · rw [e]; exact h
  · exact hl v q
theorem all_nil {p : Dt → Prop} : ∀ v ∈ ([] : List Dt), p v := fun v hv => by cases hv
theorem all_app {p : Dt → Prop} {l m : List Dt} (hl : ∀ v ∈ l, p v) (hm : ∀ v ∈ m, p v) : ∀ v ∈ l ++ m, p v := fun v hv => by
  rcases List.mem_append.mp hv with q | q
  · exact hl v q
  · exact hm v q
theorem fam_not {v : Dt} (h : ∀ xs, v ≠ .list xs) : FamFit v := fun xs e => absurd e (h xs)
theorem sh_len {l : Lot} : (l.map PyData.str).length = l.length := List.length_map ..
theorem sortN_sh {l : Lot} (h : Sh l) : Sh (sortN l) := fun z hz => h z (sortN_mem.mp hz)
theorem bent_ok {P : Pt} (h : PotOk P) {fam : List Lot} {names : Lot} (f1 : fam.length ≤ 10) (f2 : ∀ l ∈ fam, l.length ≤ 10 ∧ Sh l) (n1 : names ≠ []) (n2 : Sh names) :
    ∃ vs P1, s__law_bent P [eSS fam, eS names] = some (.list vs, P1) ∧ PotOk P1 ∧ ∀ v ∈ vs, FamFit v := by
  have big : 100000 ≤ sizeLine := by decide
  have hfam := ffb_fam (fam := fam) fun l hl => ⟨Nat.le_trans (f2 l hl).1 (by omega), (f2 l hl).2⟩
  -- the last lot
  have hlot : ∃ lot : Lot, lot.length ≤ 10 ∧ Sh lot ∧ eIf (asB (eOp gNe (vV true 1) (eLst eNil))) (eOp gIx (vV true 1) (eNeg (eC (.int 1)))) (eLst eNil) [.pt, .sh (eSS fam), .sh (eS names), .un, .un, .un, .un, .un] P = some (eS lot, P) := by
    have ht : asB (eOp gNe (vV true 1) (eLst eNil)) [.pt, .sh (eSS fam), .sh (eS names), .un, .un, .un, .un, .un] P = some (!(fam.map eS).isEmpty, P) := asB_eq (eOp_eq (a := eSS fam) (b := .list []) rfl (eLst_eq eNil_eq (Nat.zero_le _)) (gNe_nil _))
    cases hq : (fam.map eS).isEmpty with
    | true =>
      rw [hq] at ht
      exact ⟨[], by simp, fun z hz => (by cases hz), eIf_f ht (eLst_eq eNil_eq (Nat.zero_le _))⟩
    | false =>
      rw [hq] at ht
      obtain ⟨x, hx, hm⟩ := atI_last (xs := fam.map eS) (by intro e; rw [e] at hq; cases hq)
      obtain ⟨l, hl, rfl⟩ := List.mem_map.mp hm
      exact ⟨l, (f2 l hl).1, (f2 l hl).2, eIf_t ht (eOp_eq (a := eSS fam) (b := .int (-1)) rfl (eNeg_eq (i := 1) rfl) hx)⟩
  obtain ⟨lot, l1, l2, ql⟩ := hlot
  obtain ⟨nm0, hn0, hnm⟩ : ∃ d, atI (names.map PyData.str) 0 = some d ∧ d ∈ names.map PyData.str := atI_some (by omega) (by rw [List.length_map]; have := List.length_pos_iff.mpr n1; omega)
  have hsh0 := short_map n2 nm0 hnm
  have addF : ∀ x : Dt, gAdd (eSS fam) (.list [x]) = some (.list (fam.map eS ++ [x])) := fun x => gAdd_lists _ _ (by simp; omega)
  -- first nine
  have t1 : sNew 4 (eCons (eC .none) (eCons (eC (.bool true)) (eCons (eC (.int 3)) (eCons (eC (.str "")) (eCons (eTup eNil) (eCons (eFn gTuple (eCons (vV true 1) eNil)) (eCons (eLst (eCons (eC .none) eNil)) (eCons (eLst (eCons (eOp gIx (vV true 2) (eC (.int 0))) eNil)) (eCons (eOp gAdd (vV true 1) (eLst (eCons (eTup eNil) eNil))) eNil))))))))) [.pt, .sh (eSS fam), .sh (eS names), .sh (eS lot), .un, .un, .un, .un] P =
      some (.nx, [.pt, .sh (eSS fam), .sh (eS names), .sh (eS lot), .ow [.none, .bool true, .int 3, .str "", .tuple [], .tuple (fam.map eS), .list [.none], .list [nm0], .list (fam.map eS ++ [.tuple []])], .un, .un, .un], P) :=
    sNew_eq (eCons_eq rfl (eCons_eq rfl (eCons_eq rfl (eCons_eq rfl (eCons_eq (eTup_eq eNil_eq (Nat.zero_le _)) (eCons_eq (eFn1 rfl rfl) (eCons_eq (eLst_eq (eCons_eq rfl eNil_eq) (show 1 ≤ sizeLine by decide)) (eCons_eq (eLst_eq (eCons_eq (eOp_eq (a := eS names) (b := .int 0) rfl rfl hn0) eNil_eq) (show 1 ≤ sizeLine by decide)) (eCons_eq (eOp_eq (a := eSS fam) (b := .list [.tuple []]) rfl (eLst_eq (eCons_eq (eTup_eq eNil_eq (Nat.zero_le _)) eNil_eq) (show 1 ≤ sizeLine by decide)) (addF _)) eNil_eq))))))))) (show 9 ≤ sizeLine by decide)
  generalize hv1 : ([.none, .bool true, .int 3, .str "", .tuple [], .tuple (fam.map eS), .list [.none], .list [nm0], .list (fam.map eS ++ [.tuple []])] : List Dt) = v1 at t1
  have v1l : v1.length = 9 := by rw [← hv1]; rfl
  have g1 : ∀ v ∈ v1, FamFit v := by
    rw [← hv1]
    refine all_cons (fam_not (by simp)) (all_cons (fam_not (by simp)) (all_cons (fam_not (by simp)) (all_cons (fam_not (by simp)) (all_cons (fam_not (by simp)) (all_cons (fam_not (by simp)) (all_cons ?_ (all_cons ?_ (all_cons ?_ all_nil))))))))
    · exact FFb.fam (FFb.other (by simp)) (by omega) (by omega)
    · obtain ⟨z, hz, rfl⟩ := List.mem_map.mp hnm
      exact FFb.fam (FFb.other (by simp)) (by omega) (by omega)
    · exact FFb.fam (hfam.app (FFb.other (by simp))) (by omega) (by omega)
  -- three with the last lot
  have t2 : sOwn 4 (eCat (vV true 4) (eLst (eCons (eOp gAdd (vV true 1) (eLst (eCons (eFn gTuple (eCons (vV true 3) eNil)) eNil))) (eCons (eOp gAdd (vV true 1) (eLst (eCons (eOp gAdd (vV true 3) (eSl (vV true 3) (oAt (eNeg (eC (.int 1)))) oNo)) eNil))) (eCons (eLst (eCons (eRev (vV true 3)) eNil)) eNil))))) [.pt, .sh (eSS fam), .sh (eS names), .sh (eS lot), .ow v1, .un, .un, .un] P =
      some (.nx, [.pt, .sh (eSS fam), .sh (eS names), .sh (eS lot), .ow (v1 ++ [.list (fam.map eS ++ [.tuple (lot.map .str)]), .list (fam.map eS ++ [.list (lot.map .str ++ PD.cutD (lot.map .str) (some (-1)) none)]), .list [.list (lot.map PyData.str).reverse]]), .un, .un, .un], P) := by
    refine sOwn_eq (eCat_eq (xs := v1) rfl (eLst_eq (eCons_eq (eOp_eq (a := eSS fam) (b := .list [.tuple (lot.map .str)]) rfl (eLst_eq (eCons_eq (eFn1 rfl rfl) eNil_eq) (show 1 ≤ sizeLine by decide)) (addF _)) (eCons_eq (eOp_eq (a := eSS fam) (b := .list [.list (lot.map .str ++ PD.cutD (lot.map .str) (some (-1)) none)]) rfl (eLst_eq (eCons_eq (eOp_eq (a := eS lot) (b := .list (PD.cutD (lot.map .str) (some (-1)) none)) rfl (eSl_eq (a := eS lot) rfl (oAt_eq (eNeg_eq (i := 1) rfl)) rfl rfl) (gAdd_lists _ _ ?_)) eNil_eq) (show 1 ≤ sizeLine by decide)) (addF _)) (eCons_eq (eLst_eq (eCons_eq (eRev_eq (ds := lot.map .str) rfl) eNil_eq) (show 1 ≤ sizeLine by decide)) eNil_eq))) (show 3 ≤ sizeLine by decide)) ?_)
    · have := cut_len (lot.map .str) (some (-1)) none
      rw [sh_len] at *
      omega
    · rw [v1l]; exact Nat.le_trans (show 9 + 3 ≤ 100000 by decide) big
  generalize hv2 : v1 ++ ([.list (fam.map eS ++ [.tuple (lot.map .str)]), .list (fam.map eS ++ [.list (lot.map .str ++ PD.cutD (lot.map .str) (some (-1)) none)]), .list [.list (lot.map PyData.str).reverse]] : List Dt) = v2 at t2
  have v2l : v2.length = 12 := by rw [← hv2, List.length_append, v1l]; rfl
  have g2 : ∀ v ∈ v2, FamFit v := by
    rw [← hv2]
    refine all_app g1 (all_cons ?_ (all_cons ?_ (all_cons ?_ all_nil)))
    · exact FFb.fam (hfam.app (FFb.other (by simp))) (by omega) (by omega)
    · refine FFb.fam (hfam.app (FFb.one (s := 100) ?_ fun d hd => ?_)) (by omega) (by omega)
      · have := cut_len (lot.map .str) (some (-1)) none
        rw [List.length_append]
        rw [sh_len] at *
        omega
      · rcases List.mem_append.mp hd with q | q
        · exact short_map l2 d q
        · exact short_map l2 d (cut_mem q)
    · refine FFb.fam (FFb.one (s := 100) (by rw [List.length_reverse, sh_len]; omega) fun d hd => short_map l2 d (List.mem_reverse.mp hd)) (by omega) (by omega)
  -- eleven odd ones
  obtain ⟨ρ3, t3, v3, x5, e3, v3l, g3⟩ : ∃ ρ3, sFor (asL (eLst (eCons (eC (.str "")) (eCons (eC (.str "9a")) (eCons (eC (.str "a_")) (eCons (eC (.str "Ab")) (eCons (eC (.str "a b")) (eCons (eC (.str "abcdefghi")) (eCons (eC (.str "abcdefgh")) (eCons (eC (.str "z9")) (eCons (eC (.int 1)) (eCons (eC .none) (eCons (eLst (eCons (eC (.str "a")) eNil)) eNil))))))))))))) (gN true 5) (sApp 4 (eOp gAdd (vV true 1) (eLst (eCons (eLst (eCons (eV true 5) eNil)) eNil)))) [.pt, .sh (eSS fam), .sh (eS names), .sh (eS lot), .ow v2, .un, .un, .un] P = some (.nx, ρ3, P) ∧ ∃ v3 x5, ρ3 = [.pt, .sh (eSS fam), .sh (eS names), .sh (eS lot), .ow v3, x5, .un, .un] ∧ v3.length ≤ 30 ∧ ∀ v ∈ v3, FamFit v := by
    refine Exists.elim (sFor_invN (τ := List Dt) (enc := fun d : Dt => d) (xs := odd) (tgt := gN true 5) (P := P) (P0 := P) (ρ := [.pt, .sh (eSS fam), .sh (eS names), .sh (eS lot), .ow v2, .un, .un, .un]) (st := v2)
      (body := sApp 4 (eOp gAdd (vV true 1) (eLst (eCons (eLst (eCons (eV true 5) eNil)) eNil))))
      (step := fun st x => st ++ [.list (fam.map eS ++ [.list [x]])]) (I := fun n st ρ => ∃ x5, ρ = [.pt, .sh (eSS fam), .sh (eS names), .sh (eS lot), .ow st, x5, .un, .un] ∧ st.length + n ≤ 30 ∧ ∀ v ∈ st, FamFit v)
      (asL_eq (eLst_eq (eCons_eq rfl (eCons_eq rfl (eCons_eq rfl (eCons_eq rfl (eCons_eq rfl (eCons_eq rfl (eCons_eq rfl (eCons_eq rfl (eCons_eq rfl (eCons_eq rfl (eCons_eq (eLst_eq (eCons_eq rfl eNil_eq) (show 1 ≤ sizeLine by decide)) eNil_eq))))))))))) (show 11 ≤ sizeLine by decide))) ⟨.un, rfl, by rw [v2l]; decide, g2⟩ (fun n st ρ x hm ⟨x5, e, hk, hg⟩ => ?step)) (fun ρ' ⟨q, x5, er, hl, hg⟩ => ⟨ρ', q, _, x5, er, by omega, hg⟩)
    case step =>
      subst e
      refine ⟨_, _, rfl, sApp_eq (ds := st) (d := .list (fam.map eS ++ [.list [x]])) (eOp_eq (a := eSS fam) (b := .list [.list [x]]) rfl (eLst_eq (eCons_eq (eLst_eq (eCons_eq rfl eNil_eq) (show 1 ≤ sizeLine by decide)) eNil_eq) (show 1 ≤ sizeLine by decide)) (addF _)) rfl (by omega), .sh x, rfl, by simp; omega, all_app hg (mem_sg (FFb.fam (hfam.app (FFb.one (s := 1) (Nat.le_refl _) (mem_sg (odd_short x hm)))) (by omega) (by omega)))⟩
  subst e3
  -- more names
  obtain ⟨more, P1, q4, ok1, m1, m2, m3⟩ := names_ok h (many := 11) (by omega) (by omega)
  have msh : Sh more := fun z hz => by
    have := m3 z hz
    unfold nameB at this
    simp only [Bool.and_eq_true, decide_eq_true_eq] at this
    omega
  have m1 : more.length = 11 := m1
  have t4 : sSetN true 6 (eCallP 1 0 s__law_names (eCons (eC (.int 11)) eNil)) [.pt, .sh (eSS fam), .sh (eS names), .sh (eS lot), .ow v3, x5, .un, .un] P = some (.nx, [.pt, .sh (eSS fam), .sh (eS names), .sh (eS lot), .ow v3, x5, .sh (eS more), .un], P1) := sSetN_eq (eCallP1 rfl rfl q4)
  have gs : gSorted [eS more] = some (eS (sortN more)) := sorted_S more
  have t5 : sOwn 4 (eCat (vV true 4) (eLst (eCons (eComp [7] (asL (vV true 6)) (gN true 7) eYes (eLst (eCons (eV true 7) eNil))) (eCons (eComp [7] (asL (eSl (vV true 6) oNo (oAt (eC (.int 10))))) (gN true 7) eYes (eLst (eCons (eV true 7) eNil))) (eCons (eLst (eCons (eFn gSorted (eCons (vV true 6) eNil)) eNil)) eNil))))) [.pt, .sh (eSS fam), .sh (eS names), .sh (eS lot), .ow v3, x5, .sh (eS more), .un] P1 =
      some (.nx, [.pt, .sh (eSS fam), .sh (eS names), .sh (eS lot), .ow (v3 ++ [.list ((more.map PyData.str).map fun d => .list [d]), .list ((PD.cutD (more.map .str) none (some 10)).map fun d => .list [d]), .list [eS (sortN more)]]), x5, .sh (eS more), .un], P1) := by
    refine sOwn_eq (eCat_eq (xs := v3) rfl (eLst_eq (eCons_eq (eComp_all (enc := fun d : Dt => d) (xs := more.map PyData.str) (e := fun d => .list [d]) (asL_eq (by rw [List.map_id']; rfl)) (fun d hd => ⟨_, rfl, eLst_eq (eCons_eq rfl eNil_eq) (show 1 ≤ sizeLine by decide)⟩) (by rw [sh_len]; omega)) (eCons_eq (eComp_all (enc := fun d : Dt => d) (xs := PD.cutD (more.map .str) none (some 10)) (e := fun d => .list [d]) (asL_eq (eSl_eq (a := eS more) rfl rfl rfl (by rw [List.map_id']; rfl))) (fun d hd => ⟨_, rfl, eLst_eq (eCons_eq rfl eNil_eq) (show 1 ≤ sizeLine by decide)⟩) ?_) (eCons_eq (eLst_eq (eCons_eq (eFn1 rfl gs) eNil_eq) (show 1 ≤ sizeLine by decide)) eNil_eq))) (show 3 ≤ sizeLine by decide)) ?_)
    · have := cut_len (more.map .str) none (some 10)
      rw [sh_len] at this
      omega
    · show v3.length + 3 ≤ _; omega
  generalize hv4 : v3 ++ ([.list ((more.map PyData.str).map fun d => .list [d]), .list ((PD.cutD (more.map .str) none (some 10)).map fun d => .list [d]), .list [eS (sortN more)]] : List Dt) = v4 at t5
  have v4l : v4.length ≤ 33 := by rw [← hv4, List.length_append]; show v3.length + 3 ≤ _; omega
  have ones : ∀ ds : List Dt, (∀ d ∈ ds, Short d) → FFb ds.length ds.length (ds.map fun d => .list [d]) := by
    intro ds
    induction ds with
    | nil => intro _; exact FFb.nil
    | cons d ds ih =>
      intro hd
      have q := FFb.cons (FFb.one (ds := [d]) (s := 1) (Nat.le_refl _) (mem_sg (hd d (List.mem_cons_self ..)))) (ih fun e he => hd e (List.mem_cons_of_mem _ he))
      exact ⟨Nat.le_trans q.len (by rw [List.length_cons]; omega), Nat.le_trans q.sum (by rw [List.length_cons]; omega), q.fit⟩
  have g4 : ∀ v ∈ v4, FamFit v := by
    rw [← hv4]
    refine all_app g3 (all_cons ?_ (all_cons ?_ (all_cons ?_ all_nil)))
    · exact FFb.fam (ones _ (short_map msh)) (by rw [sh_len]; omega) (by rw [sh_len]; omega)
    · have hl := cut_len (more.map .str) none (some 10)
      rw [sh_len] at hl
      exact FFb.fam (ones _ fun d hd => short_map msh d (cut_mem hd)) (by omega) (by omega)
    · exact FFb.fam (FFb.one (s := 11) (by rw [sh_len, sortN_len]; omega) (short_map (sortN_sh msh))) (by omega) (by omega)
  have t6 : sOwn 4 (eCat (vV true 4) (eLst (eCons (eLst (eCons (eSl (eFn gSorted (eCons (vV true 6) eNil)) oNo (oAt (eC (.int 10)))) eNil)) (eCons (eLst (eCons (eRev (eFn gSorted (eCons (vV true 6) eNil))) eNil)) (eCons (eRev (vV true 1)) (eCons (eLst (eCons (eLst eNil) (eCons (eLst eNil) eNil))) eNil)))))) [.pt, .sh (eSS fam), .sh (eS names), .sh (eS lot), .ow v4, x5, .sh (eS more), .un] P1 =
      some (.nx, [.pt, .sh (eSS fam), .sh (eS names), .sh (eS lot), .ow (v4 ++ [.list [.list (PD.cutD ((sortN more).map .str) none (some 10))], .list [.list ((sortN more).map PyData.str).reverse], .list (fam.map eS).reverse, .list [.list [], .list []]]), x5, .sh (eS more), .un], P1) := by
    refine sOwn_eq (eCat_eq (xs := v4) rfl (eLst_eq (eCons_eq (eLst_eq (eCons_eq (eSl_eq (a := eS (sortN more)) (eFn1 rfl gs) rfl rfl rfl) eNil_eq) (show 1 ≤ sizeLine by decide)) (eCons_eq (eLst_eq (eCons_eq (eRev_eq (eFn1 rfl gs)) eNil_eq) (show 1 ≤ sizeLine by decide)) (eCons_eq (eRev_eq (ds := fam.map eS) rfl) (eCons_eq (eLst_eq (eCons_eq (eLst_eq eNil_eq (Nat.zero_le _)) (eCons_eq (eLst_eq eNil_eq (Nat.zero_le _)) eNil_eq)) (show 2 ≤ sizeLine by decide)) eNil_eq)))) (show 4 ≤ sizeLine by decide)) ?_)
    show v4.length + 4 ≤ _; omega
  generalize hv5 : v4 ++ ([.list [.list (PD.cutD ((sortN more).map .str) none (some 10))], .list [.list ((sortN more).map PyData.str).reverse], .list (fam.map eS).reverse, .list [.list [], .list []]] : List Dt) = v5 at t6
  have g5 : ∀ v ∈ v5, FamFit v := by
    rw [← hv5]
    have hl := cut_len ((sortN more).map .str) none (some 10)
    rw [sh_len, sortN_len] at hl
    refine all_app g4 (all_cons ?_ (all_cons ?_ (all_cons ?_ (all_cons ?_ all_nil))))
    · exact FFb.fam (FFb.one (s := 11) (by omega) fun d hd => short_map (sortN_sh msh) d (cut_mem hd)) (by omega) (by omega)
    · exact FFb.fam (FFb.one (s := 11) (by rw [List.length_reverse, sh_len, sortN_len]; omega) fun d hd => short_map (sortN_sh msh) d (List.mem_reverse.mp hd)) (by omega) (by omega)
    · rw [← List.map_reverse]
      have q := ffb_fam (fam := fam.reverse) fun l hl => ⟨Nat.le_trans (f2 l (List.mem_reverse.mp hl)).1 (by omega), (f2 l (List.mem_reverse.mp hl)).2⟩
      exact FFb.fam q (by rw [List.length_reverse]; omega) (by rw [List.length_reverse]; omega)
    · exact FFb.fam (FFb.cons (FFb.one (s := 0) (Nat.le_refl _) all_nil) (FFb.one (s := 0) (Nat.le_refl _) all_nil)) (by omega) (by omega)
  refine ⟨v5, P1, ?_, ok1, g5⟩
  show resP (g__law_bent [.pt, .sh (eSS fam), .sh (eS names), .un, .un, .un, .un, .un] P) = _
  have t0 : sSetN true 3 (eIf (asB (eOp gNe (vV true 1) (eLst eNil))) (eOp gIx (vV true 1) (eNeg (eC (.int 1)))) (eLst eNil)) [.pt, .sh (eSS fam), .sh (eS names), .un, .un, .un, .un, .un] P = some (.nx, [.pt, .sh (eSS fam), .sh (eS names), .sh (eS lot), .un, .un, .un, .un], P) := sSetN_eq ql
  unfold g__law_bent
  rw [sSeq_go t0, sSeq_go t1, sSeq_go t2, sSeq_go t3, sSeq_go t4, sSeq_go t5, sSeq_go t6, sFrz_eq (ds := v5) rfl (sRet_eq (d := .list v5) (P1 := P1) rfl)]
  rfl
end W62

/-! part M62u -/
set_option Elab.async false
set_option linter.all false
set_option maxRecDepth 100000
set_option maxHeartbeats 4000000
/-! alike values, texts of families, great families; own work -/
namespace W62
open PySem PySem.Spec PyProof.Rows L2 PD

/-! ### alike -/
theorem gNe_bool (a b : Bool) : gNe (.bool a) (.bool b) = some (.bool (a != b)) := by
  cases a <;> cases b <;> rfl
theorem gEq_bool (a b : Bool) : gEq (.bool a) (.bool b) = some (.bool (a == b)) := by
  cases a <;> cases b <;> rfl
theorem gEq_str (a b : Str) : gEq (.str a) (.str b) = some (.bool (decide (a = b))) := by
  have e : min (PyData.str a).depth (PyData.str b).depth ≤ dline := by simp [PyData.depth, dline]
  unfold gEq
  rw [if_pos e, eqv_str]
theorem kit_list {d : Dt} : ∃ k, kitB (tyD d) "list" = some k := by cases d <;> exact ⟨_, rfl⟩
theorem kit_tuple {d : Dt} : ∃ k, kitB (tyD d) "tuple" = some k := by cases d <;> exact ⟨_, rfl⟩
theorem kit_bool {d : Dt} : ∃ k, kitB (tyD d) "bool" = some k := by cases d <;> exact ⟨_, rfl⟩
/-- the three tests of kind of a value with itself -/
theorem same_tests {d : Dt} {tail : Sv} : (sSeq (sIf (asB (eOp gNe (eIsi "list" (vV true 0)) (eIsi "list" (vV true 1)))) (sRet (eC (.bool false))) sNil) (sSeq (sIf (asB (eOp gNe (eIsi "tuple" (vV true 0)) (eIsi "tuple" (vV true 1)))) (sRet (eC (.bool false))) sNil) (sSeq (sIf (asB (eOp gNe (eIsi "bool" (vV true 0)) (eIsi "bool" (vV true 1)))) (sRet (eC (.bool false))) sNil) tail))) [.sh d, .sh d, .un, .un] (0, 0) = tail [.sh d, .sh d, .un, .un] (0, 0) := by
  obtain ⟨k1, h1⟩ := kit_list (d := d)
  obtain ⟨k2, h2⟩ := kit_tuple (d := d)
  obtain ⟨k3, h3⟩ := kit_bool (d := d)
  have t : ∀ {t : String} {k : Bool}, kitB (tyD d) t = some k → asB (eOp gNe (eIsi t (vV true 0)) (eIsi t (vV true 1))) [.sh d, .sh d, .un, .un] (0, 0) = some (false, (0, 0)) := by
    intro t k hk
    refine asB_eq (eOp_eq (isi_eq (d := d) rfl hk) (isi_eq (d := d) rfl hk) ?_)
    rw [gNe_bool]
    cases k <;> rfl
  rw [sSeq_go (sIf_f (t h1) rfl), sSeq_go (sIf_f (t h2) rfl), sSeq_go (sIf_f (t h3) rfl)]
theorem same_flat {d : Dt} {n : Nat} (h1 : kitB (tyD d) "list" = some false) (h2 : kitB (tyD d) "tuple" = some false) (h3 : gEq d d = some (.bool true)) : s__law_same (n + 1) [d, d] = some (.bool true) := by
  show resD (g__law_same (s__law_same n) [.sh d, .sh d, .un, .un] (0, 0)) = _
  unfold g__law_same
  have t : eOr (asB (eIsi "list" (vV true 1))) (asB (eIsi "tuple" (vV true 1))) [.sh d, .sh d, .un, .un] (0, 0) = some (false, (0, 0)) :=
    eOr_eq (k := false) (asB_eq (isi_eq (d := d) rfl h1)) (fun _ => asB_eq (isi_eq (d := d) rfl h2)) (fun h => by cases h)
  rw [same_tests, sSeq_go (sIf_f t rfl), sRet_eq (eOp_eq (a := d) (b := d) rfl rfl h3)]
  rfl
theorem same_str {z : Str} {n : Nat} : s__law_same (n + 1) [.str z, .str z] = some (.bool true) := same_flat rfl rfl (by rw [gEq_str]; simp)
theorem same_bool {k : Bool} {n : Nat} : s__law_same (n + 1) [.bool k, .bool k] = some (.bool true) := same_flat rfl rfl (by rw [gEq_bool]; simp)
theorem zip_self : ∀ ds : List Dt, zipD ds ds = ds.map fun d => .tuple [d, d]
  | [] => rfl
  | d :: ds => by rw [zipD, zip_self ds]; rfl
theorem same_list {ds : List Dt} {n : Nat} (hl : ds.length ≤ sizeLine) (h : ∀ d ∈ ds, s__law_same n [d, d] = some (.bool true)) : s__law_same (n + 1) [.list ds, .list ds] = some (.bool true) := by
  show resD (g__law_same (s__law_same n) [.sh (.list ds), .sh (.list ds), .un, .un] (0, 0)) = _
  unfold g__law_same
  have t : eOr (asB (eIsi "list" (vV true 1))) (asB (eIsi "tuple" (vV true 1))) [.sh (.list ds), .sh (.list ds), .un, .un] (0, 0) = some (true, (0, 0)) :=
    eOr_eq (k := true) (asB_eq (isi_eq (d := .list ds) rfl rfl)) (fun h => by cases h) (fun _ => ⟨rfl, rfl⟩)
  have c : eFn gAll (eCons (eComp [2, 3] (asZ (eCons (vV true 0) (eCons (vV true 1) eNil))) (gT true [2, 3]) eYes (eCall 2 (s__law_same n) (eCons (eV true 2) (eCons (eV true 3) eNil)))) eNil) [.sh (.list ds), .sh (.list ds), .un, .un] (0, 0) = some (.bool (ds.all fun _ => true), (0, 0)) :=
    eFn1 (eComp_all (enc := fun d : Dt => .tuple [d, d]) (xs := ds) (e := fun _ => PyData.bool true) (by rw [asZ_eq (as := ds) (bs := ds) (P1 := (0, 0)) (eCons_eq rfl (eCons_eq rfl eNil_eq)), zip_self]) (fun d hd => ⟨_, rfl, eCall2 rfl rfl (h d hd)⟩) hl) (gAll_map _ _)
  have e : ds.all (fun _ => true) = true := by simp
  rw [e] at c
  have l : eOp gEq (eFn gLen (eCons (vV true 0) eNil)) (eFn gLen (eCons (vV true 1) eNil)) [.sh (.list ds), .sh (.list ds), .un, .un] (0, 0) = some (.bool true, (0, 0)) :=
    eOp_eq (a := .int ds.length) (b := .int ds.length) (eFn1 rfl rfl) (eFn1 rfl rfl) (by rw [gEq_int]; simp)
  have a : eAndV (eOp gEq (eFn gLen (eCons (vV true 0) eNil)) (eFn gLen (eCons (vV true 1) eNil))) (eFn gAll (eCons (eComp [2, 3] (asZ (eCons (vV true 0) (eCons (vV true 1) eNil))) (gT true [2, 3]) eYes (eCall 2 (s__law_same n) (eCons (eV true 2) (eCons (eV true 3) eNil)))) eNil)) [.sh (.list ds), .sh (.list ds), .un, .un] (0, 0) = some (.bool true, (0, 0)) := by
    unfold eAndV
    rw [l]
    exact c
  rw [same_tests, sSeq_rt (sIf_t t (sRet_eq a))]
  rfl
theorem same_S {l : Lot} {n : Nat} (hl : l.length ≤ sizeLine) : s__law_same (n + 2) [eS l, eS l] = some (.bool true) := same_list (by rw [List.length_map]; exact hl) fun d hd => by
  obtain ⟨z, _, rfl⟩ := List.mem_map.mp hd
  exact same_str
theorem same_SS {ls : List Lot} {n : Nat} (hl : ls.length ≤ sizeLine) (h : ∀ l ∈ ls, l.length ≤ sizeLine) : s__law_same (n + 3) [eSS ls, eSS ls] = some (.bool true) := same_list (by rw [List.length_map]; exact hl) fun d hd => by
  obtain ⟨l, hm, rfl⟩ := List.mem_map.mp hd
  exact same_S (h l hm)

/-! ### the text of a family -/
theorem shownAll_map : ∀ xs : List Dt, PyData.shownAll xs = xs.map PyData.shown
  | [] => rfl
  | x :: xs => by rw [PyData.shownAll, shownAll_map xs]; rfl
theorem sum_le {l : List Nat} {n : Nat} (h : ∀ x ∈ l, x ≤ n) : l.sum ≤ n * l.length := by
  induction l with
  | nil => simp
  | cons x l ih =>
    have := h x (List.mem_cons_self ..)
    have := ih fun y hy => h y (List.mem_cons_of_mem _ hy)
    rw [List.sum_cons, List.length_cons, Nat.mul_add]
    omega
theorem shown_list {xs : List Dt} {n m : Nat} (h : ∀ x ∈ xs, x.shown.length ≤ n) (hl : xs.length ≤ m) : (PyData.list xs).shown.length ≤ n * m + 2 * m + 3 := by
  have e : (PyData.list xs).shown = listText (xs.map PyData.shown) := by rw [PyData.shown, shownAll_map]
  rw [e]
  refine Nat.le_trans (listText_len_le _) ?_
  rw [List.map_map, List.length_map]
  have q := sum_le (l := xs.map ((·.length) ∘ PyData.shown)) (n := n) fun y hy => by
    obtain ⟨x, hx, rfl⟩ := List.mem_map.mp hy
    exact h x hx
  rw [List.length_map] at q
  have := Nat.mul_le_mul_left n hl
  omega
theorem ld_small : ∀ c ∈ cp LD, c < 200 := by decide +kernel
theorem nameB_ok {z : Str} (h : nameB z = true) : 1 ≤ z.length ∧ z.length ≤ 8 ∧ ∀ c ∈ cp z, c < 200 := by
  unfold nameB at h
  simp only [Bool.and_eq_true, decide_eq_true_eq, List.all_eq_true] at h
  exact ⟨h.1.1.1, h.1.1.2, fun c hc => ld_small c (h.2 c hc)⟩
theorem showable_strs : ∀ l : Lot, PyData.showableAll (l.map .str) = true
  | [] => rfl
  | x :: l => by rw [List.map_cons, PyData.showableAll, showable_strs l]; rfl
theorem showable_S : ∀ ls : List Lot, PyData.showableAll (ls.map eS) = true
  | [] => rfl
  | x :: ls => by
    rw [List.map_cons, PyData.showableAll, showable_S ls, PyData.showable, showable_strs]; rfl
theorem repr_ok {fam : List Lot} (h1 : fam.length ≤ 10) (h2 : ∀ l ∈ fam, l.length ≤ 10 ∧ ∀ z ∈ l, nameB z = true) : ∃ t, gRepr [eSS fam] = some (.str t) := by
  have hs : (eSS fam).showable = true := by rw [PyData.showable]; exact showable_S fam
  have hd : (eSS fam).depth ≤ dline := by
    have := depthAll_S fam
    simp only [PyData.depth, dline]
    omega
  have hl : (eSS fam).shown.length ≤ sizeLine := by
    refine Nat.le_trans (shown_list (n := 2000) (m := 10) (fun x hx => ?_) (by rw [List.length_map]; exact h1)) (by decide)
    obtain ⟨l, hm, rfl⟩ := List.mem_map.mp hx
    refine Nat.le_trans (shown_list (n := 100) (m := 10) (fun y hy => ?_) (by rw [List.length_map]; exact (h2 l hm).1)) (by decide)
    obtain ⟨z, hz, rfl⟩ := List.mem_map.mp hy
    obtain ⟨_, n2, n3⟩ := nameB_ok ((h2 l hm).2 z hz)
    rw [PyData.shown]
    exact Nat.le_trans (PySem.StrLaws.reprText_len z fun c hc => Nat.lt_of_lt_of_le (n3 c hc) (by decide)) (by omega)
  exact ⟨_, if_pos ⟨hs, hl, hd⟩⟩

/-! ### families of drawn names -/
/-- lots of names out of u -/
def Of (u : Lot) (l : Lot) : Prop := Can l ∧ ∀ z ∈ l, z ∈ u
theorem Of.nil {u : Lot} : Of u [] := ⟨List.Pairwise.nil, fun z h => by cases h⟩
theorem Of.len {u l : Lot} (h : Of u l) (hu : u.length ≤ 10) : l.length ≤ 10 := Nat.le_trans (nodup_len h.1.nodup h.2) hu
theorem rise_S {l : Lot} (h1 : Can l) (h2 : ∀ z ∈ l, nameB z = true) : riseD (eS l) = true := by
  show ((l.map PyData.str).all nameD && risingB ((l.map PyData.str).filterMap strO)) = true
  rw [strO_map, rising_can.mpr h1, Bool.and_true, List.all_eq_true]
  intro d hd
  obtain ⟨z, hz, rfl⟩ := List.mem_map.mp hd
  exact h2 z hz
theorem lotO_map : ∀ ls : List Lot, (ls.map eS).map lotO = ls
  | [] => rfl
  | l :: ls => by rw [List.map_cons, List.map_cons, lotO_map ls]; exact congrArg (· :: ls) (strO_map l)
theorem fam_true {u : Lot} (hu : u.length ≤ 10) (hn : ∀ z ∈ u, nameB z = true) {ls : List Lot} (hl : ls.length ≤ 300) (h : ∀ l ∈ ls, Of u l) : famD (eSS ls) = true := by
  have a : (ls.map eS).all riseD = true := by
    rw [List.all_eq_true]
    intro d hd
    obtain ⟨l, hm, rfl⟩ := List.mem_map.mp hd
    exact rise_S (h l hm).1 fun z hz => hn z ((h l hm).2 z hz)
  have b : (namesT ((ls.map eS).map lotO)).length ≤ 10 := by
    rw [lotO_map]
    refine Nat.le_trans (nodup_len (names_can ls).nodup fun z hz => ?_) hu
    obtain ⟨o, ho, hzo⟩ := names_mem.mp hz
    exact (h o ho).2 z hzo
  show (decide ((ls.map eS).length ≤ 300) && ((ls.map eS).all riseD && decide ((namesT ((ls.map eS).map lotO)).length ≤ 10))) = true
  rw [a, decide_eq_true b, List.length_map, decide_eq_true hl]
  rfl
theorem of_fit {u : Lot} (hu : u.length ≤ 10) (hn : ∀ z ∈ u, nameB z = true) {ls : List Lot} (hl : ls.length ≤ 301) (h : ∀ l ∈ ls, Of u l) : FamFit (eSS ls) := by
  have q := ffb_fam (fam := ls) fun l hm => ⟨Nat.le_trans ((h l hm).len hu) (by omega), fun z hz => by have := nameB_ok (hn z ((h l hm).2 z hz)); omega⟩
  exact q.fam (by omega) (by omega)
theorem eCallK1 {f : Ev Dt} {h : List Dt → Option Dt} {ρ : En} {P P1 : Pt} {a d : Dt} (h1 : f ρ P = some (a, P1)) (h3 : h [a] = some d) : eCallK 1 h (fun ds => pId [] ds) (eCons f eNil) ρ P = some (d, P1) := by
  unfold eCallK
  rw [eCons_eq h1 eNil_eq]
  dsimp only
  show (if ([a] : List Dt).length = 1 then (match h [a] with
    | some d => some (d, P1)
    | none => none) else none) = _
  rw [h3]
  rfl
theorem forL_pn {α τ : Type} {enc : α → Dt} {tgt : Tgt} {body : Sv} {I : Nat → τ → En → Prop} : ∀ {xs : List α} {st : τ} {P : Pt} {ρ : En}, (∀ n st P ρ x, x ∈ xs → PotOk P → I (n + 1) st ρ → ∃ ρ1 ρ2 st2 P2, tgt (enc x) ρ = some ρ1 ∧ body ρ1 P = some (.nx, ρ2, P2) ∧ PotOk P2 ∧ I n st2 ρ2) → PotOk P → I xs.length st ρ →
    ∃ st' P' ρ', forL tgt body (xs.map enc) ρ P = some (.nx, ρ', P') ∧ PotOk P' ∧ I 0 st' ρ'
  | [], st, P, ρ, _, ok, i => ⟨st, P, ρ, rfl, ok, i⟩
  | x :: xs, st, P, ρ, h, ok, i => by
    obtain ⟨ρ1, ρ2, st2, P2, h1, h2, ok2, i2⟩ := h _ st P ρ x (List.mem_cons_self ..) ok i
    obtain ⟨st', P', ρ', q, ok', i'⟩ := forL_pn (xs := xs) (fun n st P ρ y hy => h n st P ρ y (List.mem_cons_of_mem _ hy)) ok2 i2
    refine ⟨st', P', ρ', ?_, ok', i'⟩
    rw [List.map_cons, forL, h1]
    dsimp only
    rw [h2]
    exact q
theorem gIsn_bool (a b : Bool) : gIsn (.bool a) (.bool b) = some (.bool (!decide (a = b))) := rfl
theorem great_ok {P : Pt} (h : PotOk P) {fam : List Lot} {u : Lot} (f1 : fam.length ≤ 10) (hu : u.length ≤ 10) (hn : ∀ z ∈ u, nameB z = true) (f2 : ∀ l ∈ fam, Of u l) :
    ∃ P1, s__law_great P [eSS fam] = some (.bool true, P1) ∧ PotOk P1 := by
  have big : 100000 ≤ sizeLine := by decide
  have t0 : sNew 2 eNil [.pt, .sh (eSS fam), .un, .un, .un] P = some (.nx, [.pt, .sh (eSS fam), .ow [], .un, .un], P) := sNew_eq eNil_eq (Nat.zero_le _)
  have hr : asR1 (eCons (eC (.int 300)) eNil) [.pt, .sh (eSS fam), .ow [], .un, .un] P = some ((List.range 300).map fun i : Nat => PyData.int (0 + (i : Int)), P) := asR1_eq (j := 300) rfl (by omega) (by omega)
  obtain ⟨whole, P1, ρ1, q1, ok1, ⟨x3, e1, w1, w2⟩⟩ := forL_pn (τ := List Lot) (enc := fun i : Nat => PyData.int (0 + (i : Int))) (xs := List.range 300) (st := []) (P := P) (ρ := [.pt, .sh (eSS fam), .ow [], .un, .un]) (tgt := gN true 3)
    (body := sApp 2 (eIf (asB (eOp gNe (vV true 1) (eLst eNil))) (eFn gList (eCons (eCallP 1 0 s__law_pick (eCons (vV true 1) eNil)) eNil)) (eLst eNil)))
    (I := fun n st ρ => ∃ x3, ρ = [.pt, .sh (eSS fam), .ow (st.map eS), x3, .un] ∧ st.length + n = 300 ∧ ∀ l ∈ st, Of u l)
    (fun n st P ρ i hi ok ⟨x3, e, hs, hl⟩ => by
      subst e
      have ht : asB (eOp gNe (vV true 1) (eLst eNil)) [.pt, .sh (eSS fam), .ow (st.map eS), .sh (.int (0 + (i : Int))), .un] P = some (!(fam.map eS).isEmpty, P) := asB_eq (eOp_eq (a := eSS fam) (b := .list []) rfl (eLst_eq eNil_eq (Nat.zero_le _)) (gNe_nil _))
      have key : ∃ l P2, eIf (asB (eOp gNe (vV true 1) (eLst eNil))) (eFn gList (eCons (eCallP 1 0 s__law_pick (eCons (vV true 1) eNil)) eNil)) (eLst eNil) [.pt, .sh (eSS fam), .ow (st.map eS), .sh (.int (0 + (i : Int))), .un] P = some (eS l, P2) ∧ PotOk P2 ∧ Of u l := by
        cases hq : (fam.map eS).isEmpty with
        | true =>
          rw [hq] at ht
          exact ⟨[], P, eIf_f ht (eLst_eq eNil_eq (Nat.zero_le _)), ok, Of.nil⟩
        | false =>
          rw [hq] at ht
          obtain ⟨d, P2, q, hm, ok2⟩ := pick_list ok (ds := fam.map eS) (by intro e; rw [e] at hq; cases hq) (by rw [List.length_map]; omega)
          obtain ⟨l, hl, rfl⟩ := List.mem_map.mp hm
          exact ⟨l, P2, eIf_t ht (eFn1 (eCallP1 rfl rfl q) rfl), ok2, f2 l hl⟩
      obtain ⟨l, P2, q, ok2, hl2⟩ := key
      refine ⟨[.pt, .sh (eSS fam), .ow (st.map eS), .sh (.int (0 + (i : Int))), .un], [.pt, .sh (eSS fam), .ow ((st ++ [l]).map eS), .sh (.int (0 + (i : Int))), .un], st ++ [l], P2, rfl, ?_, ok2, .sh (.int (0 + (i : Int))), rfl, by simp; omega, fun m hm => ?_⟩
      · rw [sApp_eq q (ds := st.map eS) rfl (by rw [List.length_map]; omega), List.map_append]
        rfl
      · rcases List.mem_append.mp hm with g | g
        · exact hl m g
        · rw [List.mem_singleton.mp g]; exact hl2)
    h ⟨.un, rfl, by simp, fun l hl => by cases hl⟩
  subst e1
  have t1 : sFor (asR1 (eCons (eC (.int 300)) eNil)) (gN true 3) (sApp 2 (eIf (asB (eOp gNe (vV true 1) (eLst eNil))) (eFn gList (eCons (eCallP 1 0 s__law_pick (eCons (vV true 1) eNil)) eNil)) (eLst eNil))) [.pt, .sh (eSS fam), .ow [], .un, .un] P = some (.nx, [.pt, .sh (eSS fam), .ow (whole.map eS), x3, .un], P1) := by
    unfold sFor
    rw [hr]
    exact q1
  have w3 : whole.length = 300 := w1
  have i1 : s_is_family [eSS whole] = some (.bool true) := by rw [s_isfam _ (of_fit hu hn (by omega) w2), fam_true hu hn (by omega) w2]
  have w4 : ∀ l ∈ whole ++ [[]], Of u l := fun l hl => by
    rcases List.mem_append.mp hl with g | g
    · exact w2 l g
    · rw [List.mem_singleton.mp g]; exact Of.nil
  have i2 : s_is_family [eSS (whole ++ [[]])] = some (.bool false) := by
    rw [s_isfam _ (of_fit hu hn (by simp; omega) w4)]
    show some (PyData.bool (decide (((whole ++ [[]]).map eS).length ≤ 300) && _)) = _
    rw [List.length_map, decide_eq_false (by simp; omega)]
    rfl
  have t2 : sFrz 2 (sIf (eOr (asB (eOp gIsn (eCall 1 s_is_family (eCons (eV true 2) eNil)) (eC (.bool true)))) (asB (eOp gIsn (eCallK 1 s_is_family (fun ds => pId [] ds) (eCons (eOp gAdd (vV true 2) (eLst (eCons (eLst eNil) eNil))) eNil)) (eC (.bool false))))) (sRet (eC (.bool false))) sNil) [.pt, .sh (eSS fam), .ow (whole.map eS), x3, .un] P1 = some (.nx, [.pt, .sh (eSS fam), .sh (eSS whole), x3, .un], P1) := by
    refine sFrz_eq (ds := whole.map eS) rfl (sIf_f (eOr_eq (k := false) (asB_eq (eOp_eq (a := .bool true) (b := .bool true) (eCall1 rfl i1) rfl (gIsn_bool _ _))) (fun _ => asB_eq (eOp_eq (a := .bool false) (b := .bool false) (eCallK1 (a := eSS (whole ++ [[]])) (eOp_eq (a := eSS whole) (b := eSS [[]]) rfl (eLst_eq (eCons_eq (eLst_eq eNil_eq (Nat.zero_le _)) eNil_eq) (show 1 ≤ sizeLine by decide)) (gAdd_SS whole [[]] (by simp; omega))) i2) rfl (gIsn_bool _ _))) (fun h => by cases h)) rfl)
  have l1 : ∀ x ∈ whole, x.length ≤ sizeLine := fun x hx => Nat.le_trans ((w2 x hx).len hu) (by omega)
  have t3 : sSetN true 4 (eCall 1 s__law_least (eCons (eV true 2) eNil)) [.pt, .sh (eSS fam), .sh (eSS whole), x3, .un] P1 = some (.nx, [.pt, .sh (eSS fam), .sh (eSS whole), x3, .sh (eSS (leastT whole))], P1) := sSetN_eq (eCall1 rfl (s_lawleast whole (by omega) l1))
  have sm : s__law_same 12 [eSS (leastT whole), eSS (leastT whole)] = some (.bool true) := same_SS (by have := least_len whole; omega) fun l hl => l1 l ((least_is fun x hx => (w2 x hx).1).sub l hl)
  refine ⟨P1, ?_, ok1⟩
  show resP (g__law_great [.pt, .sh (eSS fam), .un, .un, .un] P) = _
  unfold g__law_great
  rw [sSeq_go t0, sSeq_go t1, sSeq_go t2, sSeq_go t3, sRet_eq (eCall2 (a := eSS (leastT whole)) (b := eSS (leastT whole)) (eCall1 rfl (s_thin whole (by omega))) rfl sm)]
  rfl
end W62

/-! part M62v -/
set_option Elab.async false
set_option linter.all false
set_option maxRecDepth 100000
set_option maxHeartbeats 4000000
/-! the law: its statements, one by one; own work -/
namespace W62
open PySem PySem.Spec PyProof.Rows L2 PD

abbrev en (a2 a3 a4 a5 a6 a7 a8 a9 a10 a11 a12 a13 a14 a15 a16 : DV) : En := [.un, .pt, a2, a3, a4, a5, a6, a7, a8, a9, a10, a11, a12, a13, a14, a15, a16]
variable {a2 a3 a4 a5 a6 a7 a8 a9 a10 a11 a12 a13 a14 a15 a16 : DV} {P : Pt} {fam : List Lot} {names : Lot}

/-! ### the pot -/
theorem cMul_ok {a b : Int} (h1 : a.natAbs < 2 ^ 64) (h2 : b.natAbs < 2 ^ 64) : gMul (.int a) (.int b) = some (.int (a * b)) := by
  have e : cMul a b = true := by
    unfold cMul
    rw [decide_eq_true_eq]
    have f : ∀ n : Nat, n < 2 ^ 64 → n.log2 < 64 := fun n h => by
      by_cases z : n = 0
      · subst z; decide
      · exact (Nat.log2_lt z).mpr h
    have := f _ h1
    have := f _ h2
    omega
  show (if cMul a b = true then some (PyData.int (a * b)) else none) = _
  rw [if_pos e]
theorem pot_ok (ns : List Int) : ∃ P0 : Pt, potOf ns = some (.list [.int P0.1, .int P0.2]) ∧ PotOk P0 := by
  have key : ∀ cell : Int, 0 ≤ cell → ∃ P0 : Pt, resD ((sRet (eLst (eCons (eFn gMax (eCons (eC (.int 0)) (eCons (eOp gSub (vV true 2) (eOp gPow (eC (.int 10)) (eC (.int 18)))) eNil))) (eCons (eOp gAdd (eOp gMod (eFn gInt (eCons (eOp gAdd (eOp gAdd (eOp gMul (eOp gMod (eFn gInt (eCons (vV true 2) eNil)) (eC (.int 2147483549))) (eC (.int 48271))) (eOp gMul (eC (.int 8167)) (vV true 1))) (eC (.int 31))) eNil)) (eC (.int 2147483563))) (eC (.int 1))) eNil)))) [.vw (.list (ns.map .int)), .sh (.int 0), .sh (.int cell)] (0, 0)) = some (.list [.int P0.1, .int P0.2]) ∧ PotOk P0 := by
    intro cell hc
    have h1 : 0 ≤ cell % 2147483549 := Int.emod_nonneg _ (by omega)
    have h2 : cell % 2147483549 < 2147483549 := Int.emod_lt_of_pos _ (by omega)
    generalize hy : (cell % 2147483549 * 48271 + 8167 * 0 + 31) % 2147483563 = y
    have y1 : 0 ≤ y := by rw [← hy]; exact Int.emod_nonneg _ (by omega)
    have y2 : y < 2147483563 := by rw [← hy]; exact Int.emod_lt_of_pos _ (by omega)
    have hp : gPow (.int 10) (.int 18) = some (.int (10 ^ 18)) := rfl
    refine ⟨(if cell - 10 ^ 18 > 0 then cell - 10 ^ 18 else 0, y + 1), ?_, ?_, ?_⟩
    · rw [sRet_eq (eLst_eq (eCons_eq (eFn_eq (eCons_eq (d := .int 0) rfl (eCons_eq (eOp_eq (a := .int cell) (b := .int (10 ^ 18)) rfl (eOp_eq rfl rfl hp) rfl) eNil_eq)) rfl)
        (eCons_eq (eOp_eq (a := .int y) (b := .int 1) (eOp_eq (a := .int (cell % 2147483549 * 48271 + 8167 * 0 + 31)) (b := .int 2147483563) (eFn1 (eOp_eq (a := .int (cell % 2147483549 * 48271 + 8167 * 0)) (b := .int 31) (eOp_eq (a := .int (cell % 2147483549 * 48271)) (b := .int (8167 * 0)) (eOp_eq (a := .int (cell % 2147483549)) (b := .int 48271) (eOp_eq (a := .int cell) (b := .int 2147483549) (eFn1 rfl rfl) rfl rfl) rfl (cMul_ok (by omega) (by omega))) (eOp_eq (a := .int 8167) (b := .int 0) rfl rfl (cMul_ok (by omega) (by omega))) rfl) rfl rfl) rfl) rfl ?_) rfl rfl) eNil_eq)) (show 2 ≤ sizeLine by decide))]
      · rfl
      · show some (PyData.int ((cell % 2147483549 * 48271 + 8167 * 0 + 31) % 2147483563)) = _
        rw [hy]
    · show -(2 ^ 64) < y + 1; omega
    · show y + 1 < 2 ^ 64; omega
  have cell : ∃ cell : Int, 0 ≤ cell ∧ eIf (asB (eOp gLt (vV true 1) (eFn gLen (eCons (vV true 0) eNil)))) (eFn gAbs (eCons (eOp gIx (vV true 0) (vV true 1)) eNil)) (eOp gAdd (eOp gMul (eC (.int 607)) (vV true 1)) (eC (.int 571))) [.vw (.list (ns.map .int)), .sh (.int 0), .un] (0, 0) = some (.int cell, (0, 0)) := by
    have ht : asB (eOp gLt (vV true 1) (eFn gLen (eCons (vV true 0) eNil))) [.vw (.list (ns.map .int)), .sh (.int 0), .un] (0, 0) = some (decide ((0 : Int) < ((ns.map PyData.int).length : Nat)), (0, 0)) := asB_eq (eOp_eq (a := .int 0) rfl (eFn1 rfl rfl) (gLt_int _ _))
    cases hq : decide ((0 : Int) < ((ns.map PyData.int).length : Nat)) with
    | false =>
      rw [hq] at ht
      exact ⟨607 * 0 + 571, by omega, eIf_f ht (eOp_eq (a := .int (607 * 0)) (b := .int 571) (eOp_eq (a := .int 607) (b := .int 0) rfl rfl (cMul_ok (by omega) (by omega))) rfl rfl)⟩
    | true =>
      rw [hq] at ht
      obtain ⟨d, hd, hm⟩ := atI_some (xs := ns.map PyData.int) (z := 0) (by omega) (of_decide_eq_true hq)
      obtain ⟨i, _, rfl⟩ := List.mem_map.mp hm
      refine ⟨if i < 0 then -i else i, ?_, eIf_t ht (eFn1 (eOp_eq (a := .list (ns.map .int)) (b := .int 0) rfl rfl hd) rfl)⟩
      split <;> omega
  obtain ⟨cell, c0, hc⟩ := cell
  obtain ⟨P0, q, ok⟩ := key cell c0
  refine ⟨P0, ?_, ok⟩
  show resD (g__law_pot [.vw (.list (ns.map .int)), .sh (.int 0), .un] (0, 0)) = _
  unfold g__law_pot
  rw [sSeq_go (sSetN_eq hc)]
  exact q

/-! ### drawn lots -/
theorem drawn {f : Ev Dt} {m : Int} (hm : 0 < m) (hm2 : m < 1073741824) (hf : ∀ x P, f (en a2 a3 a4 a5 a6 a7 a8 (.sh (eS names)) a10 a11 a12 a13 a14 a15 (.sh (.str x))) P = some (.int m, P)) (hn : names.length ≤ 10) (h : PotOk P) :
    ∃ ys P1, eComp [16] (asL (vV true 9)) (gN true 16) (asB (eOp gEq (eCallP 1 1 s__law_draw (eCons f eNil)) (eC (.int 0)))) (eV true 16) (en a2 a3 a4 a5 a6 a7 a8 (.sh (eS names)) a10 a11 a12 a13 a14 a15 a16) P = some (eS ys, P1) ∧ ys.Sublist names ∧ PotOk P1 := by
  obtain ⟨ys, P1, q, hs, ok⟩ := compL_potT (enc := PyData.str) (xs := names) (ρw := wipeD (en a2 a3 a4 a5 a6 a7 a8 (.sh (eS names)) a10 a11 a12 a13 a14 a15 a16) [16]) (tgt := gN true 16) (test := asB (eOp gEq (eCallP 1 1 s__law_draw (eCons f eNil)) (eC (.int 0)))) (elt := eV true 16) h fun x hx P hP => by
    obtain ⟨z, P2, q, z0, z1, ok⟩ := eDraw (i := 1) (ρ := en a2 a3 a4 a5 a6 a7 a8 (.sh (eS names)) a10 a11 a12 a13 a14 a15 (.sh (.str x))) (P := P) (f := f) (m := m) rfl (hf x P) hP hm hm2
    exact ⟨en a2 a3 a4 a5 a6 a7 a8 (.sh (eS names)) a10 a11 a12 a13 a14 a15 (.sh (.str x)), _, P2, rfl, asB_eq (eOp_eq (a := .int z) (b := .int 0) q rfl (gEq_int _ _)), rfl, ok⟩
  refine ⟨ys, P1, eComp_of (ds := names.map .str) rfl q ?_, hs, ok⟩
  rw [List.length_map]
  have := hs.length_le
  exact Nat.le_trans (show ys.length ≤ 10 by omega) (by decide)
theorem drawn_of {ys : Lot} (hn : names.Nodup) (h : ys.Sublist names) : Of names (sortN ys) := ⟨sortN_can (hn.sublist h), fun z hz => h.subset (sortN_mem.mp hz)⟩

/-! ### many, names, share -/
theorem st_many (h : PotOk P) : ∃ (many : Int) (P1 : Pt), sSetN true 2 (eIf (asB (eOp gEq (eCallP 1 1 s__law_draw (eCons (eC (.int 6)) eNil)) (eC (.int 0)))) (eOp gAdd (eC (.int 6)) (eCallP 1 1 s__law_draw (eCons (eC (.int 5)) eNil))) (eOp gAdd (eC (.int 1)) (eCallP 1 1 s__law_draw (eCons (eC (.int 5)) eNil)))) (en a2 a3 a4 a5 a6 a7 a8 a9 a10 a11 a12 a13 a14 a15 a16) P = some (.nx, en (.sh (.int many)) a3 a4 a5 a6 a7 a8 a9 a10 a11 a12 a13 a14 a15 a16, P1) ∧ 1 ≤ many ∧ many ≤ 10 ∧ PotOk P1 := by
  obtain ⟨z, P1, q, z0, z1, ok⟩ := eDraw (i := 1) (ρ := en a2 a3 a4 a5 a6 a7 a8 a9 a10 a11 a12 a13 a14 a15 a16) (P := P) (f := eC (.int 6)) (m := 6) rfl rfl h (by omega) (by omega)
  obtain ⟨y, P2, q2, y0, y1, ok2⟩ := eDraw (i := 1) (ρ := en a2 a3 a4 a5 a6 a7 a8 a9 a10 a11 a12 a13 a14 a15 a16) (P := P1) (f := eC (.int 5)) (m := 5) rfl rfl ok (by omega) (by omega)
  have ht := asB_eq (eOp_eq (h := gEq) (f2 := eC (.int 0)) q rfl (gEq_int z 0))
  cases hq : decide (z = 0) with
  | true =>
    rw [hq] at ht
    exact ⟨6 + y, P2, sSetN_eq (eIf_t ht (eOp_eq (a := .int 6) (b := .int y) rfl q2 rfl)), by omega, by omega, ok2⟩
  | false =>
    rw [hq] at ht
    exact ⟨1 + y, P2, sSetN_eq (eIf_f ht (eOp_eq (a := .int 1) (b := .int y) rfl q2 rfl)), by omega, by omega, ok2⟩
theorem st_names {many : Int} (h : PotOk P) (h0 : 1 ≤ many) (h1 : many ≤ 10) : ∃ (names : Lot) (share : Int) (P1 : Pt), sSet (eTup (eCons (eCallP 1 1 s__law_names (eCons (eV true 2) eNil)) (eCons (eOp gAdd (eC (.int 2)) (eCallP 1 1 s__law_draw (eCons (eC (.int 2)) eNil))) eNil))) (gT true [9, 10]) (en (.sh (.int many)) a3 a4 a5 a6 a7 a8 a9 a10 a11 a12 a13 a14 a15 a16) P = some (.nx, en (.sh (.int many)) a3 a4 a5 a6 a7 a8 (.sh (eS names)) (.sh (.int share)) a11 a12 a13 a14 a15 a16, P1) ∧
    names ≠ [] ∧ names.length ≤ 10 ∧ names.Nodup ∧ (∀ z ∈ names, nameB z = true) ∧ 2 ≤ share ∧ share ≤ 3 ∧ PotOk P1 := by
  obtain ⟨names, P1, q, ok, l, nd, nm⟩ := names_ok h (many := many) (by omega) (by omega)
  obtain ⟨z, P2, q2, z0, z1, ok2⟩ := eDraw (i := 1) (ρ := en (.sh (.int many)) a3 a4 a5 a6 a7 a8 a9 a10 a11 a12 a13 a14 a15 a16) (P := P1) (f := eC (.int 2)) (m := 2) rfl rfl ok (by omega) (by omega)
  refine ⟨names, 2 + z, P2, sSet_eq (d := .tuple [eS names, .int (2 + z)]) (eTup_eq (eCons_eq (eCallP1 rfl rfl q) (eCons_eq (eOp_eq (a := .int 2) (b := .int z) rfl q2 rfl) eNil_eq)) (show 2 ≤ sizeLine by decide)) rfl, ?_, by omega, nd, nm, by omega, by omega, ok2⟩
  intro e
  rw [e] at l
  simp at l
  omega
theorem st_most {many : Int} : ∃ most : Int, sParO 11 12 (eIf (asB (eOp gGt (vV true 2) (eC (.int 5)))) (eC (.int 4)) (eC (.int 7))) eNil (en (.sh (.int many)) a3 a4 a5 a6 a7 a8 a9 a10 a11 a12 a13 a14 a15 a16) P = some (.nx, en (.sh (.int many)) a3 a4 a5 a6 a7 a8 a9 a10 (.sh (.int most)) (.ow []) a13 a14 a15 a16, P) ∧ 4 ≤ most ∧ most ≤ 7 := by
  have ht : asB (eOp gGt (vV true 2) (eC (.int 5))) (en (.sh (.int many)) a3 a4 a5 a6 a7 a8 a9 a10 a11 a12 a13 a14 a15 a16) P = some (decide ((5 : Int) < many), P) := asB_eq (eOp_eq (a := .int many) (b := .int 5) rfl rfl (gGt_int _ _))
  have fin : ∀ most : Int, eIf (asB (eOp gGt (vV true 2) (eC (.int 5)))) (eC (.int 4)) (eC (.int 7)) (en (.sh (.int many)) a3 a4 a5 a6 a7 a8 a9 a10 a11 a12 a13 a14 a15 a16) P = some (.int most, P) → sParO 11 12 (eIf (asB (eOp gGt (vV true 2) (eC (.int 5)))) (eC (.int 4)) (eC (.int 7))) eNil (en (.sh (.int many)) a3 a4 a5 a6 a7 a8 a9 a10 a11 a12 a13 a14 a15 a16) P = some (.nx, en (.sh (.int many)) a3 a4 a5 a6 a7 a8 a9 a10 (.sh (.int most)) (.ow []) a13 a14 a15 a16, P) := by
    intro most h
    unfold sParO
    rw [h]
    rfl
  cases hq : decide ((5 : Int) < many) with
  | true => rw [hq] at ht; exact ⟨4, fin 4 (eIf_t ht rfl), by omega, by omega⟩
  | false => rw [hq] at ht; exact ⟨7, fin 7 (eIf_f ht rfl), by omega, by omega⟩

/-! ### the family -/
abbrev famBody : Sv := (sSeq (sSetN true 13 (eFn gSorted (eCons (eComp [16] (asL (vV true 9)) (gN true 16) (asB (eOp gEq (eCallP 1 1 s__law_draw (eCons (eV true 10) eNil)) (eC (.int 0)))) (eV true 16)) eNil))) (sSeq (sIf (eAnd (asB (eOp gEq (vV true 13) (eLst eNil))) (asB (eOp gGt (eCallP 1 1 s__law_draw (eCons (eC (.int 4)) eNil)) (eC (.int 0))))) (sSetN true 13 (eLst (eCons (eCallP 1 1 s__law_pick (eCons (vV true 9) eNil)) eNil))) sNil) (sApp 12 (eV true 13))))
theorem fam_body {share : Int} {st : List Lot} (h : PotOk P) (s1 : 2 ≤ share) (s2 : share ≤ 3) (n0 : names ≠ []) (n1 : names.length ≤ 10) (n2 : names.Nodup) (hst : st.length < 20) :
    ∃ (l : Lot) (P1 : Pt), famBody (en a2 a3 a4 a5 a6 a7 a8 (.sh (eS names)) (.sh (.int share)) a11 (.ow (st.map eS)) a13 a14 a15 a16) P = some (.nx, en a2 a3 a4 a5 a6 a7 a8 (.sh (eS names)) (.sh (.int share)) a11 (.ow ((st ++ [l]).map eS)) (.sh (eS l)) a14 a15 a16, P1) ∧ Of names l ∧ PotOk P1 := by
  obtain ⟨ys, P1, q, hs, ok⟩ := drawn (a2 := a2) (a3 := a3) (a4 := a4) (a5 := a5) (a6 := a6) (a7 := a7) (a8 := a8) (a10 := .sh (.int share)) (a11 := a11) (a12 := .ow (st.map eS)) (a13 := a13) (a14 := a14) (a15 := a15) (a16 := a16) (f := eV true 10) (m := share) (by omega) (by omega) (fun x P => rfl) n1 h
  have t1 : sSetN true 13 (eFn gSorted (eCons (eComp [16] (asL (vV true 9)) (gN true 16) (asB (eOp gEq (eCallP 1 1 s__law_draw (eCons (eV true 10) eNil)) (eC (.int 0)))) (eV true 16)) eNil)) (en a2 a3 a4 a5 a6 a7 a8 (.sh (eS names)) (.sh (.int share)) a11 (.ow (st.map eS)) a13 a14 a15 a16) P = some (.nx, en a2 a3 a4 a5 a6 a7 a8 (.sh (eS names)) (.sh (.int share)) a11 (.ow (st.map eS)) (.sh (eS (sortN ys))) a14 a15 a16, P1) := sSetN_eq (eFn1 q (sorted_S ys))
  have app : ∀ (l : Lot) (P2 : Pt), sApp 12 (eV true 13) (en a2 a3 a4 a5 a6 a7 a8 (.sh (eS names)) (.sh (.int share)) a11 (.ow (st.map eS)) (.sh (eS l)) a14 a15 a16) P2 = some (.nx, en a2 a3 a4 a5 a6 a7 a8 (.sh (eS names)) (.sh (.int share)) a11 (.ow ((st ++ [l]).map eS)) (.sh (eS l)) a14 a15 a16, P2) := fun l P2 => by
    have big : 1000 ≤ sizeLine := by decide
    rw [sApp_eq (d := eS l) (P1 := P2) rfl (ds := st.map eS) rfl (by rw [List.length_map]; omega), List.map_append]
    rfl
  have tq : asB (eOp gEq (vV true 13) (eLst eNil)) (en a2 a3 a4 a5 a6 a7 a8 (.sh (eS names)) (.sh (.int share)) a11 (.ow (st.map eS)) (.sh (eS (sortN ys))) a14 a15 a16) P1 = some (((sortN ys).map PyData.str).isEmpty, P1) := asB_eq (eOp_eq (a := eS (sortN ys)) (b := .list []) rfl (eLst_eq eNil_eq (Nat.zero_le _)) (gEq_nil _))
  cases hq : ((sortN ys).map PyData.str).isEmpty with
  | false =>
    rw [hq] at tq
    refine ⟨sortN ys, P1, ?_, drawn_of n2 hs, ok⟩
    rw [show famBody = sSeq _ _ from rfl, sSeq_go t1, sSeq_go (sIf_f (eAnd_eq (k := false) (k1 := false) (P2 := P1) tq (fun h => by cases h) (fun _ => ⟨rfl, rfl⟩)) rfl)]
    exact app _ _
  | true =>
    rw [hq] at tq
    obtain ⟨z, P2, q2, z0, z1, ok2⟩ := eDraw (i := 1) (ρ := en a2 a3 a4 a5 a6 a7 a8 (.sh (eS names)) (.sh (.int share)) a11 (.ow (st.map eS)) (.sh (eS (sortN ys))) a14 a15 a16) (P := P1) (f := eC (.int 4)) (m := 4) rfl rfl ok (by omega) (by omega)
    have tz := asB_eq (eOp_eq (h := gGt) (f2 := eC (.int 0)) q2 rfl (gGt_int z 0))
    have tand := eAnd_eq (k := true) tq (fun _ => tz) (fun h => by cases h)
    cases hz : decide ((0 : Int) < z) with
    | false =>
      rw [hz] at tand
      refine ⟨sortN ys, P2, ?_, drawn_of n2 hs, ok2⟩
      rw [show famBody = sSeq _ _ from rfl, sSeq_go t1, sSeq_go (sIf_f tand rfl)]
      exact app _ _
    | true =>
      rw [hz] at tand
      obtain ⟨d, P3, q3, hd, ok3⟩ := pick_list ok2 (ds := names.map .str) (by simpa using n0) (by rw [List.length_map]; omega)
      obtain ⟨z, hz, rfl⟩ := List.mem_map.mp hd
      refine ⟨[z], P3, ?_, ⟨List.pairwise_singleton _ _, fun w hw => by rw [List.mem_singleton.mp hw]; exact hz⟩, ok3⟩
      have t2 : sSetN true 13 (eLst (eCons (eCallP 1 1 s__law_pick (eCons (vV true 9) eNil)) eNil)) (en a2 a3 a4 a5 a6 a7 a8 (.sh (eS names)) (.sh (.int share)) a11 (.ow (st.map eS)) (.sh (eS (sortN ys))) a14 a15 a16) P2 = some (.nx, en a2 a3 a4 a5 a6 a7 a8 (.sh (eS names)) (.sh (.int share)) a11 (.ow (st.map eS)) (.sh (eS [z])) a14 a15 a16, P3) := sSetN_eq (eLst_eq (eCons_eq (eCallP1 rfl rfl q3) eNil_eq) (show 1 ≤ sizeLine by decide))
      rw [show famBody = sSeq _ _ from rfl, sSeq_go t1, sSeq_go (sIf_t tand t2)]
      exact app _ _
theorem st_fam {share most : Int} (h : PotOk P) (s1 : 2 ≤ share) (s2 : share ≤ 3) (m1 : 4 ≤ most) (m2 : most ≤ 7) (n0 : names ≠ []) (n1 : names.length ≤ 10) (n2 : names.Nodup) :
    ∃ (fam : List Lot) (b3 b13 : DV) (P1 : Pt), sFor (asR1 (eCons (eCallP 1 1 s__law_draw (eCons (eV true 11) eNil)) eNil)) (gN true 3) famBody (en a2 a3 a4 a5 a6 a7 a8 (.sh (eS names)) (.sh (.int share)) (.sh (.int most)) (.ow []) a13 a14 a15 a16) P = some (.nx, en a2 b3 a4 a5 a6 a7 a8 (.sh (eS names)) (.sh (.int share)) (.sh (.int most)) (.ow (fam.map eS)) b13 a14 a15 a16, P1) ∧ fam.length ≤ 7 ∧ (∀ l ∈ fam, Of names l) ∧ PotOk P1 := by
  obtain ⟨z, P1, q, z0, z1, ok⟩ := eDraw (i := 1) (ρ := en a2 a3 a4 a5 a6 a7 a8 (.sh (eS names)) (.sh (.int share)) (.sh (.int most)) (.ow []) a13 a14 a15 a16) (P := P) (f := eV true 11) (m := most) rfl rfl h (by omega) (by omega)
  obtain ⟨fam, P2, ρ2, q2, ok2, ⟨b3, b13, e2, w1, w2⟩⟩ := forL_pn (τ := List Lot) (enc := fun i : Nat => PyData.int (0 + (i : Int))) (xs := List.range z.toNat) (st := []) (P := P1) (ρ := en a2 a3 a4 a5 a6 a7 a8 (.sh (eS names)) (.sh (.int share)) (.sh (.int most)) (.ow []) a13 a14 a15 a16) (tgt := gN true 3) (body := famBody)
    (I := fun n st ρ => ∃ b3 b13, ρ = en a2 b3 a4 a5 a6 a7 a8 (.sh (eS names)) (.sh (.int share)) (.sh (.int most)) (.ow (st.map eS)) b13 a14 a15 a16 ∧ st.length + n ≤ 7 ∧ ∀ l ∈ st, Of names l)
    (fun n st P ρ i hi ok ⟨b3, b13, e, hs, hl⟩ => by
      subst e
      obtain ⟨l, P2, q, ho, ok2⟩ := fam_body (a2 := a2) (a3 := .sh (.int (0 + (i : Int)))) (a4 := a4) (a5 := a5) (a6 := a6) (a7 := a7) (a8 := a8) (a11 := .sh (.int most)) (a13 := b13) (a14 := a14) (a15 := a15) (a16 := a16) (st := st) ok s1 s2 n0 n1 n2 (by omega)
      refine ⟨_, _, st ++ [l], P2, rfl, q, ok2, _, _, rfl, by simp; omega, fun m hm => ?_⟩
      rcases List.mem_append.mp hm with g | g
      · exact hl m g
      · rw [List.mem_singleton.mp g]; exact ho)
    ok ⟨a3, a13, rfl, by simp; omega, fun l hl => by cases hl⟩
  subst e2
  refine ⟨fam, b3, b13, P2, ?_, by omega, w2, ok2⟩
  unfold sFor
  rw [asR1_eq (j := z) (eCons_eq q eNil_eq) (by omega) (by omega)]
  exact q2
theorem st_more (h : PotOk P) (f1 : fam.length ≤ 7) (f2 : ∀ l ∈ fam, Of names l) : ∃ (fam' : List Lot) (P1 : Pt), sIf (eAnd (asB (eOp gNe (vV true 12) (eLst eNil))) (asB (eOp gEq (eCallP 1 1 s__law_draw (eCons (eC (.int 4)) eNil)) (eC (.int 0))))) (sApp 12 (eFn gList (eCons (eCallP 1 1 s__law_pick (eCons (vV true 12) eNil)) eNil))) sNil (en a2 a3 a4 a5 a6 a7 a8 a9 a10 a11 (.ow (fam.map eS)) a13 a14 a15 a16) P = some (.nx, en a2 a3 a4 a5 a6 a7 a8 a9 a10 a11 (.ow (fam'.map eS)) a13 a14 a15 a16, P1) ∧ fam'.length ≤ 8 ∧ (∀ l ∈ fam', Of names l) ∧ PotOk P1 := by
  have tq : asB (eOp gNe (vV true 12) (eLst eNil)) (en a2 a3 a4 a5 a6 a7 a8 a9 a10 a11 (.ow (fam.map eS)) a13 a14 a15 a16) P = some (!(fam.map eS).isEmpty, P) := asB_eq (eOp_eq (a := eSS fam) (b := .list []) rfl (eLst_eq eNil_eq (Nat.zero_le _)) (gNe_nil _))
  cases hq : (fam.map eS).isEmpty with
  | true =>
    rw [hq] at tq
    exact ⟨fam, P, sIf_f (eAnd_eq (k := false) (k1 := false) (P2 := P) tq (fun h => by cases h) (fun _ => ⟨rfl, rfl⟩)) rfl, by omega, f2, h⟩
  | false =>
    rw [hq] at tq
    obtain ⟨z, P2, q2, z0, z1, ok2⟩ := eDraw (i := 1) (ρ := en a2 a3 a4 a5 a6 a7 a8 a9 a10 a11 (.ow (fam.map eS)) a13 a14 a15 a16) (P := P) (f := eC (.int 4)) (m := 4) rfl rfl h (by omega) (by omega)
    have tz := asB_eq (eOp_eq (h := gEq) (f2 := eC (.int 0)) q2 rfl (gEq_int z 0))
    have tand := eAnd_eq (k := true) tq (fun _ => tz) (fun h => by cases h)
    cases hz : decide (z = 0) with
    | false =>
      rw [hz] at tand
      exact ⟨fam, P2, sIf_f tand rfl, by omega, f2, ok2⟩
    | true =>
      rw [hz] at tand
      obtain ⟨d, P3, q3, hd, ok3⟩ := pick_list ok2 (ds := fam.map eS) (by intro e; rw [e] at hq; cases hq) (by rw [List.length_map]; omega)
      obtain ⟨l, hl, rfl⟩ := List.mem_map.mp hd
      refine ⟨fam ++ [l], P3, sIf_t tand ?_, by simp; omega, fun m hm => ?_, ok3⟩
      · have big : 1000 ≤ sizeLine := by decide
        rw [sApp_eq (ds := fam.map eS) (eFn1 (eCallP1 rfl rfl q3) rfl) rfl (by rw [List.length_map]; omega), List.map_append]
        rfl
      · rcases List.mem_append.mp hm with g | g
        · exact f2 m g
        · rw [List.mem_singleton.mp g]; exact f2 l hl
end W62

/-! part M62w -/
set_option Elab.async false
set_option linter.all false
set_option maxRecDepth 100000
set_option maxHeartbeats 4000000
/-! the law: all statements; own work -/
namespace W62
open PySem PySem.Spec PyProof.Rows L2 PD

theorem allT_len : ∀ (l : Lot) (lots : List Lot), (l.foldl addN lots).length = 2 ^ l.length * lots.length
  | [], lots => by simp
  | n :: l, lots => by
    rw [List.foldl_cons, allT_len l, addN_len, List.length_cons, Nat.pow_succ, Nat.mul_assoc]
theorem of_few {u : Lot} (hu : Can u) (hl : u.length ≤ 10) {found : List Lot} (nd : found.Nodup) (h : ∀ x ∈ found, Of u x) : found.length ≤ 1024 ∧ ∀ x ∈ found, x.length ≤ 1024 := by
  refine ⟨?_, fun x hx => Nat.le_trans ((h x hx).len hl) (by omega)⟩
  have h1 : found.length ≤ (allT u).length := nodup_lenL nd fun x hx => sub_all u x (can_sublist (h x hx).1 hu (h x hx).2)
  have h2 : (allT u).length = 2 ^ u.length * 1 := allT_len u [[]]
  have h3 : 2 ^ u.length ≤ 2 ^ 10 := pow_le hl
  omega
/-- least_hitting over lots of u -/
theorem lh_of {u : Lot} (hu : Can u) (hl : u.length ≤ 10) {fam : List Lot} (hf : ∀ l ∈ fam, Of u l) : s_least_hitting [eSS fam] = some (eSS (lhT fam)) := by
  refine s_lh (fun found => found.Nodup ∧ ∀ x ∈ found, Of u x) ⟨by simp, fun x hx => by rw [List.mem_singleton.mp hx]; exact Of.nil⟩ (fun found h => of_few hu hl h.1 h.2) fam (fun l hm => Nat.le_trans ((hf l hm).len hl) (by omega)) fun found lot hm h => ?_
  have hm' : ∀ x ∈ madeT found lot, Of u x := fun x hx => by
    obtain ⟨o, ho, hg⟩ := made_mem.mp hx
    rcases grown_mem hg with ⟨_, rfl⟩ | ⟨hs, n, hn, rfl⟩
    · exact h.2 _ ho
    · refine ⟨sortN_can (List.nodup_append.mpr ⟨(h.2 o ho).1.nodup, by simp, ?_⟩), fun z hz => ?_⟩
      · intro a ha b hb e
        rw [List.mem_singleton.mp hb] at e
        subst e
        rw [shT_iff.mpr ⟨a, ha, hn⟩] at hs
        cases hs
      · rcases List.mem_append.mp (sortN_mem.mp hz) with g | g
        · exact (h.2 o ho).2 z g
        · rw [List.mem_singleton.mp g]; exact (hf lot hm).2 n hn
  have q := least_is fun x hx => (hm' x hx).1
  exact ⟨q.nd, fun x hx => hm' x (q.sub x hx)⟩

/-- what the law's statements know -/
structure Kn (names : Lot) (fam : List Lot) : Prop where
  n0 : names ≠ []
  nl : names.length ≤ 10
  nd : names.Nodup
  nm : ∀ z ∈ names, nameB z = true
  fl : fam.length ≤ 8
  fo : ∀ l ∈ fam, Of names l
variable {a2 a3 a4 a5 a6 a7 a8 a9 a10 a11 a12 a13 a14 a15 a16 : DV} {P : Pt} {fam : List Lot} {names : Lot}
abbrev dueT (names : Lot) (fam : List Lot) : List Lot := leastT ((allT (sortN names)).filter fun l => hitT l fam)
theorem Kn.used (k : Kn names fam) : Can (sortN names) := sortN_can k.nd
theorem Kn.ul (k : Kn names fam) : (sortN names).length ≤ 10 := by rw [sortN_len]; exact k.nl
theorem Kn.tr (k : Kn names fam) : IsTr fam (dueT names fam) := tr_all k.used (fun o ho x hx => sortN_mem.mpr ((k.fo o ho).2 x hx)) fun x => Iff.rfl
theorem Kn.due (k : Kn names fam) : ∀ x ∈ dueT names fam, Of names x := fun x hx => by
  have h := least_is (l := (allT (sortN names)).filter fun l => hitT l fam) fun y hy => k.used.sub (all_sub _ y (List.mem_filter.mp hy).1)
  exact ⟨k.tr.can x hx, fun z hz => sortN_mem.mp ((all_sub _ x (List.mem_filter.mp (h.sub x hx)).1).subset hz)⟩
theorem Of.srt {u l : Lot} (h : Of u l) : Of (sortN u) l := ⟨h.1, fun z hz => sortN_mem.mpr (h.2 z hz)⟩
theorem Kn.few (k : Kn names fam) : (dueT names fam).length ≤ 1024 ∧ ∀ x ∈ dueT names fam, x.length ≤ 1024 := of_few k.used k.ul k.tr.nd fun x hx => (k.due x hx).srt
theorem Kn.lh (k : Kn names fam) : s_least_hitting [eSS fam] = some (eSS (dueT names fam)) := by
  rw [lh_of k.used k.ul fun l hl => (k.fo l hl).srt, (tr_lh fam).uniq k.tr]
theorem big : 1000000 ≤ sizeLine := by decide
theorem Kn.same (k : Kn names fam) : s__law_same 12 [eSS (dueT names fam), eSS (dueT names fam)] = some (.bool true) := same_SS (Nat.le_trans k.few.1 (Nat.le_trans (by omega) big)) fun l hl => Nat.le_trans (k.few.2 l hl) (Nat.le_trans (by omega) big)
theorem Kn.lotl (k : Kn names fam) : ∀ l ∈ fam, l.length ≤ 10 := fun l hl => (k.fo l hl).len k.nl
theorem Kn.names_le (k : Kn names fam) : (namesT fam).length ≤ 10 := Nat.le_trans (nodup_len (names_can fam).nodup fun z hz => by
  obtain ⟨o, ho, h⟩ := names_mem.mp hz
  exact (k.fo o ho).2 z h) k.nl
theorem Kn.plain (k : Kn names fam) : s_least_hitting_plain [eSS fam] = some (eSS (dueT names fam)) := by
  have e1 : (setOfS fam.flatten).length = (namesT fam).length := (sortN_len _).symm
  have h1 := k.names_le
  have t : IsTr fam (leastT ((bySize (allT (namesT fam))).filter fun l => hitT l fam)) := tr_all (names_can fam) (fun o ho x hx => names_mem.mpr ⟨o, ho, hx⟩) fun x => bySize_mem
  rw [s_plain fam (by omega) (by omega), t.uniq k.tr]
theorem Kn.least (k : Kn names fam) : s__law_least [eSS fam] = some (eSS (leastT fam)) := s_lawleast fam (Nat.lt_of_le_of_lt k.fl (by decide)) fun x hx => Nat.le_trans (k.lotl x hx) (by decide)
theorem Kn.thin (k : Kn names fam) : s_thinned_family [eSS fam] = some (eSS (leastT fam)) := s_thin fam (Nat.lt_of_le_of_lt k.fl (by decide))
theorem Kn.same2 (k : Kn names fam) : s__law_same 12 [eSS (leastT fam), eSS (leastT fam)] = some (.bool true) := same_SS (Nat.le_trans (least_len fam) (Nat.le_trans k.fl (by decide))) fun l hl => Nat.le_trans (k.lotl l ((least_is fun x hx => (k.fo x hx).1).sub l hl)) (by decide)
theorem Kn.dual (k : Kn names fam) : s_least_hitting [eSS (dueT names fam)] = some (eSS (leastT fam)) := by
  rw [lh_of k.used k.ul fun l hl => (k.due l hl).srt, (tr_lh _).uniq (tr_dual (fun x hx => (k.fo x hx).1) k.tr)]
theorem asB_same {f1 f2 : Ev Dt} {ρ : En} {d : Dt} (h1 : f1 ρ P = some (d, P)) (h2 : f2 ρ P = some (d, P)) (h : s__law_same 12 [d, d] = some (.bool true)) : eNot (asB (eCall 2 (s__law_same 12) (eCons f1 (eCons f2 eNil)))) ρ P = some (false, P) := eNot_eq (k := true) (asB_eq (eCall2 h1 h2 h))
theorem st_same {f1 f2 : Ev Dt} {ρ : En} {d : Dt} (h1 : f1 ρ P = some (d, P)) (h2 : f2 ρ P = some (d, P)) (h : s__law_same 12 [d, d] = some (.bool true)) : sIf (eNot (asB (eCall 2 (s__law_same 12) (eCons f1 (eCons f2 eNil))))) (sRet (eC (.bool false))) sNil ρ P = some (.nx, ρ, P) := sIf_f (asB_same h1 h2 h) rfl
/-- repr, sorted names -/
theorem st_par (k : Kn names fam) : ∃ t : Str, gRepr [eSS fam] = some (.str t) ∧ sPar 14 15 (eCons (eFn gRepr (eCons (vV true 12) eNil)) (eCons (eFn gSorted (eCons (vV true 9) eNil)) eNil)) (en a2 a3 a4 a5 a6 a7 a8 (.sh (eS names)) a10 a11 (.ow (fam.map eS)) a13 a14 a15 a16) P = some (.nx, en a2 a3 a4 a5 a6 a7 a8 (.sh (eS names)) a10 a11 (.ow (fam.map eS)) a13 (.sh (.str t)) (.sh (eS (sortN names))) a16, P) := by
  obtain ⟨t, ht⟩ := repr_ok (fam := fam) (Nat.le_trans k.fl (by omega)) fun l hl => ⟨k.lotl l hl, fun z hz => k.nm z ((k.fo l hl).2 z hz)⟩
  exact ⟨t, ht, sPar_eq (eCons_eq (eFn1 rfl ht) (eCons_eq (eFn1 rfl (sorted_S names)) eNil_eq))⟩
theorem st_hitting (k : Kn names fam) : sFrz 12 (sSetN true 4 (eComp [13] (asL (eCall 1 s__law_all_lots (eCons (eV true 15) eNil))) (gN true 13) (asB (eCall 2 s__law_hits (eCons (eV true 13) (eCons (eV true 12) eNil)))) (eV true 13))) (en a2 a3 a4 a5 a6 a7 a8 a9 a10 a11 (.ow (fam.map eS)) a13 a14 (.sh (eS (sortN names))) a16) P =
    some (.nx, en a2 a3 (.sh (eSS ((allT (sortN names)).filter fun l => hitT l fam))) a5 a6 a7 a8 a9 a10 a11 (.sh (eSS fam)) a13 a14 (.sh (eS (sortN names))) a16, P) := by
  have hlen := all_len (sortN names) (by have := k.ul; omega)
  have q : eComp [13] (asL (eCall 1 s__law_all_lots (eCons (eV true 15) eNil))) (gN true 13) (asB (eCall 2 s__law_hits (eCons (eV true 13) (eCons (eV true 12) eNil)))) (eV true 13) (en a2 a3 a4 a5 a6 a7 a8 a9 a10 a11 (.sh (eSS fam)) a13 a14 (.sh (eS (sortN names))) a16) P = some (eSS ((allT (sortN names)).filter fun l => hitT l fam), P) :=
    eComp_map (enc := eS) (xs := allT (sortN names)) (t := fun l => hitT l fam) (e := eS) (asL_eq (eCall1 rfl (s_lawall _ (by have := k.ul; omega)))) (fun l hl => ⟨_, rfl, asB_eq (eCall2 rfl rfl (s_lawhits l fam (Nat.le_trans (List.Sublist.length_le (all_sub _ l hl)) (Nat.le_trans k.ul (by decide))) (Nat.le_trans k.fl (by decide)))), fun _ => rfl⟩) (Nat.le_trans hlen (by decide))
  exact sFrz_eq (ds := fam.map eS) rfl (sSetN_eq q)
theorem st_due (k : Kn names fam) : sSetN true 5 (eCall 1 s__law_least (eCons (eV true 4) eNil)) (en a2 a3 (.sh (eSS ((allT (sortN names)).filter fun l => hitT l fam))) a5 a6 a7 a8 a9 a10 a11 a12 a13 a14 a15 a16) P = some (.nx, en a2 a3 (.sh (eSS ((allT (sortN names)).filter fun l => hitT l fam))) (.sh (eSS (dueT names fam))) a6 a7 a8 a9 a10 a11 a12 a13 a14 a15 a16, P) := by
  have hlen := all_len (sortN names) (by have := k.ul; omega)
  have h2 : ((allT (sortN names)).filter fun l => hitT l fam).length ≤ 2 ^ 20 := Nat.le_trans (List.length_filter_le _ _) hlen
  refine sSetN_eq (eCall1 rfl (s_lawleast _ (Nat.lt_of_le_of_lt h2 (by decide)) fun x hx => ?_))
  exact Nat.le_trans (List.Sublist.length_le (all_sub _ x (List.mem_filter.mp hx).1)) (Nat.le_trans k.ul (by decide))
theorem st_isfam (k : Kn names fam) : sIf (asB (eOp gIsn (eCall 1 s_is_family (eCons (eV true 12) eNil)) (eC (.bool true)))) (sRet (eC (.bool false))) sNil (en a2 a3 a4 a5 a6 a7 a8 a9 a10 a11 (.sh (eSS fam)) a13 a14 a15 a16) P = some (.nx, en a2 a3 a4 a5 a6 a7 a8 a9 a10 a11 (.sh (eSS fam)) a13 a14 a15 a16, P) := by
  have i1 : s_is_family [eSS fam] = some (.bool true) := by rw [s_isfam _ (of_fit k.nl k.nm (by have := k.fl; omega) k.fo), fam_true k.nl k.nm (by have := k.fl; omega) k.fo]
  exact sIf_f (asB_eq (eOp_eq (a := .bool true) (b := .bool true) (eCall1 rfl i1) rfl (gIsn_bool _ _))) rfl
theorem st_bent (k : Kn names fam) (h : PotOk P) : ∃ (b6 : DV) (P1 : Pt), sFor (asL (eCallP 2 1 s__law_bent (eCons (eV true 12) (eCons (eV true 9) eNil)))) (gN true 6) (sIf (eNot (asB (eCall 2 (s__law_same 12) (eCons (eCall 1 s_is_family (eCons (eV true 6) eNil)) (eCons (eCall 1 s__law_is_family (eCons (eV true 6) eNil)) eNil))))) (sRet (eC (.bool false))) sNil) (en a2 a3 a4 a5 a6 a7 a8 (.sh (eS names)) a10 a11 (.sh (eSS fam)) a13 a14 a15 a16) P =
    some (.nx, en a2 a3 a4 a5 b6 a7 a8 (.sh (eS names)) a10 a11 (.sh (eSS fam)) a13 a14 a15 a16, P1) ∧ PotOk P1 := by
  have shn : Sh names := fun z hz => by have := nameB_ok (k.nm z hz); omega
  obtain ⟨vs, P1, q, ok, hv⟩ := bent_ok h (fam := fam) (names := names) (by have := k.fl; omega) (fun l hl => ⟨k.lotl l hl, fun z hz => shn z ((k.fo l hl).2 z hz)⟩) k.n0 shn
  have loop : ∀ (vs : List Dt) (a6 : DV), (∀ v ∈ vs, FamFit v) → ∃ b6, forL (gN true 6) (sIf (eNot (asB (eCall 2 (s__law_same 12) (eCons (eCall 1 s_is_family (eCons (eV true 6) eNil)) (eCons (eCall 1 s__law_is_family (eCons (eV true 6) eNil)) eNil))))) (sRet (eC (.bool false))) sNil) vs (en a2 a3 a4 a5 a6 a7 a8 (.sh (eS names)) a10 a11 (.sh (eSS fam)) a13 a14 a15 a16) P1 = some (.nx, en a2 a3 a4 a5 b6 a7 a8 (.sh (eS names)) a10 a11 (.sh (eSS fam)) a13 a14 a15 a16, P1) := by
    intro vs
    induction vs with
    | nil => exact fun a6 _ => ⟨a6, rfl⟩
    | cons v vs ih =>
      intro a6 hv
      obtain ⟨b6, q⟩ := ih (.sh v) fun w hw => hv w (List.mem_cons_of_mem _ hw)
      have hf := hv v (List.mem_cons_self ..)
      have t := st_same (P := P1) (ρ := en a2 a3 a4 a5 (.sh v) a7 a8 (.sh (eS names)) a10 a11 (.sh (eSS fam)) a13 a14 a15 a16) (f1 := eCall 1 s_is_family (eCons (eV true 6) eNil)) (f2 := eCall 1 s__law_is_family (eCons (eV true 6) eNil)) (eCall1 rfl (s_isfam v hf)) (eCall1 rfl (s_lawisfam v hf)) same_bool
      refine ⟨b6, ?_⟩
      unfold forL
      show (match sIf _ _ _ (en a2 a3 a4 a5 (.sh v) a7 a8 (.sh (eS names)) a10 a11 (.sh (eSS fam)) a13 a14 a15 a16) P1 with
        | none => none
        | some (.nx, ρ2, P2) => _
        | some (.ct, ρ2, P2) => _
        | some (.bk, ρ2, P2) => _
        | some (.rt d, ρ2, P2) => _) = _
      rw [t]
      exact q
  obtain ⟨b6, q2⟩ := loop vs a6 hv
  refine ⟨b6, P1, ?_, ok⟩
  unfold sFor
  rw [asL_eq (ds := vs) (eCallP2 rfl rfl rfl q)]
  exact q2
theorem st_thin (k : Kn names fam) : sIf (eNot (asB (eCall 2 (s__law_same 12) (eCons (eCallK 1 s_thinned_family (fun ds => pId [] ds) (eCons (eV true 12) eNil)) (eCons (eCall 1 s__law_least (eCons (eV true 12) eNil)) eNil))))) (sRet (eC (.bool false))) sNil (en a2 a3 a4 a5 a6 a7 a8 a9 a10 a11 (.sh (eSS fam)) a13 a14 a15 a16) P = some (.nx, en a2 a3 a4 a5 a6 a7 a8 a9 a10 a11 (.sh (eSS fam)) a13 a14 a15 a16, P) := st_same (eCallK1 rfl k.thin) (eCall1 rfl k.least) k.same2
theorem st_told (k : Kn names fam) : sTold 7 8 (eCall 1 s_least_hitting (eCons (eV true 12) eNil)) (eNot (asB (eCall 2 (s__law_same 12) (eCons (eV true 7) (eCons (eV true 5) eNil))))) (en a2 a3 a4 (.sh (eSS (dueT names fam))) a6 a7 a8 a9 a10 a11 (.sh (eSS fam)) a13 a14 a15 a16) P = some (.nx, en a2 a3 a4 (.sh (eSS (dueT names fam))) a6 .un .un a9 a10 a11 (.sh (eSS fam)) a13 a14 a15 a16, P) := by
  unfold sTold
  rw [eCall1 (P1 := P) (a := eSS fam) (d := eSS (dueT names fam)) rfl k.lh]
  dsimp only
  rw [asB_same (P := P) (d := eSS (dueT names fam)) rfl rfl k.same]
  dsimp only
  have r : rowsOk ((dueT names fam).map eS) = true := by
    unfold rowsOk
    rw [List.all_eq_true]
    intro d hd
    obtain ⟨l, hl, rfl⟩ := List.mem_map.mp hd
    obtain ⟨h1, h2⟩ := k.few
    have h3 := h2 l hl
    show (decide ((l.map PyData.str).length + ((dueT names fam).map eS).length < sizeLine) && _) = true
    rw [List.length_map, List.length_map, decide_eq_true (Nat.lt_of_lt_of_le (by omega) big), Bool.true_and, List.all_eq_true]
    intro x hx
    obtain ⟨z, _, rfl⟩ := List.mem_map.mp hx
    rfl
  rw [if_pos ⟨r, by show 7 < 17; omega, by show 8 < 17; omega⟩]
  rfl
theorem st_again (k : Kn names fam) : sIf (eNot (asB (eCall 2 (s__law_same 12) (eCons (eCallK 1 s_least_hitting (fun ds => pId [] ds) (eCons (eV true 12) eNil)) (eCons (eV true 5) eNil))))) (sRet (eC (.bool false))) sNil (en a2 a3 a4 (.sh (eSS (dueT names fam))) a6 a7 a8 a9 a10 a11 (.sh (eSS fam)) a13 a14 a15 a16) P = some (.nx, en a2 a3 a4 (.sh (eSS (dueT names fam))) a6 a7 a8 a9 a10 a11 (.sh (eSS fam)) a13 a14 a15 a16, P) := st_same (eCallK1 rfl k.lh) rfl k.same
theorem st_plain {many : Int} (k : Kn names fam) : sIf (eAnd (asB (eOp gLt (vV true 2) (eC (.int 9)))) (eNot (asB (eCall 2 (s__law_same 12) (eCons (eCallK 1 s_least_hitting_plain (fun ds => pId [] ds) (eCons (eV true 12) eNil)) (eCons (eV true 5) eNil)))))) (sRet (eC (.bool false))) sNil (en (.sh (.int many)) a3 a4 (.sh (eSS (dueT names fam))) a6 a7 a8 a9 a10 a11 (.sh (eSS fam)) a13 a14 a15 a16) P = some (.nx, en (.sh (.int many)) a3 a4 (.sh (eSS (dueT names fam))) a6 a7 a8 a9 a10 a11 (.sh (eSS fam)) a13 a14 a15 a16, P) :=
  sIf_f (eAnd_eq (P1 := P) (asB_eq (eOp_eq (a := .int many) (b := .int 9) rfl rfl (gLt_int _ _))) (fun _ => asB_same (eCallK1 rfl k.plain) rfl k.same) (fun _ => ⟨rfl, rfl⟩)) rfl
theorem st_dual (k : Kn names fam) : sIf (eAnd (asB (eOp gLt (eFn gLen (eCons (vV true 5) eNil)) (eC (.int 13)))) (eNot (asB (eCall 2 (s__law_same 12) (eCons (eCall 1 s_least_hitting (eCons (eV true 5) eNil)) (eCons (eCall 1 s__law_least (eCons (eV true 12) eNil)) eNil)))))) (sRet (eC (.bool false))) sNil (en a2 a3 a4 (.sh (eSS (dueT names fam))) a6 a7 a8 a9 a10 a11 (.sh (eSS fam)) a13 a14 a15 a16) P = some (.nx, en a2 a3 a4 (.sh (eSS (dueT names fam))) a6 a7 a8 a9 a10 a11 (.sh (eSS fam)) a13 a14 a15 a16, P) :=
  sIf_f (eAnd_eq (P1 := P) (asB_eq (eOp_eq (a := .int ((dueT names fam).map eS).length) (b := .int 13) (eFn1 rfl rfl) rfl (gLt_int _ _))) (fun _ => asB_same (eCall1 rfl k.dual) (eCall1 rfl k.least) k.same2) (fun _ => ⟨rfl, rfl⟩)) rfl
theorem hits_same (k : Kn names fam) {lot : Lot} (hl : lot.length ≤ 1000) {b3 b16 : DV} : sIf (eNot (asB (eCall 2 (s__law_same 12) (eCons (eCall 2 s_hits (eCons (eV true 13) (eCons (eV true 12) eNil))) (eCons (eCall 2 s__law_hits (eCons (eV true 13) (eCons (eV true 12) eNil))) eNil))))) (sRet (eC (.bool false))) sNil (en a2 b3 a4 a5 a6 a7 a8 a9 a10 a11 (.sh (eSS fam)) (.sh (eS lot)) a14 a15 b16) P = some (.nx, en a2 b3 a4 a5 a6 a7 a8 a9 a10 a11 (.sh (eSS fam)) (.sh (eS lot)) a14 a15 b16, P) :=
  st_same (eCall2 rfl rfl (s_hitsE lot fam)) (eCall2 rfl rfl (s_lawhits lot fam (Nat.le_trans hl (by decide)) (Nat.le_trans k.fl (by decide)))) same_bool
abbrev hitBody : Sv := (sSeq (sSetN true 13 (eFn gSorted (eCons (eComp [16] (asL (vV true 9)) (gN true 16) (asB (eOp gEq (eCallP 1 1 s__law_draw (eCons (eC (.int 2)) eNil)) (eC (.int 0)))) (eV true 16)) eNil))) (sSeq (sIf (asB (eOp gEq (vV true 3) (eC (.int 0)))) (sSetN true 13 (eFn gSorted (eCons (eOp gAdd (eLst (eCons (eC (.str "q0")) eNil)) (eSl (vV true 13) (oAt (eC (.int 1))) oNo)) eNil))) sNil) (sIf (eNot (asB (eCall 2 (s__law_same 12) (eCons (eCall 2 s_hits (eCons (eV true 13) (eCons (eV true 12) eNil))) (eCons (eCall 2 s__law_hits (eCons (eV true 13) (eCons (eV true 12) eNil))) eNil))))) (sRet (eC (.bool false))) sNil)))
theorem hit_body (k : Kn names fam) (h : PotOk P) {i : Int} : ∃ (b13 : DV) (P1 : Pt), hitBody (en a2 (.sh (.int i)) a4 a5 a6 a7 a8 (.sh (eS names)) a10 a11 (.sh (eSS fam)) a13 a14 a15 a16) P = some (.nx, en a2 (.sh (.int i)) a4 a5 a6 a7 a8 (.sh (eS names)) a10 a11 (.sh (eSS fam)) b13 a14 a15 a16, P1) ∧ PotOk P1 := by
  obtain ⟨ys, P1, q, hs, ok⟩ := drawn (a2 := a2) (a3 := .sh (.int i)) (a4 := a4) (a5 := a5) (a6 := a6) (a7 := a7) (a8 := a8) (a10 := a10) (a11 := a11) (a12 := .sh (eSS fam)) (a13 := a13) (a14 := a14) (a15 := a15) (a16 := a16) (f := eC (.int 2)) (m := 2) (by omega) (by omega) (fun x P => rfl) k.nl h
  have ho := drawn_of k.nd hs
  have t1 : sSetN true 13 (eFn gSorted (eCons (eComp [16] (asL (vV true 9)) (gN true 16) (asB (eOp gEq (eCallP 1 1 s__law_draw (eCons (eC (.int 2)) eNil)) (eC (.int 0)))) (eV true 16)) eNil)) (en a2 (.sh (.int i)) a4 a5 a6 a7 a8 (.sh (eS names)) a10 a11 (.sh (eSS fam)) a13 a14 a15 a16) P = some (.nx, en a2 (.sh (.int i)) a4 a5 a6 a7 a8 (.sh (eS names)) a10 a11 (.sh (eSS fam)) (.sh (eS (sortN ys))) a14 a15 a16, P1) := sSetN_eq (eFn1 q (sorted_S ys))
  have l1 := ho.len k.nl
  have ht : asB (eOp gEq (vV true 3) (eC (.int 0))) (en a2 (.sh (.int i)) a4 a5 a6 a7 a8 (.sh (eS names)) a10 a11 (.sh (eSS fam)) (.sh (eS (sortN ys))) a14 a15 a16) P1 = some (decide (i = 0), P1) := asB_eq (eOp_eq (a := .int i) (b := .int 0) rfl rfl (gEq_int _ _))
  cases hi : decide (i = 0) with
  | false =>
    rw [hi] at ht
    refine ⟨.sh (eS (sortN ys)), P1, ?_, ok⟩
    rw [show hitBody = sSeq _ _ from rfl, sSeq_go t1, sSeq_go (sIf_f ht rfl)]
    exact hits_same k (by omega)
  | true =>
    rw [hi] at ht
    have hsl : eSl (vV true 13) (oAt (eC (.int 1))) oNo (en a2 (.sh (.int i)) a4 a5 a6 a7 a8 (.sh (eS names)) a10 a11 (.sh (eSS fam)) (.sh (eS (sortN ys))) a14 a15 a16) P1 = some (eS (sortN ys).tail, P1) := by
      refine eSl_eq (a := eS (sortN ys)) rfl rfl rfl ?_
      show some (PyData.list (PD.cutD ((sortN ys).map .str) (some 1) none)) = _
      rw [cut1, ← List.map_tail]
    have l2 : (sortN ys).tail.length ≤ 10 := by rw [List.length_tail]; omega
    have hadd : gAdd (eS [("q0" : Str)]) (eS (sortN ys).tail) = some (eS (("q0" : Str) :: (sortN ys).tail)) := gAdd_S [("q0" : Str)] _ (Nat.le_trans (show 1 + (sortN ys).tail.length ≤ 11 by omega) (by decide))
    have t2 : sSetN true 13 (eFn gSorted (eCons (eOp gAdd (eLst (eCons (eC (.str "q0")) eNil)) (eSl (vV true 13) (oAt (eC (.int 1))) oNo)) eNil)) (en a2 (.sh (.int i)) a4 a5 a6 a7 a8 (.sh (eS names)) a10 a11 (.sh (eSS fam)) (.sh (eS (sortN ys))) a14 a15 a16) P1 = some (.nx, en a2 (.sh (.int i)) a4 a5 a6 a7 a8 (.sh (eS names)) a10 a11 (.sh (eSS fam)) (.sh (eS (sortN (("q0" : Str) :: (sortN ys).tail)))) a14 a15 a16, P1) :=
      sSetN_eq (eFn1 (eOp_eq (a := eS [("q0" : Str)]) (eLst_eq (eCons_eq rfl eNil_eq) (show 1 ≤ sizeLine by decide)) hsl hadd) (sorted_S _))
    refine ⟨.sh (eS (sortN (("q0" : Str) :: (sortN ys).tail))), P1, ?_, ok⟩
    rw [show hitBody = sSeq _ _ from rfl, sSeq_go t1, sSeq_go (sIf_t ht t2)]
    exact hits_same k (by rw [sortN_len]; simp; omega)
theorem st_hits (k : Kn names fam) (h : PotOk P) : ∃ (b3 b13 : DV) (P1 : Pt), sFor (asR1 (eCons (eC (.int 4)) eNil)) (gN true 3) hitBody (en a2 a3 a4 a5 a6 a7 a8 (.sh (eS names)) a10 a11 (.sh (eSS fam)) a13 a14 a15 a16) P = some (.nx, en a2 b3 a4 a5 a6 a7 a8 (.sh (eS names)) a10 a11 (.sh (eSS fam)) b13 a14 a15 a16, P1) ∧ PotOk P1 := by
  obtain ⟨_, P2, ρ2, q2, ok2, ⟨b3, b13, e2⟩⟩ := forL_pn (τ := Unit) (enc := fun i : Nat => PyData.int (0 + (i : Int))) (xs := List.range 4) (st := ()) (P := P) (ρ := en a2 a3 a4 a5 a6 a7 a8 (.sh (eS names)) a10 a11 (.sh (eSS fam)) a13 a14 a15 a16) (tgt := gN true 3) (body := hitBody)
    (I := fun n st ρ => ∃ b3 b13, ρ = en a2 b3 a4 a5 a6 a7 a8 (.sh (eS names)) a10 a11 (.sh (eSS fam)) b13 a14 a15 a16)
    (fun n st P ρ i hi ok ⟨b3, b13, e⟩ => by
      subst e
      obtain ⟨c13, P2, q, ok2⟩ := hit_body (a2 := a2) (a4 := a4) (a5 := a5) (a6 := a6) (a7 := a7) (a8 := a8) (a10 := a10) (a11 := a11) (a13 := b13) (a14 := a14) (a15 := a15) (a16 := a16) k ok (i := 0 + (i : Int))
      exact ⟨_, _, (), P2, rfl, q, ok2, _, _, rfl⟩)
    h ⟨a3, a13, rfl⟩
  subst e2
  refine ⟨b3, b13, P2, ?_, ok2⟩
  unfold sFor
  rw [asR1_eq (j := 4) (P1 := P) rfl (by omega) (by omega)]
  exact q2
theorem st_none (k : Kn names fam) : sIf (eNot (asB (eCall 2 (s__law_same 12) (eCons (eCallK 2 s_hits (fun ds => pSwap [] ds) (eCons (eV true 12) (eCons (eLst eNil) eNil))) (eCons (eOp gEq (vV true 12) (eLst eNil)) eNil))))) (sRet (eC (.bool false))) sNil (en a2 a3 a4 a5 a6 a7 a8 a9 a10 a11 (.sh (eSS fam)) a13 a14 a15 a16) P = some (.nx, en a2 a3 a4 a5 a6 a7 a8 a9 a10 a11 (.sh (eSS fam)) a13 a14 a15 a16, P) := by
  have e : hitT [] fam = (fam.map eS).isEmpty := by
    cases fam with
    | nil => rfl
    | cons l fam => rfl
  have h1 : eCallK 2 s_hits (fun ds => pSwap [] ds) (eCons (eV true 12) (eCons (eLst eNil) eNil)) (en a2 a3 a4 a5 a6 a7 a8 a9 a10 a11 (.sh (eSS fam)) a13 a14 a15 a16) P = some (.bool (fam.map eS).isEmpty, P) := by
    unfold eCallK
    rw [eCons_eq (d := eSS fam) (P1 := P) (P2 := P) rfl (eCons_eq (eLst_eq eNil_eq (Nat.zero_le _)) eNil_eq)]
    show (if ([.list [], eSS fam] : List Dt).length = 2 then (match s_hits [eS [], eSS fam] with
      | some d => some (d, P)
      | none => none) else none) = _
    rw [s_hitsE, e]
    rfl
  exact st_same h1 (eOp_eq (a := eSS fam) (b := .list []) rfl (eLst_eq eNil_eq (Nat.zero_le _)) (gEq_nil _)) same_bool
theorem st_great (k : Kn names fam) (h : PotOk P) : ∃ P1, sIf (eAnd (asB (eOp gEq (eCallP 1 1 s__law_draw (eCons (eC (.int 8)) eNil)) (eC (.int 0)))) (eNot (asB (eCallP 1 1 s__law_great (eCons (eV true 12) eNil))))) (sRet (eC (.bool false))) sNil (en a2 a3 a4 a5 a6 a7 a8 a9 a10 a11 (.sh (eSS fam)) a13 a14 a15 a16) P = some (.nx, en a2 a3 a4 a5 a6 a7 a8 a9 a10 a11 (.sh (eSS fam)) a13 a14 a15 a16, P1) := by
  obtain ⟨z, P1, q, z0, z1, ok⟩ := eDraw (i := 1) (ρ := en a2 a3 a4 a5 a6 a7 a8 a9 a10 a11 (.sh (eSS fam)) a13 a14 a15 a16) (P := P) (f := eC (.int 8)) (m := 8) rfl rfl h (by omega) (by omega)
  obtain ⟨P2, q2, ok2⟩ := great_ok ok (fam := fam) (u := names) (by have := k.fl; omega) k.nl k.nm k.fo
  have tz := asB_eq (eOp_eq (h := gEq) (f2 := eC (.int 0)) q rfl (gEq_int z 0))
  cases hz : decide (z = 0) with
  | false =>
    rw [hz] at tz
    exact ⟨P1, sIf_f (eAnd_eq (k := false) (k1 := false) (P2 := P1) tz (fun h => by cases h) (fun _ => ⟨rfl, rfl⟩)) rfl⟩
  | true =>
    rw [hz] at tz
    exact ⟨P2, sIf_f (eAnd_eq (k := true) (k1 := false) tz (fun _ => eNot_eq (k := true) (asB_eq (eCallP1 rfl rfl q2))) (fun h => by cases h)) rfl⟩
theorem plain (ns : List Int) : LawPlain ns := by
  obtain ⟨P0, hp, ok0⟩ := pot_ok ns
  obtain ⟨many, P1, t1, m0, m1, ok1⟩ := st_many (a2 := .un) (a3 := .un) (a4 := .un) (a5 := .un) (a6 := .un) (a7 := .un) (a8 := .un) (a9 := .un) (a10 := .un) (a11 := .un) (a12 := .un) (a13 := .un) (a14 := .un) (a15 := .un) (a16 := .un) ok0
  obtain ⟨names, share, P2, t2, n0, nl, nd, nm, s1, s2, ok2⟩ := st_names (a3 := .un) (a4 := .un) (a5 := .un) (a6 := .un) (a7 := .un) (a8 := .un) (a9 := .un) (a10 := .un) (a11 := .un) (a12 := .un) (a13 := .un) (a14 := .un) (a15 := .un) (a16 := .un) ok1 m0 m1
  obtain ⟨most, t3, o1, o2⟩ := st_most (a3 := .un) (a4 := .un) (a5 := .un) (a6 := .un) (a7 := .un) (a8 := .un) (a9 := .sh (eS names)) (a10 := .sh (.int share)) (a11 := .un) (a12 := .un) (a13 := .un) (a14 := .un) (a15 := .un) (a16 := .un) (P := P2) (many := many)
  obtain ⟨fam0, b3, b13, P3, t4, f1, f2, ok3⟩ := st_fam (a2 := .sh (.int many)) (a3 := .un) (a4 := .un) (a5 := .un) (a6 := .un) (a7 := .un) (a8 := .un) (a13 := .un) (a14 := .un) (a15 := .un) (a16 := .un) ok2 s1 s2 o1 o2 n0 nl nd
  obtain ⟨fam, P4, t5, g1, g2, ok4⟩ := st_more (a2 := .sh (.int many)) (a3 := b3) (a4 := .un) (a5 := .un) (a6 := .un) (a7 := .un) (a8 := .un) (a9 := .sh (eS names)) (a10 := .sh (.int share)) (a11 := .sh (.int most)) (a13 := b13) (a14 := .un) (a15 := .un) (a16 := .un) ok3 f1 f2
  have k : Kn names fam := ⟨n0, nl, nd, nm, g1, g2⟩
  obtain ⟨t, ht, t6⟩ := st_par (a2 := .sh (.int many)) (a3 := b3) (a4 := .un) (a5 := .un) (a6 := .un) (a7 := .un) (a8 := .un) (a10 := .sh (.int share)) (a11 := .sh (.int most)) (a13 := b13) (a14 := .un) (a15 := .un) (a16 := .un) (P := P4) k
  obtain ⟨b6, P5, t10, ok5⟩ := st_bent (a2 := .sh (.int many)) (a3 := b3) (a4 := .sh (eSS ((allT (sortN names)).filter fun l => hitT l fam))) (a5 := .sh (eSS (dueT names fam))) (a6 := .un) (a7 := .un) (a8 := .un) (a10 := .sh (.int share)) (a11 := .sh (.int most)) (a13 := b13) (a14 := .sh (.str t)) (a15 := .sh (eS (sortN names))) (a16 := .un) k ok4
  obtain ⟨c3, c13, P6, t16, ok6⟩ := st_hits (a2 := .sh (.int many)) (a3 := b3) (a4 := .sh (eSS ((allT (sortN names)).filter fun l => hitT l fam))) (a5 := .sh (eSS (dueT names fam))) (a6 := b6) (a7 := .un) (a8 := .un) (a10 := .sh (.int share)) (a11 := .sh (.int most)) (a13 := b13) (a14 := .sh (.str t)) (a15 := .sh (eS (sortN names))) (a16 := .un) k ok5
  obtain ⟨P7, t18⟩ := st_great (a2 := .sh (.int many)) (a3 := c3) (a4 := .sh (eSS ((allT (sortN names)).filter fun l => hitT l fam))) (a5 := .sh (eSS (dueT names fam))) (a6 := b6) (a7 := .un) (a8 := .un) (a9 := .sh (eS names)) (a10 := .sh (.int share)) (a11 := .sh (.int most)) (a13 := c13) (a14 := .sh (.str t)) (a15 := .sh (eS (sortN names))) (a16 := .un) k ok6
  refine ⟨P0, en (.sh (.int many)) c3 (.sh (eSS ((allT (sortN names)).filter fun l => hitT l fam))) (.sh (eSS (dueT names fam))) b6 .un .un (.sh (eS names)) (.sh (.int share)) (.sh (.int most)) (.sh (eSS fam)) c13 (.sh (.str t)) (.sh (eS (sortN names))) .un, P7, hp, ?_⟩
  rw [show en0 = en .un .un .un .un .un .un .un .un .un .un .un .un .un .un .un from rfl]
  unfold g_law
  rw [sSeq_go t1, sSeq_go t2, sSeq_go t3, sSeq_go t4, sSeq_go t5, sSeq_go t6, sSeq_go (st_hitting k), sSeq_go (st_due k), sSeq_go (st_isfam k), sSeq_go t10, sSeq_go (st_thin k), sSeq_go (st_told k), sSeq_go (st_again k), sSeq_go (st_plain k), sSeq_go (st_dual k), sSeq_go t16, sSeq_go (st_none k), sSeq_go t18]
  refine sRet_eq (eOp_eq (a := .str t) (b := .str t) (eFn1 rfl ht) rfl ?_)
  rw [gEq_str]
  simp
end W62

theorem PySem.Challenge.cw_allreadings_k62_whole_least_hitting_lots_holds : PySem.Challenge.rw_allreadings_k62_whole_least_hitting_lots.Holds := by
  exact law_of_plain fun ns _ _ => W62.plain ns
